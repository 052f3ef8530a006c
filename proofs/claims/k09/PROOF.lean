import PyProof.Rows.All
import Wide.All
import OpenK.AllK
import Wide.FinOn
import KE.KStateDown
import Lean
import HandS.ForMost
import HandS.Flow
import HandS.IsInst
import HandS.Defaults
import HandS.Head0
import HandS.Head1
import HandS.Head2
import HandS.HeadEnd
import HandS.HeadHook1
import HandS.HeadHook2
import HandS.Evl
import HandS.Walk
import HandS.Replace
import KE.IntTextLaws
import HandS.Star
import HandS.Style
import KE.KUnpackStar
import PyProof.ReprRoads
import PyProof.ReprLen
import HandS.SlotsOwn
import HandS.Property
import HandS.ClsMeth
import HandS.HeadNt
import HandS.FStr
import HandS.Conv
import HandS.Codes
import KE.KOpsOwn
import KE.KCallOwn
import KE.KFmtOwn
import HandS.HeadHook3
import HandS.HeadHook4
import HandS.EndTab
import HandS.Exc
import HandS.ExcField
import HandS.ExcInit
import HandS.ExcIs
import HandS.TryMany
import KE.KSuper
import KE.KExcSuper
import KE.KExcInit
import PyProof.RulesRaise
import PyProof.FactsTree
import PyProof.ExcClass
import PyProof.ExcBaseAll.LookupError
import PyProof.Rows.FactsExc_KeyError
import KE.KIsAll
import KE.KExcIs
import HandS.ExcOwn
import HandS.CallSlots
import HandS.WordsExc
import HandS.TupAny
import HandS.ForDict
import PyProof.EqKinds
import HandS.More
import HandS.Zip
import HandS.ListItems
import HandS.MakeKwOnly
import KE.KStar
import HandS.NoneIn
import PyProof.EqAt
import HandS.DictEq
import PyProof.NeKinds
import KE.GoesEnum
import HandS.SortInts
import HandS.Set
import HandS.SetBool
import HandS.SetKeys
import HandS.TupSets
import HandS.Strs
import HandS.SortKw
import HandS.Deep
import HandS.Finally
import PyProof.DictUpdate
import KE.GoesMore
import KE.GoesZip
import KE.KEqDict
import PySem.Challenge.RW_filerights_k09_rights_refused
set_option Elab.async false
set_option linter.all false
set_option maxRecDepth 100000
set_option maxHeartbeats 4000000
namespace Fr
open PySem PySem.Spec PyProof.Rows L2
abbrev tCut := Evl.tCut
def mkS (l : List Nat) : Str := ⟨l.toArray⟩
theorem pss_cut {X : Cx} {st : Stmt} {rest : List Stmt} {t u : TS} (h1 : PS X st t) (h2 : PSs X rest u) : PSs X (st :: rest) (tCut t u) := Evl.pss_cut h1 h2

def Keep (S : List Addr) (H H' : Hp) : Prop := ∀ a o, H a = some o → (∃ o', H' a = some o') ∧ (a ∉ S → H' a = some o)
theorem Keep.refl {S : List Addr} (H : Hp) : Keep S H H := fun _ o h => ⟨⟨o, h⟩, fun _ => h⟩
theorem Keep.trans {S : List Addr} {H H1 H2 : Hp} (x : Keep S H H1) (y : Keep S H1 H2) : Keep S H H2 := fun a o h => by
  obtain ⟨⟨o1, h1⟩, k1⟩ := x a o h
  exact ⟨(y a o1 h1).1, fun n => (y a o (k1 n)).2 n⟩
theorem Keep.mono {S S' : List Addr} {H H1 : Hp} (x : Keep S H H1) (h : ∀ a, a ∈ S → a ∈ S') : Keep S' H H1 := fun a o e => ⟨(x a o e).1, fun n => (x a o e).2 fun z => n (h a z)⟩
theorem Keep.free {S : List Addr} {H H1 : Hp} (x : Keep S H H1) {p : Addr} (h : H1 p = none) : H p = none := by
  cases e : H p with
  | none => rfl
  | some o =>
    obtain ⟨⟨o1, h1⟩, _⟩ := x p o e
    rw [h1] at h
    cases h
theorem Keep.get {S : List Addr} {H H1 : Hp} (x : Keep S H H1) {p : Addr} {o : HO} (h : H p = some o) (n : p ∉ S) : H1 p = some o := (x p o h).2 n
theorem Keep.new {S : List Addr} {H : Hp} {p : Addr} {o : HO} (h : H p = none) : Keep S H (upd H p o) := fun a u e => by
  have n : a ≠ p := ne_of_none e h
  rw [upd_ne n]
  exact ⟨⟨u, e⟩, fun _ => e⟩
theorem Keep.set {S : List Addr} {H : Hp} {p : Addr} {o : HO} (h : p ∈ S) : Keep S H (upd H p o) := fun a u e => by
  by_cases n : a = p
  · subst n
    rw [upd_same]
    exact ⟨⟨o, rfl⟩, fun z => absurd h z⟩
  · rw [upd_ne n]
    exact ⟨⟨u, e⟩, fun _ => e⟩

def Bag (H : Hp) (b : Addr) (n : Nat) : Prop := ∃ x y z : Int, H b = some (.lst [.int x, .int y, .int z]) ∧ 0 ≤ x ∧ 0 ≤ y ∧ y < 2147483648 ∧ 0 ≤ z ∧ z ≤ n
theorem Bag.mono {H : Hp} {b : Addr} {n m : Nat} (h : Bag H b n) (l : n ≤ m) : Bag H b m := by
  obtain ⟨x, y, z, e, h1, h2, h3, h4, h5⟩ := h
  exact ⟨x, y, z, e, h1, h2, h3, h4, by omega⟩
def spTake : Sp := fun vs H Q _ => ∃ (b : Addr) (m : Int) (n : Nat), vs = [.ref b, .int m] ∧ 0 < m ∧ m < 1073741824 ∧ Bag H b n ∧ n < 1073741824 ∧
  ∀ r H', 0 ≤ r → r < m → Keep [b] H H' → Bag H' b (n + 1) → Q (.int r) H'

section
variable {K : PySem.W.Frag} {σ : L2.St} {H : Hp} {Q : VK} {D : Ends} {v x y : V} {ta tb tc : TE} {t u z : TS} {tt tu : TT} {tr : TA} {i : Nat} {p : Addr} {xs ys : List V} {a b : Int} {k : Bool} {QA : List V → Hp → Prop} {QT : Bool → Hp → Prop}
theorem w_seq (h : t { D with nx := u D } σ H) : tSeq t u D σ H := h
theorem w_next (h : D.nx σ H) : tNext D σ H := h
theorem w_ret (h : ta σ H D.rt) : tRet ta D σ H := h
theorem w_retN (h : D.rt .non H) : tRetN D σ H := h
theorem w_drop (h : ta σ H fun _ H1 => D.nx σ H1) : tDrop ta D σ H := h
theorem w_ifS (h : tt σ H fun b H1 => if b = true then t D σ H1 else u D σ H1) : tIfS tt t u D σ H := h
theorem w_asg {g : TG} (h : ta σ H fun x H1 => g x σ H1 D.nx) : tAsg ta g D σ H := h
theorem w_gname {q : L2.St → Hp → Prop} (h : q (σ.set i (some v)) H) : gName i v σ H q := h
theorem w_gsub {q : L2.St → Hp → Prop} {ts : TSet} (h : ta σ H fun o H1 => tb σ H1 fun i H2 => ts o i v H2 fun H3 => q σ H3) : gSub ta tb ts v σ H q := h
theorem w_setL {q : Hp → Prop} {j : Nat} (h : H p = some (.lst xs)) (hj : ixN xs.length a = some j) (k : q (upd H p (.lst (xs.set j v)))) : rSetL (.ref p) (.int a) v H q := ⟨p, xs, a, j, rfl, rfl, h, hj, k⟩
theorem w_gtup {n : Nat} {gs : TGs} {q : L2.St → Hp → Prop} (h : SqT K H p xs) (hl : xs.length = n) (k : gs xs σ H q) : gTup K n gs (.ref p) σ H q := ⟨p, xs, rfl, h, hl, k⟩
theorem w_gcons {g : TG} {gs : TGs} {q : L2.St → Hp → Prop} (h : g v σ H fun σ' H' => gs xs σ' H' q) : gCons g gs (v :: xs) σ H q := ⟨v, xs, rfl, h⟩
theorem w_gnil {q : L2.St → Hp → Prop} (h : q σ H) : gNil [] σ H q := ⟨rfl, h⟩
theorem w_par {j : Nat} (h : tr σ H fun vs H1 => ∃ v w, vs = [v, w] ∧ D.nx ((σ.set i (some v)).set j (some w)) H1) : tPar i j tr D σ H := h
theorem w_aug {ti : TIp} (hv : σ[i]? = some (some x)) (h : ta σ H fun y H1 => ti x y H1 fun z H2 => D.nx (σ.set i (some z)) H2) : tAug i ta ti D σ H := ⟨x, hv, h⟩
theorem w_ipI {f : Int → Int → Int} (h : Q (.int (f a b)) H) : ipI f (.int a) (.int b) H Q := ⟨a, b, rfl, rfl, h⟩
theorem w_var (hv : σ[i]? = some (some v)) (h : Q v H) : tVar i σ H Q := ⟨v, hv, h⟩
theorem w_c (h : Q v H) : tC v σ H Q := h
theorem w_op {r : R2} (h : ta σ H fun x H1 => tb σ H1 fun y H2 => r x y H2 Q) : tOp r ta tb σ H Q := h
theorem w_un {r : V → Hp → VK → Prop} (h : ta σ H fun x H1 => r x H1 Q) : tUn r ta σ H Q := h
theorem w_I0 {g : Int → Int → V} (h : Q (g a b) H) : rI0 g (.int a) (.int b) H Q := ⟨a, b, rfl, rfl, h⟩
theorem w_I {C : Int → Int → Prop} {g : Int → Int → V} (hc : C a b) (h : Q (g a b) H) : rI C g (.int a) (.int b) H Q := ⟨a, b, rfl, rfl, hc, h⟩
theorem w_U {g : Int → V} (h : Q (g a) H) : rU g (.int a) H Q := ⟨a, rfl, h⟩
theorem w_eq (hs : scal x y = true) (h : Q (.bl (decide (x = y))) H) : rEq x y H Q := ⟨hs, h⟩
theorem w_ne (hs : scal x y = true) (h : Q (.bl (!decide (x = y))) H) : rNe x y H Q := ⟨hs, h⟩
theorem w_ixL (h : H p = some (.lst xs)) (ha : atI xs a = some v) (q : Q v H) : rIxL K (.ref p) (.int a) H Q := ⟨p, xs, a, v, rfl, rfl, SqL.of h, ha, q⟩
theorem w_ixLS (h : SqL K H p xs) (ha : atI xs a = some v) (q : Q v H) : rIxL K (.ref p) (.int a) H Q := ⟨p, xs, a, v, rfl, rfl, h, ha, q⟩
theorem w_ixT (h : SqT K H p xs) (ha : atI xs a = some v) (q : Q v H) : rIxT K (.ref p) (.int a) H Q := ⟨p, xs, a, v, rfl, rfl, h, ha, q⟩
theorem w_nil (h : QA [] H) : tNil σ H QA := h
theorem w_cons (h : ta σ H fun x H1 => tr σ H1 fun xs H2 => QA (x :: xs) H2) : tCons ta tr σ H QA := h
theorem w_cb {r : List V → Hp → VK → Prop} (h : tr σ H fun vs H1 => r vs H1 Q) : tCB r tr σ H Q := h
theorem w_call {sp : Sp} {dvs : List V} {E : XK} (h : tr σ H fun vs H1 => sp (vs ++ dvs) H1 Q E) : tCall sp dvs E tr σ H Q := h
theorem w_if (h : tt σ H fun c H1 => if c = true then ta σ H1 Q else tb σ H1 Q) : tIf tt ta tb σ H Q := h
theorem w_lst (h : tr σ H fun xs H1 => xs.length ≤ sizeLine ∧ ∀ p, H1 p = none → Q (.ref p) (upd H1 p (.lst xs))) : tLst tr σ H Q := h
theorem w_tup (h : tr σ H fun xs H1 => xs.length ≤ sizeLine ∧ ∀ p, H1 p = none → Q (.ref p) (upd H1 p (.tup xs))) : tTup tr σ H Q := h
theorem w_test (h : ta σ H fun x H' => ∃ k, x = .bl k ∧ QT k H') : tTest ta σ H QT := h
theorem w_B (h : ta σ H fun x H' => ∃ k, x = .bl k ∧ QT k H') : tB ta σ H QT := h
theorem w_and (h : tt σ H fun c H1 => if c = true then tu σ H1 QT else QT false H1) : tAnd tt tu σ H QT := h
theorem w_or (h : tt σ H fun c H1 => if c = true then QT true H1 else tu σ H1 QT) : tOr tt tu σ H QT := h
theorem w_not (h : tt σ H fun c H1 => QT (!c) H1) : tNot tt σ H QT := h
theorem w_yes (h : QT true H) : tYes σ H QT := h
theorem w_andV (h : ta σ H fun x H1 => ∃ c, x = .bl c ∧ if c = true then tb σ H1 Q else Q (.bl false) H1) : tAndV ta tb σ H Q := h
theorem w_orV (h : ta σ H fun x H1 => ∃ c, x = .bl c ∧ if c = true then Q (.bl true) H1 else tb σ H1 Q) : tOrV ta tb σ H Q := h
theorem w_notV (h : ta σ H fun x H1 => ∃ c, x = .bl c ∧ Q (.bl (!c)) H1) : tNotV ta σ H Q := h
theorem w_orT (h : ta σ H fun x H1 => ∃ k, TruV K x H1 k ∧ if k = true then Q x H1 else tb σ H1 Q) : tOrT K ta tb σ H Q := h
theorem w_chain {r r' : R2} (h : ta σ H fun x H1 => tb σ H1 fun y H2 => r x y H2 fun z H3 => ∃ k, z = .bl k ∧ (if k = true then tc σ H3 fun w' H4 => r' y w' H4 Q else Q (.bl false) H3)) : tChain r r' ta tb tc σ H Q := h
theorem w_m1 {r : V → List V → Hp → VK → Prop} (h : ta σ H fun x H1 => (∃ a, x = .str a) ∧ tb σ H1 fun y H2 => r x [y] H2 Q) : tM1 r ta tb σ H Q := h
theorem w_isS {z : Str} {P : Prop} (h : P) : (∃ a, V.str z = .str a) ∧ P := ⟨⟨z, rfl⟩, h⟩
theorem w_bm {T : String} {r : V → List V → Hp → VK → Prop} (h : ta σ H fun x H1 => tyV K T x H1 ∧ tr σ H1 fun xs H2 => r x xs H2 Q) : tBM K T r ta tr σ H Q := h
theorem w_bm0 {T : String} {r : V → List V → Hp → VK → Prop} (h : ta σ H fun x H1 => tyV K T x H1 ∧ r x [] H1 Q) : tBM0 K T r ta σ H Q := h
theorem w_tyL {P : Prop} (h : H p = some (.lst xs)) (q : P) : tyV K "list" (.ref p) H ∧ P := ⟨.inl ⟨rfl, xs, SqL.of h⟩, q⟩
theorem w_sl {r : V → Option Int → Option Int → Hp → VK → Prop} {tl th : TO} (h : ta σ H fun x H1 => tl σ H1 fun l H2 => th σ H2 fun u H3 => r x l u H3 Q) : tSl r ta tl th σ H Q := h
theorem w_noPart {q : Option Int → Hp → Prop} (h : q none H) : tNoPart σ H q := h
theorem w_part {q : Option Int → Hp → Prop} (h : ta σ H fun x H1 => ∃ i, x = .int i ∧ q (some i) H1) : tPart ta σ H q := h
theorem w_slS {z : Str} {lo hi : Option Int} (h : z.length ≤ sizeLine) (q : Q (.str (cutS z lo hi)) H) : rSlS (.str z) lo hi H Q := ⟨z, rfl, h, q⟩
/-- a test's two ways -/
theorem w_ite {c A B : Prop} [Decidable c] (h1 : c → A) (h2 : ¬ c → B) : if decide c = true then A else B := by
  by_cases h : c
  · rw [if_pos (decide_eq_true h)]
    exact h1 h
  · rw [if_neg (fun z => h (of_decide_eq_true z))]
    exact h2 h
end

def fd0 : FuncData := PySem.W.fnOf "" "" { posonlyargs := [], args := [], vararg := none, kwonlyargs := [], kw_defaults := [], kwarg := none, defaults := [] } [] { kind := .function, names := [], isGenerator := false, isCoroutine := false } .none .none .none .none none .none .none
def fdOf (K : PySem.W.Frag) (f : Addr) : FuncData := match K.lookup f with
  | some ⟨_, _, .func fd, _⟩ => fd
  | _ => fd0
theorem _root_.L2.FunD.toFd {K : PySem.W.Frag} {x qual : Str} {params : Arguments} {body : List Stmt} {scope : Scope} {dvs : List V} {kws : List (Str × V)} {f : Addr} {fd : FuncData} (F : FunD K x qual params body scope dvs kws f fd) : FunD K x qual params body scope dvs kws f (fdOf K f) := by
  obtain ⟨oc, od, dV, kV, doc, pm, an, cdv, ct, osl, e, lk, _⟩ := F.ex
  have h : fdOf K f = fd := by
    unfold fdOf
    rw [lk]
  rw [h]
  exact F
def pick {α : Type} (idx : List Nat) (xs : List α) : List α := idx.filterMap fun i => xs[i]?
section
variable {X : Cx} {CX : CXT} {k n : Nat} {f : Addr} {fd : FuncData} {ps ks : List Str} {sp : Sp} {E : XK} {x : Str} {p pos : Pos} {e : Expr} {es : List Expr} {kws : List Keyword} {t tk : TA} {ds : List V} {idx : List Nat}
def tCallZ (n m : Nat) (sp : Sp) (ds : List V) (idx : List Nat) (E : XK) (t tk : TA) : TE := fun σ H Q => t σ H fun vs H1 => tk σ H1 fun zs H2 => vs.length = n ∧ zs.length = m ∧ sp (pick idx (vs ++ ds ++ zs)) H2 Q E
theorem w_callZ {n m : Nat} {σ : L2.St} {H : Hp} {Q : VK} (h : t σ H fun vs H1 => tk σ H1 fun zs H2 => vs.length = n ∧ zs.length = m ∧ sp (pick idx (vs ++ ds ++ zs)) H2 Q E) : tCallZ n m sp ds idx E t tk σ H Q := h
end

def spCell (K : PySem.W.Frag) : Sp := fun vs H Q _ => ∃ (a : Addr) (ns : List Int) (k : Nat), vs = [.ref a, .int (k : Nat)] ∧ SqL K H a (ns.map V.int) ∧ k < 1000 ∧ ∀ r : Int, Q (.int r) H
def spBag : Sp := fun vs H Q _ => ∃ n : Int, vs = [.int n] ∧ ∀ p o, H p = none → Bag (upd H p o) p 0 → Q (.ref p) (upd H p o)
theorem len_ints {ns : List Int} : (ns.map V.int).length = ns.length := List.length_map _
theorem at_ints {ns : List Int} {k : Nat} (h : k < ns.length) : atI (ns.map V.int) (k : Nat) = some (.int ns[k]) := atI_nat (by rw [List.getElem?_map, List.getElem?_eq_getElem h]; rfl)
theorem w_nF {A B : Prop} (h : B) : if (!true) = true then A else B := iteF h
theorem w_nT {A B : Prop} (h : A) : if (!false) = true then A else B := iteT h

abbrev tl (z : Str) : List Nat := z.cps.toList
theorem tl_mkS (l : List Nat) : tl (mkS l) = l := rfl
theorem len_tl (z : Str) : z.length = (tl z).length := TL.len_tl z
theorem mkS_inj {a b : List Nat} (h : mkS a = mkS b) : a = b := by
  have e := congrArg tl h
  exact e
def cut1 (c : Nat) : List Nat → List Nat → List (List Nat)
  | acc, [] => [acc]
  | acc, d :: r => if d = c then acc :: cut1 c [] r else cut1 c (acc ++ [d]) r
/-- flat things in a list of texts -/
theorem flat_strs (l : List Str) : (l.map V.str).all flatV = true := by simp [flatV]
section
variable {K : PySem.W.Frag} {σ : L2.St} {H H1 : Hp} {Q : VK} {D : Ends} {g : TG} {tb : TS} {wi : TI} {J : It} {tt : TT} {te ta : TE} {vs : List Nat} {tr : TA}
def ForGo (J : It) (g : TG) (tb : TS) (D : Ends) (σ : L2.St) (H1 : Hp) : Prop := ∃ W : Nat → Nat → L2.St → Hp → Prop, (∃ m, W 0 m σ H1) ∧ ∀ i m σ H, W i m σ H →
  (J.stop i H ∧ D.nx σ H) ∨ (J.go i H ∧ ∃ N : L2.St → Hp → Prop, (∀ σ' H', N σ' H' → ∃ m', m' < m ∧ W (i + 1) m' σ' H') ∧ ∀ x H', J.yld i H x H' → g x σ H' fun σ2 H2 => tb { D with nx := N, ct := N, bk := D.nx } σ2 H2)
theorem w_for (h : wi σ H fun J H1 => ForGo J g tb D σ H1) : tFor wi g tb D σ H := h
def LcGo (J : It) (g : TG) (tt : TT) (te : TE) (vs : List Nat) (σ : L2.St) (H1 : Hp) (D : Addr) (Qd : Hp → Prop) : Prop := ∃ W : Nat → Nat → Hp → Prop, (∃ m, W 0 m (upd H1 D (.lst []))) ∧ ∀ i m H, W i m H →
  (J.stop i H ∧ Qd H) ∨ (J.go i H ∧ ∃ Nx : Hp → Prop, (∀ H', Nx H' → ∃ m', m' < m ∧ W (i + 1) m' H') ∧ ∀ x H', J.yld i H x H' → g x (wipe σ vs) H' fun σ2 H2 => wipe σ2 vs = wipe σ vs ∧ tt σ2 H2 fun b H3 =>
    if b = true then te σ2 H3 fun y H4 => ∃ acc, H4 D = some (.lst acc) ∧ acc.length < sizeLine ∧ Nx (upd H4 D (.lst (acc ++ [y]))) else Nx H3)
theorem w_lc (h : wi σ H fun J H1 => ∀ D, H1 D = none → LcGo J g tt te vs σ H1 D fun H => Q (.ref D) H) : tLc wi g tt te vs σ H Q := h
theorem w_iStr {R : It → Hp → Prop} (h : ta σ H fun v H1 => ∃ x, v = .str x ∧ R (Its x) H1) : iStr ta σ H R := h
theorem w_iList {R : It → Hp → Prop} (h : ta σ H fun x H1 => ∃ a, x = .ref a ∧ (∃ xs, SqL K H1 a xs) ∧ R (Itl K a) H1) : iList K ta σ H R := h
theorem w_iTup {R : It → Hp → Prop} (h : ta σ H fun x H1 => ∃ a, x = .ref a ∧ (∃ xs, SqT K H1 a xs) ∧ R (Itt K a) H1) : iTup K ta σ H R := h
theorem w_iRng1 {R : It → Hp → Prop} (h : tr σ H fun vs H1 => ∃ j : Int, vs = [.int j] ∧ -(2 ^ 62) ≤ j ∧ j < 2 ^ 62 ∧ R (Itr 0 j.toNat) H1) : iRng1 tr σ H R := h
end
theorem lt_line {n : Nat} (h : n < 16777216) : n < sizeLine := by rw [sizeLine_eq]; exact h
theorem le_line {n : Nat} (h : n ≤ 16777216) : n ≤ sizeLine := by rw [sizeLine_eq]; exact h
theorem tl_app (x y : Str) : tl (x ++ y) = tl x ++ tl y := TL.tl_append x y
theorem take_go {b : Addr} {m : Int} {n : Nat} {H : Hp} {Q : VK} {E : XK} (hm0 : 0 < m) (hm1 : m < 1073741824) (hB : Bag H b n) (hn : n < 1073741824) (q : ∀ r H', 0 ≤ r → r < m → Keep [b] H H' → Bag H' b (n + 1) → Q (.int r) H') : spTake [.ref b, .int m] H Q E := ⟨b, m, n, rfl, hm0, hm1, hB, hn, q⟩
theorem Bag.new {H : Hp} {b p : Addr} {n : Nat} {o : HO} (h : Bag H b n) (hp : H p = none) : Bag (upd H p o) b n := by
  obtain ⟨x, y, z, e, r⟩ := h
  exact ⟨x, y, z, by rw [upd_ne (ne_of_none e hp)]; exact e, r⟩
theorem Bag.ne {H : Hp} {b p : Addr} {n : Nat} (h : Bag H b n) (hp : H p = none) : p ≠ b := by
  obtain ⟨x, y, z, e, r⟩ := h
  exact (ne_of_none e hp).symm
theorem Bag.upd {H : Hp} {b p : Addr} {n : Nat} {o : HO} (h : Bag H b n) (hp : b ≠ p) : Bag (upd H p o) b n := by
  obtain ⟨x, y, z, e, r⟩ := h
  exact ⟨x, y, z, by rw [upd_ne hp]; exact e, r⟩
theorem Keep.upd {S : List Addr} {H H1 : Hp} {p : Addr} {o : HO} (k : Keep S H H1) (hp : p ∈ S) : Keep S H (L2.upd H1 p o) := k.trans (Keep.set hp)
theorem joinL_len (S : List Nat) : ∀ l : List (List Nat), (TL.joinL S l).length ≤ (l.map List.length).sum + l.length * S.length
  | [] => by simp [TL.joinL]
  | [p] => by simp [TL.joinL]
  | p :: q :: r => by
    have ih := joinL_len S (q :: r)
    show (p ++ (S ++ TL.joinL S (q :: r))).length ≤ _
    simp only [List.length_append, List.map_cons, List.sum_cons, List.length_cons, Nat.add_mul, Nat.one_mul] at ih ⊢
    omega
theorem tl_join (a : Str) (ys : List Str) : tl (Txt.join a ys) = TL.joinL (tl a) (ys.map tl) := by
  rw [TL.join_eq]
  exact TL.tl_join a ys
theorem join_len (a : Str) (ys : List Str) : (Txt.join a ys).length ≤ (ys.map (·.length)).sum + ys.length * a.length := by
  have h := joinL_len (tl a) (ys.map tl)
  rw [len_tl, tl_join]
  have e : (ys.map tl).map List.length = ys.map (·.length) := by
    rw [List.map_map]
    exact List.map_congr_left fun x _ => (len_tl x).symm
  rw [e, List.length_map, ← len_tl a] at h
  exact h
theorem sum_le {l : List Nat} {m : Nat} (h : ∀ x ∈ l, x ≤ m) : l.sum ≤ l.length * m := by
  induction l with
  | nil => simp
  | cons x r ih =>
    have h1 := h x (List.mem_cons_self ..)
    have h2 := ih fun y hy => h y (List.mem_cons_of_mem _ hy)
    simp only [List.sum_cons, List.length_cons, Nat.add_mul, Nat.one_mul]
    omega
theorem at_head {α : Type} {x : α} {r : List α} : atI (x :: r) 0 = some x := atI_nat (j := 0) rfl
theorem joinL_ones : ∀ cs : List Nat, TL.joinL [] (cs.map fun c => [c]) = cs
  | [] => rfl
  | [c] => rfl
  | c :: d :: r => by
    show [c] ++ ([] ++ TL.joinL [] ((d :: r).map fun c => [c])) = _
    rw [joinL_ones (d :: r)]
    rfl
theorem join_ones (cs : List Nat) : Txt.join "" (cs.map fun c => mkS [c]) = mkS cs := by
  refine TL.ext_tl ?_
  show tl _ = tl _
  rw [tl_join, List.map_map]
  exact joinL_ones cs
def Asc (z : Str) : Prop := ∀ c ∈ tl z, c < 128
theorem Asc.app {x y : Str} (hx : Asc x) (hy : Asc y) : Asc (x ++ y) := fun c hc => by
  rw [tl_app] at hc
  rcases List.mem_append.mp hc with h | h
  · exact hx c h
  · exact hy c h
theorem Asc.ok {z : Str} (h : Asc z) : PyData.strOk z = true := by
  unfold PyData.strOk
  rw [Array.all_eq_true]
  intro i hi
  have := h z.cps[i] (by simp [tl])
  simp
  omega
theorem Asc.mk {l : List Nat} (h : ∀ c ∈ l, c < 128) : Asc (mkS l) := h
theorem mem_joinL {S : List Nat} {c : Nat} : ∀ {l : List (List Nat)}, c ∈ TL.joinL S l → c ∈ S ∨ ∃ p ∈ l, c ∈ p
  | [], h => by cases h
  | [p], h => .inr ⟨p, List.mem_singleton.mpr rfl, h⟩
  | p :: q :: r, h => by
    have h : c ∈ p ++ (S ++ TL.joinL S (q :: r)) := h
    rcases List.mem_append.mp h with h | h
    · exact .inr ⟨p, List.mem_cons_self .., h⟩
    rcases List.mem_append.mp h with h | h
    · exact .inl h
    rcases mem_joinL h with h | ⟨x, hx, h⟩
    · exact .inl h
    · exact .inr ⟨x, List.mem_cons_of_mem _ hx, h⟩
theorem Asc.join {a : Str} {ys : List Str} (h : Asc a) (hs : ∀ y ∈ ys, Asc y) : Asc (Txt.join a ys) := fun c hc => by
  rw [tl_join] at hc
  rcases mem_joinL hc with z | ⟨p, hp, z⟩
  · exact h c z
  · obtain ⟨y, hy, rfl⟩ := List.mem_map.mp hp
    exact hs y hy c z
theorem cut1_sub (c : Nat) : ∀ (l acc : List Nat) (p : List Nat), p ∈ cut1 c acc l → ∀ d ∈ p, d ∈ acc ∨ d ∈ l
  | [], acc, p, hp, d, hd => by
    have : p = acc := by simpa [cut1] using hp
    exact .inl (this ▸ hd)
  | e :: r, acc, p, hp, d, hd => by
    unfold cut1 at hp
    split at hp
    · rcases List.mem_cons.mp hp with h | h
      · exact .inl (h ▸ hd)
      · rcases cut1_sub c r [] p h d hd with h | h
        · cases h
        · exact .inr (List.mem_cons_of_mem _ h)
    · rcases cut1_sub c r (acc ++ [e]) p hp d hd with h | h
      · rcases List.mem_append.mp h with h | h
        · exact .inl h
        · exact .inr (by simp at h; simp [h])
      · exact .inr (List.mem_cons_of_mem _ h)
theorem Asc.cut1 {z : Str} (h : Asc z) {c : Nat} {p : List Nat} (hp : p ∈ Fr.cut1 c [] (tl z)) : Asc (mkS p) := fun d hd => by
  rcases cut1_sub c (tl z) [] p hp d hd with h' | h'
  · cases h'
  · exact h d h'
theorem Asc.cutS {z : Str} (h : Asc z) (lo hi : Option Int) : Asc (L2.cutS z lo hi) := fun c hc => by
  unfold L2.cutS at hc
  exact h c (List.mem_of_mem_drop (List.mem_of_mem_take hc))
theorem lay_strs : ∀ l : List Str, (∀ x ∈ l, Asc x) → PyData.canLayAll0 (l.map PyData.str) = true ∧ PyData.depthAll (l.map PyData.str) = 0
  | [], _ => ⟨rfl, rfl⟩
  | x :: l, h => by
    obtain ⟨a, b⟩ := lay_strs l fun y hy => h y (List.mem_cons_of_mem _ hy)
    constructor
    · simp [PyData.canLayAll0, PyData.canLay0, a, (h x (List.mem_cons_self ..)).ok]
    · simp [PyData.depthAll, PyData.depth, b]
theorem shaped_strs {l : List Str} (h : ∀ x ∈ l, Asc x) : SeqAt.shaped (.list (l.map PyData.str)) = true := by
  obtain ⟨a, b⟩ := lay_strs l h
  unfold SeqAt.shaped
  simp [PyData.canLay0, a, PyData.depth, b]
theorem Keep.fresh {S : List Addr} {H H1 : Hp} (k : Keep S H H1) (h : ∀ p ∈ S, H p = none) : Keep [] H H1 := fun a o e => ⟨(k a o e).1, fun _ => (k a o e).2 fun z => by
  rw [h a z] at e
  cases e⟩
theorem Keep.sqL {K : PySem.W.Frag} {H H1 : Hp} {a : Addr} {xs : List V} (k : Keep [] H H1) (h : SqL K H a xs) : SqL K H1 a xs := by
  rcases h with (h | ⟨o, h⟩) | h
  · exact .inl (.inl (k.get h (by simp)))
  · exact .inl (.inr ⟨o, k.get h (by simp)⟩)
  · exact .inr h
def NotStr (K : PySem.W.Frag) (H : Hp) (v : V) : Prop := ∃ T, TyX K H v (.type T) ∧ kitB T "str" = some false
def rAddT : R2 := fun x y H Q => ∃ i j, x = .str i ∧ y = .str j ∧ i.length + j.length ≤ sizeLine ∧ Q (.str (i ++ j)) H
theorem w_addT {H : Hp} {Q : VK} {a b : Str} (h : a.length + b.length ≤ 16777216) (q : Q (.str (a ++ b)) H) : rAddT (.str a) (.str b) H Q := ⟨a, b, rfl, rfl, le_line h, q⟩
theorem app_len (a b : Str) : (a ++ b).length = a.length + b.length := by
  rw [len_tl, tl_app, List.length_append, ← len_tl, ← len_tl]
theorem mkS_len (l : List Nat) : (mkS l).length = l.length := rfl
theorem w_dnewK {σ : L2.St} {H : Hp} {Q : VK} (h : ∀ p, H p = none → Q (.ref p) (upd H p (.dK []))) : tDNewK σ H Q := h
theorem stay {H : Hp} {p q : Addr} {o u : HO} (h : H q = some o) (hp : H p = none) : upd H p u q = some o := by
  rw [upd_ne (ne_of_none h hp)]
  exact h
theorem Bag.keep0 {H H' : Hp} {b : Addr} {n : Nat} (h : Bag H b n) (k : Keep [] H H') : Bag H' b n := by
  obtain ⟨x, y, z, e, r⟩ := h
  exact ⟨x, y, z, k.get e (by simp), r⟩
theorem Keep.up {b : Addr} {H H' : Hp} (k : Keep [] H H') : Keep [b] H H' := k.mono (by simp)
theorem tyX_keep {K : PySem.W.Frag} {H H' : Hp} {x : V} {t : Value} (h : TyX K H x t) (k : Keep [] H H') : TyX K H' x t := by
  have g : ∀ {a : Addr} {o : HO}, H a = some o → H' a = some o := fun e => k.get e (by simp)
  cases h with
  | base b =>
    cases b with
    | non => exact .base .non
    | bl y => exact .base (.bl y)
    | int i => exact .base (.int i)
    | str y => exact .base (.str y)
    | flt y => exact .base (.flt y)
    | lst e => exact .base (.lst (g e))
    | frz e => exact .base (.frz (g e))
    | tup e => exact .base (.tup (g e))
    | dK e => exact .base (.dK (g e))
    | dT e => exact .base (.dT (g e))
    | ins e c1 c2 c3 c4 c5 => exact .base (.ins (g e) c1 c2 c3 c4 c5)
  | byt y => exact .byt y
  | set e => exact .set (g e)
  | kList e c => exact .kList e c
  | kTuple e c => exact .kTuple e c
  | kDict e c => exact .kDict e c
  | fTuple e => exact .fTuple (g e)
  | fDict e => exact .fDict (g e)
theorem NotStr.keep {K : PySem.W.Frag} {H H' : Hp} {v : V} (h : NotStr K H v) (k : Keep [] H H') : NotStr K H' v := by
  obtain ⟨T, ty, e⟩ := h
  exact ⟨T, tyX_keep ty k, e⟩

def isLow (c : Nat) : Bool := decide (97 ≤ c ∧ c ≤ 122)
def nameL (l : List Nat) : Bool := decide (1 ≤ l.length ∧ l.length ≤ 8) && l.all isLow
def pathL : List Nat → Bool
  | 47 :: r => r.isEmpty || (cut1 47 [] r).all nameL
  | _ => false
/-- of no class that answers isinstance(.., str) -/
def NoStr (K : PySem.W.Frag) (H : Hp) (v : V) : Prop := ∃ t, TyX K H v t ∧ PySem.W.kitOne K t (.type "str") = some false
theorem NotStr.no {K : PySem.W.Frag} {H : Hp} {v : V} (h : NotStr K H v) : NoStr K H v := by
  obtain ⟨T, ty, e⟩ := h
  exact ⟨_, ty, kit_ty e⟩
theorem NoStr.keep {K : PySem.W.Frag} {H H' : Hp} {v : V} (h : NoStr K H v) (k : Keep [] H H') : NoStr K H' v := by
  obtain ⟨T, ty, e⟩ := h
  exact ⟨T, tyX_keep ty k, e⟩
theorem Bag.out {H : Hp} {b p : Addr} {n : Nat} {o : HO} (hB : Bag H b n) (e : H p = some o) (h : ∀ x y z : Int, o ≠ .lst [.int x, .int y, .int z]) : p ∉ [b] := by
  obtain ⟨x, y, z, e2, _⟩ := hB
  intro hp
  have : p = b := by simpa using hp
  subst this
  rw [e] at e2
  exact h x y z (Option.some.inj e2)
theorem Bag.take {H H' : Hp} {b p : Addr} {n : Nat} {o : HO} (hB : Bag H b n) (k : Keep [b] H H') (e : H p = some o) (h : ∀ x y z : Int, o ≠ .lst [.int x, .int y, .int z]) : H' p = some o := k.get e (hB.out e h)
def Plain (T : String) : Prop := T = "NoneType" ∨ T = "bool" ∨ T = "int" ∨ T = "list" ∨ T = "tuple" ∨ T = "dict"
def Thing (K : PySem.W.Frag) (H : Hp) (v : V) : Prop := (∃ z, v = .str z ∧ z.length ≤ 10000 ∧ Asc z) ∨ (∃ T, TyX K H v (.type T) ∧ Plain T)
theorem Thing.keep {K : PySem.W.Frag} {H H' : Hp} {v : V} (h : Thing K H v) (k : Keep [] H H') : Thing K H' v := by
  rcases h with h | ⟨T, ty, p⟩
  · exact .inl h
  · exact .inr ⟨T, tyX_keep ty k, p⟩
def isSeq (T : String) : Bool := T == "list" || T == "tuple"
theorem Plain.seq {K : PySem.W.Frag} {T : String} (p : Plain T) : PySem.W.kitAny K (.type T) [.type "list", .type "tuple"] = some (isSeq T) := by
  rcases p with rfl | rfl | rfl | rfl | rfl | rfl
  · exact kitAny_cons (b := false) (kit_ty (by decide +kernel)) (fun _ => kitAny_cons (b := false) (kit_ty (by decide +kernel)) (fun _ => kitAny_nil) (fun z => by cases z)) (fun z => by cases z)
  · exact kitAny_cons (b := false) (kit_ty (by decide +kernel)) (fun _ => kitAny_cons (b := false) (kit_ty (by decide +kernel)) (fun _ => kitAny_nil) (fun z => by cases z)) (fun z => by cases z)
  · exact kitAny_cons (b := false) (kit_ty (by decide +kernel)) (fun _ => kitAny_cons (b := false) (kit_ty (by decide +kernel)) (fun _ => kitAny_nil) (fun z => by cases z)) (fun z => by cases z)
  · exact kitAny_cons (b := true) (kit_ty (by decide +kernel)) (fun z => by cases z) (fun _ => rfl)
  · exact kitAny_cons (b := false) (kit_ty (by decide +kernel)) (fun _ => kitAny_cons (b := true) (kit_ty (by decide +kernel)) (fun z => by cases z) (fun _ => rfl)) (fun z => by cases z)
  · exact kitAny_cons (b := false) (kit_ty (by decide +kernel)) (fun _ => kitAny_cons (b := false) (kit_ty (by decide +kernel)) (fun _ => kitAny_nil) (fun z => by cases z)) (fun z => by cases z)
theorem w_disp {trs : List (TE × TE)} {σ : L2.St} {H : Hp} {Q : VK} (h : ∀ p, H p = none → tPairs trs σ (upd H p (.dK [])) fun ps H2 => H2 p = some (.dK []) ∧ ∃ kvs : List (Key × V), ps = kvs.map (fun kv => (kV kv.1, kv.2)) ∧ kvs.length ≤ 15 ∧ Q (.ref p) (upd H2 p (.dK (mergeK [] kvs)))) : tDisp trs σ H Q := h
theorem w_pcons {tk tv : TE} {r : List (TE × TE)} {σ : L2.St} {H : Hp} {QP : List (V × V) → Hp → Prop} (h : tk σ H fun x H1 => tv σ H1 fun y H2 => tPairs r σ H2 fun ps H3 => QP ((x, y) :: ps) H3) : tPairs ((tk, tv) :: r) σ H QP := h
theorem w_pnil {σ : L2.St} {H : Hp} {QP : List (V × V) → Hp → Prop} (h : QP [] H) : tPairs [] σ H QP := h

section
variable {X : Cx} {K : PySem.W.Frag}
theorem ix_listB (e : X.K = K) : IxR X (rIxL K) := by subst e; exact ix_list
end
end Fr
set_option Elab.async false
set_option linter.all false
set_option maxRecDepth 100000
set_option maxHeartbeats 4000000
namespace Fr
open PySem PySem.Spec PyProof.Rows L2 PySem.W PySem.Calls

def spStar (m : Nat) (sp : Sp) : Sp := fun vs H Q E => ∃ ws rest, vs = ws ++ rest ∧ ws.length = m ∧ rest.length ≤ sizeLine ∧ ∀ p, H p = Option.none → sp (ws ++ [V.ref p]) (upd H p (.tup rest)) Q E
section
variable {X : Cx} {CX : CXT} {k : Nat} {f : Addr} {sp : Sp} {E : XK} {x : Str} {e : Expr} {es : List Expr} {t : TA} {p pos : Pos}
def tCallR (sp : Sp) (E : XK) (t : TA) : TE := fun σ H Q => t σ H fun vs H1 => sp vs H1 Q E
theorem w_callR {σ : L2.St} {H : Hp} {Q : VK} (h : t σ H fun vs H1 => sp vs H1 Q E) : tCallR sp E t σ H Q := h
end

section
variable {X : Cx} {K : PySem.W.Frag}
def rLenS (K : PySem.W.Frag) : List V → Hp → VK → Prop := fun xs H Q => ∃ p ys, xs = [V.ref p] ∧ (SqL K H p ys ∨ SqT K H p ys) ∧ Q (.int ys.length) H
end
theorem w_slL {K : PySem.W.Frag} {H : Hp} {Q : VK} {a : Addr} {xs : List V} {lo hi : Option Int} (h : SqL K H a xs) (k : ∀ p, H p = none → Q (.ref p) (upd H p (.lst (cutV xs lo hi)))) : rSlL K (.ref a) lo hi H Q := ⟨a, xs, rfl, h, k⟩
theorem w_lenSL {K : PySem.W.Frag} {H : Hp} {Q : VK} {p : Addr} {ys : List V} (h : SqL K H p ys) (q : Q (.int ys.length) H) : rLenS K [.ref p] H Q := ⟨p, ys, rfl, .inl h, q⟩
def pth (ns : List (List Nat)) : Str := mkS (47 :: TL.joinL [47] ns)
def Nms (ns : List (List Nat)) : Prop := (∀ n ∈ ns, nameL n = true) ∧ ns.length ≤ 1000
theorem Nms.nil : Nms [] := ⟨fun n h => (by cases h), by decide⟩
theorem Nms.take {ns : List (List Nat)} (h : Nms ns) (k : Nat) : Nms (ns.take k) := ⟨fun n hn => h.1 n (List.mem_of_mem_take hn), by rw [List.length_take]; have := h.2; omega⟩
theorem name_len {n : List Nat} (h : nameL n = true) : 1 ≤ n.length ∧ n.length ≤ 8 := by
  unfold nameL at h
  rw [Bool.and_eq_true] at h
  exact of_decide_eq_true h.1
theorem name_low {n : List Nat} (h : nameL n = true) : ∀ c ∈ n, 97 ≤ c ∧ c ≤ 122 := by
  unfold nameL at h
  rw [Bool.and_eq_true, List.all_eq_true] at h
  exact fun c hc => of_decide_eq_true (h.2 c hc)
theorem name_asc {n : List Nat} (h : nameL n = true) : Asc (mkS n) := fun c hc => by
  have := name_low h c hc
  omega
theorem Nms.asc {ns : List (List Nat)} (h : Nms ns) : ∀ z ∈ ns.map mkS, Asc z := fun z hz => by
  obtain ⟨n, hn, rfl⟩ := List.mem_map.mp hz
  exact name_asc (h.1 n hn)
theorem Nms.join_len {ns : List (List Nat)} (h : Nms ns) : (TL.joinL [47] ns).length ≤ 9 * ns.length := by
  have h1 := joinL_len [47] ns
  have h2 : (ns.map List.length).sum ≤ (ns.map List.length).length * 8 := sum_le fun x hx => by
    obtain ⟨n, hn, rfl⟩ := List.mem_map.mp hx
    exact (name_len (h.1 n hn)).2
  rw [List.length_map] at h2
  simp only [List.length_cons, List.length_nil] at h1
  omega
theorem Nms.len {ns : List (List Nat)} (h : Nms ns) : (pth ns).length ≤ 9001 := by
  have := h.join_len
  have := h.2
  show (47 :: TL.joinL [47] ns).length ≤ 9001
  rw [List.length_cons]
  omega
theorem Nms.sum {ns : List (List Nat)} (h : Nms ns) : ((ns.map mkS).map (·.length)).sum + (ns.map mkS).length * 1 ≤ 9000 := by
  have h2 : ((ns.map mkS).map (·.length)).sum ≤ ((ns.map mkS).map (·.length)).length * 8 := sum_le fun x hx => by
    obtain ⟨z, hz, rfl⟩ := List.mem_map.mp hx
    obtain ⟨n, hn, rfl⟩ := List.mem_map.mp hz
    exact (name_len (h.1 n hn)).2
  have := h.2
  simp only [List.length_map] at h2 ⊢
  omega
def below (ns ms : List (List Nat)) : Bool := decide (ms.length < ns.length) && decide (ns.take ms.length = ms)
theorem Nms.shaped {ns : List (List Nat)} (h : Nms ns) : SeqAt.shaped (.list ((ns.map mkS).map PyData.str)) = true := shaped_strs h.asc

end Fr
set_option Elab.async false
set_option linter.all false
set_option maxRecDepth 100000
set_option maxHeartbeats 4000000
namespace Fr
open PySem PySem.Spec PyProof.Rows L2
structure FnG (P : Program) (w : World) (K : PySem.W.Frag) (mg : Str → Option Value) (base : Heap) (CX : CXT) (k : Nat) (f : Addr) (fd : FuncData) (ps : List Str) (sp : Sp) : Prop where
  len : ∀ vs H Q E, sp vs H Q E → vs.length = ps.length
  run : ∀ (A : Around) (outer : List Env) (s : Shared) (H : Hp) (args : Args) (us : List Value) (vs : List V) (Q : VK) (E : XK), A.guards = some [] → Room k A → Env0 P w K mg base A outer s H →
    BindsTo s fd args (ps.zip us) → Vals vs us → sp vs H Q E → codeAny (model P w) A (.call (.ref f) args) (CR CX outer P w H s Q E) s
section
variable {P : Program} {w : World} {K : PySem.W.Frag} {mg : Str → Option Value} {base : Heap} {CX : CXT} {k : Nat} {f : Addr} {fd : FuncData} {N ps : List Str} {sp : Sp}
theorem _root_.L2.FnOk.g (F : FnOk P w K mg base CX k f fd ps sp) : FnG P w K mg base CX k f fd ps sp := ⟨F.len, fun A outer s H args us vs Q E _ => F.run A outer s H args us vs Q E⟩
/-- what is left at a body's end -/
theorem body_end {X : Cx} {outer : List Env} {s s' : Shared} {H : Hp} {Q : VK} {fl : Flow} (eo : X.outer = outer) (ex : X.ex = []) (es : X.s_0 = s) (eH : X.H_0 = H) (eP : X.prog = P) (ew : X.w = w)
    (hs : SP X [] { nx := fun _ H' => Q .non H', rt := Q } fl s') : ∃ u, (fl = .ret u ∨ (fl = .next ∧ u = .none)) ∧ CE outer P w H s Q u s' := by
  subst eo es eH eP ew
  have fin : ∀ {σ' : L2.St} {H' : Hp} {v : V} {u : Value}, Inv X [] σ' H' s' → RelV v u → Q v H' → CE X.outer X.prog X.w X.H_0 X.s_0 Q u s' := fun J rv q => ⟨_, _, J.os, J.bare, by have := J.base; rw [ex] at this; exact this, J.hok, rv, q⟩
  cases fl with
  | ret u =>
    obtain ⟨v, _, _, J, rv, q⟩ := hs
    exact ⟨u, .inl rfl, fin J rv q⟩
  | next =>
    obtain ⟨_, _, J, q⟩ := hs
    exact ⟨.none, .inr ⟨rfl, rfl⟩, fin (v := .non) J rfl q⟩
  | brk =>
    obtain ⟨_, _, _, q⟩ := hs
    cases q
  | cont =>
    obtain ⟨_, _, _, q⟩ := hs
    cases q
theorem _root_.L2.FunD.okG {x qual : Str} {params : Arguments} {body : List Stmt} {scope : Scope} {dvs : List V} {kws : List (Str × V)} (F : FunD K x qual params body scope dvs kws f fd) (S : FnScope N ps scope)
    (len : ∀ vs H Q E, sp vs H Q E → vs.length = ps.length)
    (hbody : ∀ (cdv : Value) (A : Around) (outer : List Env) (s : Shared) (H : Hp) (vs : List V) (Q : VK) (E : XK), A.guards = some [] → Room k (A.deeper (envOfC qual scope s.heap.objs.size f cdv)) → sp vs H Q E →
      ∃ t, PSs (cxOf CX P w K mg base N qual scope f cdv A outer s H E) body t ∧ t { nx := fun _ H' => Q .non H', rt := Q } (start N vs) H) : FnG P w K mg base CX (k + 1) f fd ps sp := by
  obtain ⟨oc, od, dV, kV, doc, pm, an, cdv, ct, osl, rfl, lk, hcd, _, _⟩ := F.ex
  refine ⟨len, fun A outer s H args us vs Q E gd hr e0 hb r hsp => ?_⟩
  have up : ∀ b o, base.get? b = some o → s.heap.get? b = some o := fun b o e => (e0.bs b o e).1
  have KX : K.In s.heap := e0.mod.kin.keeps up
  obtain ⟨t, ht, hq⟩ := hbody cdv A outer s H vs Q E gd (hr.deeper _) hsp
  refine codeAny_call_function hr.depth (KX _ _ lk) rfl S.co S.gen rfl (PySem.W.codeRec_of KX hcd) (hb _ _ _ _ (wpAny_newFunctionEnv_cells S.kind ?_ fun env he s1 x => ?_))
  · rintro ⟨n, v⟩ hy
    exact (S.par n (List.of_mem_zip hy).1).imp id fun q => ⟨q, PySem.W.cellsFrom_some _ _ _ (.inl q)⟩
  subst he
  refine ⟨(e0.mod.nolimit.keeps up).keeps x.toInCall.keep, codeAny_func ?_⟩
  refine wpAny_mono (ht.run [] s1 (start N vs) H _ (inv_start S hr.hd e0 (len _ _ _ _ hsp) r x) hq) (fun fl s' hs => ?_) fun _ _ z => z
  obtain ⟨u, hu, c⟩ := body_end (P := P) (w := w) (outer := outer) (s := s) (H := H) (Q := Q) rfl rfl rfl rfl rfl rfl hs
  rcases hu with rfl | ⟨rfl, rfl⟩ <;> exact c
end
section
variable {X : Cx} {CX : CXT} {k : Nat} {f : Addr} {fd : FuncData} {ps : List Str} {sp : Sp} {dvs : List V} {ds : List Value} {E : XK} {x : Str} {p pos : Pos} {e : Expr} {es : List Expr} {t : TA}
theorem run_g {pins : List (Addr × Obj)} {σ : L2.St} {H : Hp} {s : Shared} {Q : VK} {us : List Value} {vs : List V} (F : FnG X.prog X.w X.K X.mg X.base CX k f fd ps sp) (gd : X.A.guards = some []) (hr : Room k X.A) (hb : Binds X.K fd ps ds) (hd : Vals dvs ds)
    (hx : Passes CX X E) (I : Inv X pins σ H s) (r : Vals vs us) (h : sp (vs ++ dvs) H Q E) : wpAny (model X.prog X.w) X.A (call (.ref f) us) (EP X pins σ Q) X.xe s := by
  have r2 := r.append hd
  refine wpAny_call (codeAny_mono (F.run X.A X.stack s H ⟨us, []⟩ (us ++ ds) (vs ++ dvs) Q E gd hr I.env0 (hb s us I.kIn (r2.length ▸ F.len _ _ _ _ h)) r2 h) fun r s' hq => ?_)
  match r, hq with
  | .error e, hq => exact hx pins σ H s e s' I hq
  | .ok (.ret u), hq => exact I.after hq
theorem pe_callG (F : FnG X.prog X.w X.K X.mg X.base CX k f fd ps sp) (gd : X.A.guards = some []) (hr : Room k X.A) (hg : Gl X x) (hm : X.mg x = some (.ref f)) (hk : PySem.W.keepIn X.K (.ref f) = true) (hb : Binds X.K fd ps ds) (hd : Vals dvs ds) (hx : Passes CX X E)
    (ha : PA X (e :: es) t) (hdb : (x == ("__debug__" : Str)) = false := by decide) (he : starEach (e :: es) X.env = (false, eval e X.env) :: starEach es X.env := by rfl) (hpl : (backTo pos (starEach es X.env)).any (·.1) = false := by rfl) :
    PE X (.Call (.Name x p) (e :: es) [] pos) (tCall sp dvs E t) :=
  ⟨fun pins s σ H Q I h => wpAny_Call_Name_kw (ld_glob I hg hm (PySem.W.callWith_K (h₀ := X.base) I.ok.mod.kin hk (thn (ha.run pos pins s σ H _ I h) fun us s1 ⟨vs, H1, I1, r, q⟩ => ⟨I1.kIn, run_g F gd hr hb hd hx I1 r q⟩) he hpl) hdb)⟩
end

end Fr
set_option Elab.async false
set_option linter.all false
set_option maxRecDepth 100000
set_option maxHeartbeats 4000000
namespace PySem.W
open PySem PySem.Calls PyProof.Rows
section
variable {prog : Program} {w : World} {M : Model} {A : Around} {E : Value → Shared → Prop} {s : Shared} {K : Frag} {x y C L f : Addr} {h₀ : Heap} {m : Str → Option Value} {ox oy : Obj} {od oe : Option Obj}
/-- the two operands are of one own class -/
theorem fr_bin1 {nm : String} {Q : Option Value → Shared → Prop} (X : K.In s.heap) (I : InstAt s.heap x ox C od) (J : InstAt s.heap y oy C oe) (hc : selfFirst K C = true)
    (hs : findIn K (.ref C) (PySem.dunder nm) = some (some (.ref f))) (hf : isFn K (.ref f) = true)
    (h : wpAny (model prog w) A (call (.ref f) [.ref x, .ref y]) (CmpBack fun v => Q (some v)) E s) : wpAny (model prog w) A (binaryOp1 nm (.ref x) (.ref y)) Q E s := by
  obtain ⟨cd, rest, hcd, hm⟩ := ksp_first hc
  have one := ksp_try X I hs hf h
  obtain ⟨hh, g, d, tt, os⟩ := s
  have L1 : Looks (model prog w) hh (typeOf (.ref x)) (.ref C) := I.type
  have L2 : Looks (model prog w) hh (typeOf (.ref y)) (.ref C) := J.type
  have L3 : Looks (model prog w) hh (fillsNumberSlot (.ref C) nm) true := fills_K X hcd hm hs
  unfold binaryOp1
  refine wpAny_bind (L1.at (wpAny_bind (L2.at (wpAny_bind (L3.at ?_)))))
  simp only [beq_self_eq_true, if_true]
  ksp_lk
  refine wpAny_mono one (fun r s' hr' => ?_) fun _ _ e => e
  obtain ⟨v, rfl, hq⟩ := hr'
  ksp_lk
  exact hq
theorem fr_bin {op : Operator} {Q : Value → Shared → Prop} (X : K.In s.heap) (I : InstAt s.heap x ox C od) (J : InstAt s.heap y oy C oe) (hc : selfFirst K C = true)
    (hs : findIn K (.ref C) (PySem.dunder op.info.2) = some (some (.ref f))) (hf : isFn K (.ref f) = true)
    (h : wpAny (model prog w) A (call (.ref f) [.ref x, .ref y]) (CmpBack Q) E s) : wpAny (model prog w) A (binaryOp op (.ref x) (.ref y)) Q E s := by
  rcases hi : op.info with ⟨sym, nm'⟩
  rw [hi] at hs
  dsimp only at hs
  simp only [binaryOp, hi]
  refine wpAny_holding (wpAny_bind (fr_bin1 X I J hc hs hf (wpAny_mono h (fun v s' hv => ?_) fun _ _ e => e)))
  cases v <;> first | exact hv.elim | (first | exact wpAny_pure hv | exact hv)
/-- x != y by an own __eq__ alone -/
theorem fr_ne {b tb : Value} {Q : Value → Shared → Prop} (hu : A.units + 8 < cLine) (X : K.In s.heap) (I : InstAt s.heap x ox C od) (hb : Looks (model prog w) s.heap (typeOf b) tb) (hn : notFirst K C tb = true)
    (hs : findIn K (.ref C) "__ne__" = some (some (.builtin "object.__ne__"))) (hm : mroIn K C (.type "object") = some true) (he : findIn K (.ref C) "__eq__" = some (some (.ref f))) (hf : isFn K (.ref f) = true)
    (h : wpAny (model prog w) A.in1 (call (.ref f) [.ref x, b]) (BoolBack fun c s' => Q (.bool (!c)) s') E s) : wpAny (model prog w) A (richCompare .NotEq (.ref x) b) Q E s := by
  have one : wpAny (model prog w) A (tryCompare (.ref x) (cmpInfo .NotEq).2.1 b) (fun r s' => ∃ v, r = some v ∧ Q v s') E s := by
    unfold tryCompare
    refine wpAny_bind (m := callSpecialIfBound? (.ref x) _ [b]) ?_
    simp only [callSpecialIfBound?, bindSpecialIfBound?]
    refine wpAny_holding (wpAny_bind (wpAny_bind (wpAny_bind (I.type.here ((looks_findIn X hs).here ?_)))))
    have inner : wpAny (model prog w) A (call (.builtin "object.__ne__") ([.ref x] ++ [b])) (fun v s' => ∃ c, v = .bool c ∧ Q v s') E s := by
      refine wpAny_call (codeAny_call_builtin PySem.F.slot_object_ne.plain PySem.F.entry_object_ne (check_slot (i := "object.__ne__") (owner := "object") (n := "__ne__") (by decide +kernel) (by decide +kernel) (I.type.andThen (looks_mroIn X hm)) (PySem.F.args_object_ne_2 _ _) ?_))
      unfold Builtin.«object.__ne__»
      refine wpAny_bind (m := PySem.slotArgs "__ne__" 1 _) (wpAny_pure ?_)
      refine wpAny_bind (m := cRoomFor _ _) (wpAny_cRoomFor (by show A.units + 1 < cLine; omega) ?_)
      refine wpAny_bind (m := callSpecialIfBound? (.ref x) (Str.ofString "__eq__") _) (ifBound_K X I he hf (wpAny_mono h (fun r s' hr => ?_) fun _ _ y => y))
      cases r <;> first | exact hr.elim | skip
      rename_i c
      refine wpAny_bind (m := truthy _) (wpAny_pure ?_)
      exact wpAny_pure ⟨_, rfl, hr⟩
    have fin : wpAny (model prog w) A (call (.builtin "object.__ne__") ([.ref x] ++ [b]) >>= fun v => pure (some v)) (fun r s' => wpAny (model prog w) A (match r with | some .notImplemented | none => pure none | some v => pure (some v)) (fun r s' => ∃ v, r = some v ∧ Q v s') E s') E s :=
      wpAny_bind (wpAny_mono inner (fun v s' hv => wpAny_pure (by obtain ⟨c, rfl, q⟩ := hv; exact wpAny_pure ⟨_, rfl, q⟩)) fun _ _ z => z)
    refine wpAny_bind (wpAny_askSetting (wpAny_ite ?_))
    split
    · exact wpAny_bind ((Looks.of_pure (PySem.F.slot_object_ne.bind _)).here (wpAny_pure (by exact fin)))
    · exact wpAny_tryCatch (wpAny_bind ((Looks.of_pure (PySem.F.slot_object_ne.bind _)).here (wpAny_pure (by exact fin))))
  unfold richCompare
  simp only [oneThing_ref]
  refine wpAny_holding (wpAny_bind (wpAny_cRoomFor (by omega) ?_))
  refine wpAny_bind (I.type.here (wpAny_bind (hb.here ?_)))
  have fin : ∀ {k : Option Value → Sem Value}, (∀ v, k (some v) = pure v) → wpAny (model prog w) A (tryCompare (.ref x) (cmpInfo .NotEq).2.1 b >>= k) Q E s := fun {k} hk => by
    refine wpAny_bind (wpAny_mono one (fun r s' z => ?_) fun _ _ e => e)
    obtain ⟨v, rfl, hq⟩ := z
    rw [hk]
    exact wpAny_pure hq
  by_cases e : tb = .ref C
  · subst e
    rw [if_neg (by simp)]
    refine wpAny_bind (wpAny_pure ?_)
    simp only [Bool.false_eq_true, if_false]
    exact fin fun _ => rfl
  · have e2 : subIn K tb (.ref C) = some false := (Bool.or_eq_true_iff.mp hn).elim (fun z => absurd (beq_iff_eq.mp z) e) fun z => beq_iff_eq.mp z
    rw [if_pos (by simp [bne, Ne.symm e])]
    refine wpAny_bind ((looks_subIn X e2).here ?_)
    simp only [Bool.false_eq_true, if_false]
    exact fin fun _ => rfl
end
end PySem.W
namespace Fr
open PySem PySem.Spec PyProof.Rows L2 SlX
theorem rel_ref {a : Addr} : RelV (.ref a) (Value.ref a) := rfl
/-- an instance of the class at C -/
def Ins (H : Hp) (a C : Addr) : Prop := ∃ dx fs, H a = some (.ins C dx fs)
/-- the class (or one above it) has the special name m as the def at g -/
structure Dun (K : PySem.W.Frag) (C : Addr) (m : Str) (g : Addr) : Prop where
  at_ : PySem.W.findIn K (.ref C) m = some (some (.ref g))
  fn : PySem.W.isFn K (.ref g) = true
def dunB (K : PySem.W.Frag) (C : Addr) (m : Str) (g : Addr) : Bool := He.eqO (PySem.W.findIn K (.ref C) m) (some (some (.ref g))) && PySem.W.isFn K (.ref g)
theorem dunB_ok {K : PySem.W.Frag} {C : Addr} {m : Str} {g : Addr} (h : dunB K C m g = true) : Dun K C m g := ⟨He.eqO_ok (He.ba h).1, (He.ba h).2⟩
section
variable {X : Cx} {CX : CXT} {pins : List (Addr × Obj)} {σ : L2.St} {H : Hp} {s : Shared} {a b C g : Addr} {n : Nat} {sp : Sp} {E : XK}
theorem Ins.at (I : Inv X pins σ H s) (h : Ins H a C) : ∃ ox od, PySem.W.InstAt s.heap a ox C od := by
  obtain ⟨dx, fs, h⟩ := h
  obtain ⟨mA, O, _⟩ := ins_get I.hok h
  obtain ⟨od, J, _⟩ := O.look
  exact ⟨_, _, J⟩
/-- a call's end as a reading -/
theorem run_op {A : Around} {Q : VK} {us : List Value} {ws : List V} {P : Value → Shared → Prop} (F : FnR X.prog X.w X.K X.mg X.base CX n g sp) (hr : Room n A) (e0 : Env0 X.prog X.w X.K X.mg X.base A X.stack s H) (hx : Passes CX X E) (I : Inv X pins σ H s) (r : Vals ws us)
    (h : sp ws H Q E) (k : ∀ v u s' H', Inv X pins σ H' s' → RelV v u → Q v H' → P u s') : wpAny (model X.prog X.w) A (call (.ref g) us) P X.xe s :=
  wpAny_mono (wpAny_call (run_at F hr e0 hx I r h)) (fun u s' ⟨v, H', I', rv, q⟩ => k v u s' H' I' rv q) fun _ _ z => z
def rBinO (C : Addr) (sp : Sp) (E : XK) : R2 := fun x y H Q => ∃ a b, x = .ref a ∧ y = .ref b ∧ Ins H a C ∧ Ins H b C ∧ sp [x, y] H Q E
theorem op_binO {op : Operator} (hc : PySem.W.selfFirst X.K C = true) (d : Dun X.K C (PySem.dunder op.info.2) g) (F : FnR X.prog X.w X.K X.mg X.base CX n g sp) (hr : Room n X.A) (hx : Passes CX X E) : OpR X (binaryOp op) (rBinO C sp E) := by
  intro pins s σ H x y v u Q I rx ry h
  obtain ⟨a, b, rfl, rfl, ha, hb, q⟩ := h
  cases (show v = Value.ref a from rx)
  cases (show u = Value.ref b from ry)
  obtain ⟨_, _, J⟩ := ha.at I
  obtain ⟨_, _, J'⟩ := hb.at I
  exact PySem.W.fr_bin I.kIn J J' hc d.at_ d.fn (run_op F hr I.env0 hx I (.cons rel_ref (.cons rel_ref .nil)) q fun v u s' H' I' rv q' => cmpback rv ⟨v, H', I', rv, q'⟩)
/-- the class stands alone above object -/
def lone (K : PySem.W.Frag) (C : Addr) : Bool := match PySem.W.clsIn K C with
  | some cd => decide (cd.mro = [.ref C, .type "object"])
  | none => false
def isStr (v : V) : Prop := ∃ c, v = .str c
/-- the truth of an instance by its own __bool__ -/
def tTruO (C : Addr) (sp : Sp) (E : XK) (ta : TE) : TT := fun σ H Q => ta σ H fun x H1 => ∃ a, x = .ref a ∧ Ins H1 a C ∧ sp [x] H1 (fun v H' => ∃ c, v = .bl c ∧ Q c H') E
/-- v in x by its own __contains__, which answers a bool -/
def rInO (C : Addr) (sp : Sp) (E : XK) (f : Bool → Bool) : R2 := fun x y H Q => ∃ a, y = .ref a ∧ Ins H a C ∧ sp [y, x] H (fun v H' => ∃ c, v = .bl c ∧ Q (.bl (f c)) H') E
theorem op_inO (d : Dun X.K C "__contains__" g) (F : FnR X.prog X.w X.K X.mg X.base CX n g sp) (hr : Room n X.A) (hx : Passes CX X E) : OpR X (compareOp .In) (rInO C sp E id) := by
  intro pins s σ H x y v u Q I rx ry h
  obtain ⟨a, rfl, ha, q⟩ := h
  cases (show u = Value.ref a from ry)
  obtain ⟨_, _, J⟩ := ha.at I
  obtain ⟨m, hF⟩ := I.fr
  refine PySem.W.in_K hF I.ok.mod.kin J d.at_ d.fn (run_op F hr I.env0 hx I (.cons rel_ref (.cons rx .nil)) q ?_)
  rintro v u s' H' I' rv ⟨c, rfl, q'⟩
  cases (show u = Value.bool c from rv)
  exact wpAny_pure ⟨.bl c, H', I', rfl, q'⟩
/-- {x} by its own __str__ -/
def tFmtO (C : Addr) (sp : Sp) (E : XK) (te : TE) : TE := fun σ H Q => te σ H fun x H1 => ∃ a, x = .ref a ∧ Ins H1 a C ∧ sp [x] H1 (fun v H' => isStr v ∧ Q v H') E
end
def tMakeV (i : Nat) (C : Addr) (sp : Sp) (E : XK) (t : TA) : TE := fun σ H Q => σ[i]? = some (some (.ref C)) ∧ StX.tMakeR C sp E t σ H Q
section
variable {X : Cx} {CX : CXT} {k i : Nat} {f C : Addr} {sp : Sp} {E : XK} {x : Str} {e : Expr} {es : List Expr} {t : TA} {p pos : Pos}
theorem pe_makeV (M : Mk X.K C f) (F : FnR X.prog X.w X.K X.mg X.base CX k f sp) (hr : Room (k + 1) X.A) (hx : Passes CX X E) (hN : X.N[i]? = some x) (hv : Vis X.env.scope x) (ha : PA X (e :: es) t)
    (hd : (x == ("__debug__" : Str)) = false := by decide) (hcd : (x == ("__classdict__" : Str)) = false := by decide)
    (he : starEach (e :: es) X.env = (false, eval e X.env) :: starEach es X.env := by rfl) (hpl : (backTo pos (starEach es X.env)).any (·.1) = false := by rfl) : PE X (.Call (.Name x p) (e :: es) [] pos) (tMakeV i C sp E t) := by
  refine ⟨fun pins s σ H Q I ⟨hs, h⟩ => wpAny_Call_Name_kw (thn ((pe_var (pos := p) (i := i) hN hv hd hcd).run pins s σ H (fun v H1 => v = .ref C ∧ H1 = H) I ⟨.ref C, hs, rfl, rfl⟩) fun u s1 ⟨v, H1, I1, r1, ev, eH⟩ => ?_)⟩
  subst ev eH
  cases r1
  exact PySem.W.callWith_K (h₀ := X.base) I.ok.mod.kin M.kp (thn (ha.run pos pins s1 σ _ _ I1 h) fun us s2 ⟨vs, H2, I2, r, q⟩ => ⟨I2.kIn, StX.run_makeR M F hr hx I2 r q⟩) he hpl
end
end Fr
set_option Elab.async false
set_option linter.all false
set_option maxRecDepth 100000
set_option maxHeartbeats 4000000
namespace Fr
open PySem PySem.Spec PyProof.Rows L2
def sgV (z : Str) : List V := (tl z).map fun c => V.str (mkS [c])
theorem vals_of_get : ∀ {xs : List V} {us : List Value}, xs.length = us.length → (∀ (j : Nat) (u : Value), us[j]? = some u → ∃ v, xs[j]? = some v ∧ RelV v u) → Vals xs us
  | [], [], _, _ => .nil
  | x :: xs, u :: us, hl, h => by
    obtain ⟨v, hv, r⟩ := h 0 u rfl
    cases hv
    exact .cons r (vals_of_get (Nat.succ.inj hl) fun j w hw => h (j + 1) w (by simpa using hw))
def rListS : List V → Hp → VK → Prop := fun xs H Q => ∃ z, xs = [V.str z] ∧ z.length ≤ sizeLine ∧ ∀ l, H l = none → Q (.ref l) (upd H l (.lst (sgV z)))
theorem call_listS {X : Cx} (hc : X.calm = true) : CallR X (.type "list") rListS := by
  intro pins s σ H xs us Q I r h
  obtain ⟨z, rfl, hz, q⟩ := h
  obtain ⟨u, rfl, t, rfl⟩ := vals1 r
  refine call_list_str (I.ok.hd hc) z t (fun h' tk acc c' hk hS hacc => ?_) hz
  have hl : (sgV z).length = acc.toList.length := by
    have := hacc.1
    simp [sgV, tl, this]
  have rv : Vals (sgV z) acc.toList := vals_of_get hl fun j w hw => by
    obtain ⟨c, t', hc', rfl⟩ := hacc.2 j w (by simpa using hw)
    refine ⟨.str (mkS [c]), ?_, t', rfl⟩
    unfold sgV tl
    rw [List.getElem?_map, Array.getElem?_toList, hc']
    rfl
  refine ⟨.ref s.heap.objs.size, _, I.laid (t' := tk) hk (Nat.le_refl _) (show ObjOk X.prog X.w _ h' _ (.lst (sgV z)) from ⟨?_, acc.toList, c', rv, by simpa using hS⟩), rfl, q _ (I.hok.fresh (Nat.le_refl _))⟩
  have : (sgV z).length = z.length := by simp [sgV, tl, Str.length]
  rw [this]
  exact hz
structure KTab (K : PySem.W.Frag) (w : World) (d : Addr) (kvs : List (Str × V)) : Prop where
  ex : ∃ es n, KDict K w d es n ∧ ∀ k, RelO (kvs.lookup k) (findBy Value.isStrOf es k)
def pairB (K : PySem.W.Frag) : List (Str × V) → List DictEntry → Bool
  | [], [] => true
  | (k, v) :: r, e :: es => (match e.key with
    | .str x _ => decide (x = k)
    | _ => false) && (He.relB v e.val && pairB K r es)
  | _, _ => false
def tabB (K : PySem.W.Frag) (d : Addr) (kvs : List (Str × V)) : Bool := match K.lookup d with
  | some ⟨_, _, .dict es _, _⟩ => pairB K kvs es.toList
  | _ => false
theorem pair_find {K : PySem.W.Frag} : ∀ {kvs : List (Str × V)} {l : List DictEntry}, pairB K kvs l = true → ∀ k, RelO (kvs.lookup k) ((l.find? fun e => Value.isStrOf k e.key).map (·.val))
  | [], [], _, k => trivial
  | [], _ :: _, h, _ => by cases h
  | _ :: _, [], h, _ => by cases h
  | (x, v) :: r, e :: es, h, k => by
    obtain ⟨h1, h2⟩ := He.ba (show ((match e.key with | .str y _ => decide (y = x) | _ => false) && (He.relB v e.val && pairB K r es)) = true from h)
    obtain ⟨h3, h4⟩ := He.ba h2
    have ih := pair_find h4 k
    cases hk : e.key with
    | str y t =>
      rw [hk] at h1
      have ey : y = x := of_decide_eq_true h1
      subst ey
      by_cases e2 : k = y
      · subst e2
        rw [List.lookup_cons, beq_self_eq_true, List.find?_cons, hk]
        have : Value.isStrOf k (Value.str k t) = true := by simp [Value.isStrOf]
        rw [this]
        exact He.relB_ok h3
      · have e3 : (k == y) = false := beq_eq_false_iff_ne.mpr e2
        rw [List.lookup_cons, e3, List.find?_cons, hk]
        have : Value.isStrOf k (Value.str y t) = false := by simp [Value.isStrOf, Ne.symm e2]
        rw [this]
        exact ih
    | _ => rw [hk] at h1; cases h1
theorem ktab_of {K : PySem.W.Frag} {w : World} {d : Addr} {kvs : List (Str × V)} (D : ∃ es n, KDict K w d es n) (h : tabB K d kvs = true) : KTab K w d kvs := by
  obtain ⟨es, n, D⟩ := D
  refine ⟨es, n, D, fun k => ?_⟩
  unfold tabB at h
  rw [D.at_] at h
  have := pair_find (K := K) h k
  unfold findBy
  rw [← Array.find?_toList]
  exact this
section
variable {X : Cx} {d : Addr} {kvs : List (Str × V)}
/-- D.get(k, x) -/
def tKGet (d : Addr) (kvs : List (Str × V)) (td ty tx : TE) : TE := fun σ H Q => td σ H fun x H1 => x = .ref d ∧ ty σ H1 fun y H2 => tx σ H2 fun z H3 => ∃ k : Str, y = .str k ∧ Q ((kvs.lookup k).getD z) H3
theorem pe_kget {o e f : Expr} {td ty tx : TE} {apos cpos : Pos} (D : KTab X.K X.w d kvs) (ho : PE X o td) (he : PE X e ty) (hf : PE X f tx) (m : M2 X o "get" apos e f cpos) : PE X (.Call (.Attribute o "get" apos) [e, f] [] cpos) (tKGet d kvs td ty tx) := by
  obtain ⟨es, n, D, fd⟩ := D.ex
  refine ⟨fun pins s σ H Q I h => wpAny_Call_method m.base m.few m.line PySem.F.plainAttrs_dict PySem.F.slot_dict_get PySem.F.type_dict_get (thn (ho.run pins s σ H _ I h) fun u s1 ⟨x, H1, I1, rx, ex, q1⟩ => ?_)⟩
  subst ex
  cases (show u = Value.ref d from rx)
  refine ⟨kd_type D I1, fun b q => ?_, ?_⟩
  · cases q
    exact ⟨_, I1.kIn _ _ D.at_, rfl⟩
  rw [m.trees]
  refine Calls.callWith_builtin rfl (Calls.evalArgs_plain (Calls.spliced_cons (thn (he.run pins s1 σ H1 _ I1 q1) fun iv s2 ⟨y, H2, I2, ry, q2⟩ =>
    Calls.spliced_cons (thn (hf.run pins s2 σ H2 _ I2 q2) fun fv s3 ⟨z, H3, I3, rz, k, ey, q3⟩ => Calls.spliced_nil ?_))))
  subst ey
  obtain ⟨t, rfl⟩ := ry
  have M := PySem.W.mapOf_K (prog := X.prog) (w := X.w) I3.kIn D.at_ D.lit
  refine call_meetsIn PySem.F.slot_dict_get (kd_type D I3) PySem.F.entry_dict_get (PySem.F.args_dict_get_3 _ _ _) (meets_dict_get_default (PySem.strKind X.prog X.w) d (PySem.strKind_is X.prog X.w k t) D.low fv) ⟨_, M, ?_⟩
  refine ⟨(kvs.lookup k).getD z, H3, I3.tok _, ?_, q3⟩
  have r := fd k
  cases e1 : kvs.lookup k with
  | none =>
    rw [e1] at r
    rw [RelO.none_of r]
    exact rz
  | some v =>
    rw [e1] at r
    obtain ⟨u, e2, ru⟩ := RelO.some_of r
    rw [e2]
    exact ru
end

/-- what the names reach in n steps; what is there already is kept in the bits of a number -/
def addNew : List Addr → Nat → List Addr → Nat × List Addr
  | [], m, acc => (m, acc)
  | a :: as, m, acc => match Nat.beq (Nat.land (Nat.shiftRight m a) 1) 0 with
    | true => addNew as (Nat.lor m (Nat.shiftLeft 1 a)) (a :: acc)
    | false => addNew as m acc
def refsL (g : Addr → Option Obj) (as : List Addr) : List Addr := as.flatMap fun a => match g a with
  | some o => He.refsD o
  | none => []
def growB (g : Addr → Option Obj) : Nat → List Addr → Nat → List Addr
  | 0, fr, _ => fr
  | n + 1, fr, m => fr ++ (match addNew (refsL g fr) m [] with | (m1, new) => growB g n new m1)
def asB (g : Addr → Option Obj) (n : Nat) : List Addr := growB g n [mainGlobals] (Nat.shiftLeft 1 mainGlobals) ++ [cStatics]
abbrev AlF : Type := He.AlD × List (Option (List (Option (Str × Int))))
def obsF (cs : List (PySem.W.Frag → Bool)) (fn : List He5.DefA) (ts : List He.Tab) (K : PySem.W.Frag) : AlF := ((cs.all (fun c => c K) && fn.all fun d => d.ok K, fn.map fun d => He5.fnA K (d.at_ K)), ts.map fun t => He.dicW K (t.1 K))
def valF (fn : List He5.DefA) (ts : List He.Tab) (w : World) : AlF := ((true, fn.map He5.DefA.val), ts.map fun t => some (He.keysIn w.params t.2))
def lamNames : List Str := ["_law_right", "_law_refused", "_law_entries_right", "law", "_law_asked_right", "_law_more_right", "_law_walk_right", "_law_sorted", "_law_ends_right", "_law_asked", "_law_command", "_law_put"]
def lamOne (K : PySem.W.Frag) (x : Str) : Option (Addr × Str) := if PySem.W.codeHdIn K (He.codeOf K (x, none)) (He.tabOf K (He.codeOf K (x, none))) = true then some (He.tabOf K (He.codeOf K (x, none)), x ++ ".<locals>." ++ "<lambda>") else none
def lamTabs (K : PySem.W.Frag) : List (Addr × Str) := lamNames.filterMap (lamOne K)
/-- the table at P is that of lambdas named q -/
def KT (K : PySem.W.Frag) (P : Addr) (q : Str) : Prop := (lamTabs K).lookup P = some q
theorem mem_look {q : Str} {P : Addr} : ∀ {l : List (Addr × Str)}, l.lookup P = some q → (P, q) ∈ l
  | [], h => by cases h
  | (b, u) :: r, h => by
    rw [List.lookup_cons] at h
    by_cases e : (P == b) = true
    · rw [e] at h
      cases h
      cases beq_iff_eq.mp e
      exact List.mem_cons_self
    · rw [Bool.not_eq_true] at e
      rw [e] at h
      exact List.mem_cons_of_mem _ (mem_look h)
def TabsE (K : PySem.W.Frag) (h : Heap) : Prop := ∀ P q, KT K P q → K.lookup P = none ∧ h.get? P = some { cls := .none, data := .fields #[] }
def tabsE (g : Addr → Option Obj) (K : PySem.W.Frag) : Bool := (lamTabs K).all fun p => match g p.1 with
  | some o => He.emptyTab o
  | none => false
theorem tabsE_ok {h : Heap} {as : List Addr} (e : tabsE h.get? (He.frT h.get? as) = true) : TabsE (He.frT h.get? as) h := fun P q k => by
  have h1 := List.all_eq_true.mp e (P, q) (mem_look k)
  cases h2 : h.get? P with
  | none =>
    rw [show h.get? (P, q).1 = none from h2] at h1
    cases h1
  | some o =>
    rw [show h.get? (P, q).1 = some o from h2] at h1
    exact ⟨He.frT_none h2 h1, by rw [He.emptyTab_eq h1]⟩
theorem TabsE.keeps {K : PySem.W.Frag} {h h' : Heap} (t : TabsE K h) (k : ∀ a o, h.get? a = some o → h'.get? a = some o) : TabsE K h' := fun P q e => ⟨(t P q e).1, k _ _ (t P q e).2⟩
def SaysF (cs : List (PySem.W.Frag → Bool)) (fn : List He5.DefA) (ts : List He.Tab) (w : World) (K : PySem.W.Frag) : Prop := obsF cs fn ts K = valF fn ts w
section
variable {cs : List (PySem.W.Frag → Bool)} {fn : List He5.DefA} {ts : List He.Tab} {w : World} {K : PySem.W.Frag}
theorem SaysF.fact (c : SaysF cs fn ts w K) (i : Nat) {f : PySem.W.Frag → Bool} (h : cs[i]? = some f := by rfl) : f K = true :=
  List.all_eq_true.mp (He.ba (congrArg (fun z : AlF => z.1.1) c : (cs.all (fun c => c K) && fn.all fun d => d.ok K) = true)).1 f (List.mem_of_getElem? h)
theorem SaysF.def_ (c : SaysF cs fn ts w K) (i : Nat) {d : He5.DefA} (h : fn[i]? = some d := by rfl) : ∃ fd, FunD K d.name d.qual d.params d.body d.scope (d.dvs K) (d.kws K) (d.at_ K) fd := by
  have c2 := (He.ba (congrArg (fun z : AlF => z.1.1) c : (cs.all (fun c => c K) && fn.all fun d => d.ok K) = true)).2
  have e : fn.map (fun d => He5.fnA K (d.at_ K)) = fn.map He5.DefA.val := congrArg (fun z : AlF => z.1.2) c
  have e2 : (fn.map fun d => He5.fnA K (d.at_ K))[i]? = (fn.map He5.DefA.val)[i]? := by rw [e]
  rw [List.getElem?_map, List.getElem?_map, h] at e2
  exact He5.DefA.funD (Option.some.inj e2) (List.all_eq_true.mp c2 d (List.mem_of_getElem? h))
theorem SaysF.tab (c : SaysF cs fn ts w K) (i : Nat) {t : He.Tab} (h : ts[i]? = some t := by rfl) : ∃ es n, KDict K w (t.1 K) es n := by
  have e : ts.map (fun t => He.dicW K (t.1 K)) = ts.map fun t => some (He.keysIn w.params t.2) := congrArg (fun z : AlF => z.2) c
  have e2 : (ts.map fun t => He.dicW K (t.1 K))[i]? = (ts.map fun t => some (He.keysIn w.params t.2))[i]? := by rw [e]
  rw [List.getElem?_map, List.getElem?_map, h] at e2
  exact He.dicW_ok (Option.some.inj e2)
end
structure ClsF (K : PySem.W.Frag) (C : Addr) : Prop where
  cl : Cls K C
  ca : PySem.W.findIn K (.ref C) "__class__" = some (some (.builtin "object.__class__"))
  cn : PySem.W.specialIn K (.builtin "object.__class__") "__get__" = some (some (.builtin "getset_descriptor.__get__"))
  ct : PySem.W.takesIn K (.builtin "object.__class__") = some true
  cm : PySem.W.mroIn K C (.type "object") = some true
  sf : PySem.W.selfFirst K C = true
  ln : lone K C = true
  rd : ClX.CRead K C (.type "type")
def clsB (K : PySem.W.Frag) (C : Addr) : Bool := (PySem.W.plainGet K C Str.empty && (PySem.W.hasDictIn K C && (PySem.W.plainOver K C && He.eqO (PySem.W.findIn K (.ref C) "__setattr__") (some (some (.builtin "object.__setattr__")))))) &&
  (He.eqO (PySem.W.findIn K (.ref C) "__class__") (some (some (.builtin "object.__class__"))) && (He.eqO (PySem.W.specialIn K (.builtin "object.__class__") "__get__") (some (some (.builtin "getset_descriptor.__get__"))) &&
  (decide (PySem.W.takesIn K (.builtin "object.__class__") = some true) && (decide (PySem.W.mroIn K C (.type "object") = some true) && (PySem.W.selfFirst K C && (lone K C && (PySem.W.readsIn K C (.type "type") &&
  He.eqO (PySem.W.specialIn K (.ref C) "__getattribute__") (some (some (.builtin "type.__getattribute__"))))))))))
theorem clsB_ok {K : PySem.W.Frag} {C : Addr} (h : clsB K C = true) : ClsF K C := by
  obtain ⟨h0, h⟩ := He.ba h
  obtain ⟨a1, h0⟩ := He.ba h0
  obtain ⟨a2, h0⟩ := He.ba h0
  obtain ⟨a3, a4⟩ := He.ba h0
  obtain ⟨h1, h⟩ := He.ba h
  obtain ⟨h2, h⟩ := He.ba h
  obtain ⟨h3, h⟩ := He.ba h
  obtain ⟨h4, h⟩ := He.ba h
  obtain ⟨h5, h⟩ := He.ba h
  obtain ⟨h6, h⟩ := He.ba h
  obtain ⟨h7, h8⟩ := He.ba h
  exact ⟨⟨a1, a2, a3, He.eqO_ok a4⟩, He.eqO_ok h1, He.eqO_ok h2, of_decide_eq_true h3, of_decide_eq_true h4, h5, h6, h7, He.eqO_ok h8⟩
theorem ClsF.ty {K : PySem.W.Frag} {C a : Addr} {H : Hp} (c : ClsF K C) (h : Ins H a C) : TyX K H (.ref a) (.ref C) := by
  obtain ⟨dx, fs, h⟩ := h
  exact .base (.ins h c.cl c.ca c.cn c.ct c.cm)
/-- no attribute of the class bears the name -/
def noB (K : PySem.W.Frag) (C : Addr) (f : Str) : Bool := He.eqO (PySem.W.findIn K (.ref C) f) (some none)
theorem noB_ok {K : PySem.W.Frag} {C : Addr} {f : Str} (h : noB K C f = true) : NoAttr K C f := He.eqO_ok h
def methB (K : PySem.W.Frag) (C : Addr) (m : Str) : Bool := He.eqO (PySem.W.findIn K (.ref C) m) (some (some (.ref (He.ma K C m)))) && (PySem.W.isFn K (.ref (He.ma K C m)) && PySem.W.keepIn K (.ref (He.ma K C m)))
theorem methB_ok {K : PySem.W.Frag} {C : Addr} {m : Str} (h : methB K C m = true) : Meth K C m (He.ma K C m) := ⟨He.eqO_ok (He.ba h).1, (He.ba (He.ba h).2).1, (He.ba (He.ba h).2).2⟩
def mkB (K : PySem.W.Frag) (C : Addr) : Bool := PySem.W.makesIn K C && (He.eqO (PySem.W.findIn K (.ref C) "__init__") (some (some (.ref (He.ma K C "__init__")))) && (PySem.W.isFn K (.ref (He.ma K C "__init__")) && PySem.W.keepIn K (.ref C)))
theorem mkB_ok {K : PySem.W.Frag} {C : Addr} (h : mkB K C = true) : Mk K C (He.ma K C "__init__") := ⟨(He.ba h).1, He.eqO_ok (He.ba (He.ba h).2).1, (He.ba (He.ba (He.ba h).2).2).1, (He.ba (He.ba (He.ba h).2).2).2⟩
def propB (K : PySem.W.Frag) (C : Addr) (f : Str) : Bool := He.eqO (PySem.W.findIn K (.ref C) f) (some (some (.ref (He.ma K C f)))) && (He.eqO (PySem.W.specialIn K (.ref (He.ma K C f)) "__get__") (some (some (.builtin "property.__get__"))) &&
  (decide (PySem.W.takesIn K (.ref (He.ma K C f)) = some true) && (match PySem.W.recIn K (He.ma K C f) "property" with
    | some (.ref _ :: _) => true
    | _ => false)))
theorem propB_ok {K : PySem.W.Frag} {C : Addr} {f : Str} (h : propB K C f = true) : PropOf K C f (He.ma K C f) (He5.wf K C "property" f) := by
  obtain ⟨h1, h⟩ := He.ba h
  obtain ⟨h2, h⟩ := He.ba h
  obtain ⟨h3, h4⟩ := He.ba h
  refine ⟨He.eqO_ok h1, He.eqO_ok h2, of_decide_eq_true h3, ?_⟩
  unfold He5.wf
  split at h4
  · rename_i g r e
    rw [e]
    exact ⟨r, rfl⟩
  · cases h4
def cmB (K : PySem.W.Frag) (C : Addr) (m : Str) : Bool := He5.wrapB K C "classmethod" "classmethod.__get__" m && PySem.W.fnIn K (He5.wf K C "classmethod" m)
theorem cmB_ok {K : PySem.W.Frag} {C : Addr} {m : Str} (h : cmB K C m = true) : ClX.CMet K C (.type "type") m (He.ma K C m) (He5.wf K C "classmethod" m) := He5.cmet_of (He.ba h).1 (He.ba h).2
/-- isinstance of a built-in kind's value by the class: no -/
def offTys : List String := ["NoneType", "bool", "int", "str", "list", "tuple", "dict"]
def offB (K : PySem.W.Frag) (C : Addr) : Bool := offTys.all fun T => decide (PySem.W.kitOne K (.type T) (.ref C) = some false) && PySem.W.notFirst K C (.type T)
theorem offB_ok {K : PySem.W.Frag} {C : Addr} (h : offB K C = true) : ∀ T ∈ offTys, PySem.W.kitOne K (.type T) (.ref C) = some false ∧ PySem.W.notFirst K C (.type T) = true := fun T hT => by
  have := List.all_eq_true.mp h T hT
  exact ⟨of_decide_eq_true (He.ba this).1, (He.ba this).2⟩
theorem kit_self {K : PySem.W.Frag} {C : Addr} : PySem.W.kitOne K (.ref C) (.ref C) = some true := if_pos (by simp)
end Fr
set_option Elab.async false
set_option linter.all false
set_option maxRecDepth 100000
set_option maxHeartbeats 4000000
namespace Fr
open PySem PySem.Spec PyProof.Rows L2
section
variable {P : Program} {w : World} {K : PySem.W.Frag} {mg : Str → Option Value} {base : Heap} {CX : CXT} {k : Nat} {f : Addr} {fd : FuncData} {ps : List Str} {sp : Sp} {dvs : List V}
theorem _root_.L2.FnOk.r (F : FnOk P w K mg base CX k f fd ps sp) (hb : Binds K fd ps []) : FnR P w K mg base CX k f sp := (F.raw hb .nil).imp fun vs H Q E h => by rw [List.append_nil]; exact h
def spD (dvs : List V) (sp : Sp) : Sp := fun vs H Q E => sp (vs ++ dvs) H Q E
theorem _root_.L2.FnOk.rD (F : FnOk P w K mg base CX k f fd ps sp) (h : ∃ ds, Vals dvs ds ∧ Binds K fd ps ds) : FnR P w K mg base CX k f (spD dvs sp) := by
  obtain ⟨ds, hv, hb⟩ := h
  exact F.raw hb hv
theorem w_spD {vs : List V} {H : Hp} {Q : VK} {E : XK} (h : sp (vs ++ dvs) H Q E) : spD dvs sp vs H Q E := h
end
section
variable {X : Cx} {CX : CXT} {k : Nat} {C f g p : Addr} {mc : Value} {sp : Sp} {E : XK} {x m : Str} {o e : Expr} {ta : TE} {pos apos np : Pos} {K : PySem.W.Frag} {pl : Sem Bool}
/-- C() -/
theorem pe_makeR0 (M : Mk X.K C f) (F : FnR X.prog X.w X.K X.mg X.base CX k f sp) (hr : Room (k + 1) X.A) (hg : Gl X x) (hm : X.mg x = some (.ref C)) (hx : Passes CX X E) (hdb : (x == ("__debug__" : Str)) = false := by decide) :
    PE X (.Call (.Name x np) [] [] pos) (StX.tMakeR C sp E tNil) :=
  ⟨fun pins s σ H Q I h => wpAny_Call_Name_kw (ld_glob I hg hm (PySem.W.callWith_K0 I.kIn M.kp (StX.run_makeR (us := []) M F hr hx I .nil h)) hdb)⟩
theorem w_make {t : TA} {σ : L2.St} {H : Hp} {Q : VK} (h : t σ H fun vs H1 => ∀ x dx, H1 x = Option.none → H1 dx = Option.none → dx ≠ x → sp (V.ref x :: vs) (upd (upd H1 dx (.own x)) x (.ins C dx [])) (fun v H2 => v = .non ∧ Q (.ref x) H2) E) : StX.tMakeR C sp E t σ H Q := h
theorem w_makeV {i : Nat} {t : TA} {σ : L2.St} {H : Hp} {Q : VK} (hv : σ[i]? = some (some (.ref C))) (h : StX.tMakeR C sp E t σ H Q) : tMakeV i C sp E t σ H Q := ⟨hv, h⟩
end
section
variable {K : PySem.W.Frag} {σ : L2.St} {H : Hp} {Q : VK} {D : Ends} {v x : V} {ta tv : TE} {t : TA} {a C dx : Addr} {fs : List (Str × V)} {f m : Str} {sp : Sp} {dvs : List V} {E : XK}
theorem w_fldT (h : ta σ H fun x H1 => ∃ a C dx fs v, x = .ref a ∧ H1 a = some (.ins C dx fs) ∧ Cls K C ∧ NoAttr K C f ∧ fs.lookup f = some v ∧ Q v H1) : tFld K ta f σ H Q := h
theorem w_sfld (h : tv σ H fun y H1 => ta σ H1 fun x H2 => ∃ a C dx fs, x = .ref a ∧ H2 a = some (.ins C dx fs) ∧ Cls K C ∧ NoAttr K C f ∧ fs.length < 1000 ∧ D.nx σ (upd H2 a (.ins C dx (putF f y fs)))) : sFld K ta tv f D σ H := h
theorem w_prop (h : ta σ H fun x H1 => ∃ a dx fs, x = .ref a ∧ H1 a = some (.ins C dx fs) ∧ sp (.ref a :: dvs) H1 Q E) : tProp C sp dvs E ta σ H Q := h
theorem w_meth (h : ta σ H fun x H1 => ∃ a dx fs, x = .ref a ∧ H1 a = some (.ins C dx fs) ∧ fs.lookup m = none ∧ t σ H1 fun vs H2 => sp (x :: vs ++ dvs) H2 Q E) : tMeth C m sp dvs E ta t σ H Q := h
theorem w_cmeth (h : ta σ H fun x H1 => x = .ref C ∧ t σ H1 fun vs H2 => sp (.ref C :: vs) H2 Q E) : ClX.tCMeth C sp E ta t σ H Q := h
theorem w_truO {QT : Bool → Hp → Prop} (h : ta σ H fun x H1 => ∃ a, x = .ref a ∧ Ins H1 a C ∧ sp [x] H1 (fun v H' => ∃ c, v = .bl c ∧ QT c H') E) : tTruO C sp E ta σ H QT := h
theorem w_fmtO (h : ta σ H fun x H1 => ∃ a, x = .ref a ∧ Ins H1 a C ∧ sp [x] H1 (fun v H' => isStr v ∧ Q v H') E) : tFmtO C sp E ta σ H Q := h
theorem w_kget {d : Addr} {kvs : List (Str × V)} {td ty tx : TE} (h : td σ H fun x H1 => x = .ref d ∧ ty σ H1 fun y H2 => tx σ H2 fun z H3 => ∃ k : Str, y = .str k ∧ Q ((kvs.lookup k).getD z) H3) : tKGet d kvs td ty tx σ H Q := h
theorem w_notT (h : ta σ H fun x H1 => ∃ k, TruV K x H1 k ∧ Q (.bl (!k)) H1) : tNotT K ta σ H Q := h
end
theorem Ins.keep {H H' : Hp} {a C : Addr} (h : Ins H a C) (k : Keep [] H H') : Ins H' a C := by
  obtain ⟨dx, fs, e⟩ := h
  exact ⟨dx, fs, k.get e (by simp)⟩
end Fr
namespace Fr
open PySem PySem.Spec PyProof.Rows L2
theorem keep_upd {H H1 : Hp} {p : Addr} {o : HO} (h : upd H p o = H1) (hp : H p = none) : Keep [] H H1 := h ▸ Keep.new hp
theorem at_upd {H H1 : Hp} {p : Addr} {o : HO} (h : upd H p o = H1) : H1 p = some o := h ▸ upd_same
theorem Bag.nin {H : Hp} {b p : Addr} {n : Nat} (h : Bag H b n) (hp : H p = none) : p ∉ [b] := by
  have := h.ne hp
  simpa using this
/-- the bag's place stays out of what is new -/
theorem Keep.back {b : Addr} {H H' : Hp} {S : List Addr} (k : Keep S H H') {p : Addr} (hp : H' p = none) : H p = none := k.free hp
theorem ip_or {X : Cx} : PIp X .BitOr (ipI fun i j => Builtin.bitOr i j) := by
  intro pins s σ H x y v u Q I r1 r2 h
  obtain ⟨i, j, e1, e2, q⟩ := h
  subst e1; subst e2
  obtain ⟨t, rfl⟩ := r1
  obtain ⟨t', rfl⟩ := r2
  exact ior_int ⟨.int _, H, I.tok _, ⟨_, rfl⟩, q⟩
end Fr
set_option Elab.async false
set_option linter.all false
set_option maxRecDepth 100000
set_option maxHeartbeats 4000000
namespace Fr
open PySem PySem.Spec PyProof.Rows L2
def bitN (c : Nat) : Nat := if c = 114 then 4 else if c = 119 then 2 else if c = 120 then 1 else 0
def digG : Nat → List Nat → Option Nat
  | a, [] => some a
  | a, c :: r => if bitN c = 0 ∨ 0 < a &&& bitN c then none else digG (a ||| bitN c) r
def digL (l : List Nat) : Option Nat := digG 0 l
def wrds : List Str := ["", "x", "w", "wx", "r", "rx", "rw", "rwx"]
def wrd (d : Nat) : Str := wrds.getD d ""
theorem bit_lt (c : Nat) : bitN c < 8 := by
  unfold bitN
  split
  · decide
  split
  · decide
  split <;> decide
theorem or_lt {a b : Nat} (ha : a < 8) (hb : b < 8) : a ||| b < 8 := Nat.or_lt_two_pow (n := 3) ha hb
theorem borN : ∀ a < 8, ∀ b < 8, Builtin.bitOr ((a : Nat) : Int) ((b : Nat) : Int) = ((a ||| b : Nat) : Int) := by decide +kernel
theorem wrd_len : ∀ d < 8, (wrd d).length ≤ 3 := by decide +kernel
theorem dig_lt : ∀ {l : List Nat} {a d : Nat}, a < 8 → digG a l = some d → d < 8
  | [], a, d, h, e => by
    cases e
    exact h
  | c :: r, a, d, h, e => by
    unfold digG at e
    split at e
    · cases e
    · exact dig_lt (or_lt h (bit_lt c)) e
def rF (d : Nat) (l : Addr) : List (Str × V) := [("own_digit", .int (d : Nat)), ("own_letters", .ref l)]
theorem rF_d (d : Nat) (l : Addr) : (rF d l).lookup ("own_digit" : Str) = some (.int (d : Nat)) := rfl
theorem rF_l (d : Nat) (l : Addr) : (rF d l).lookup ("own_letters" : Str) = some (.ref l) := rfl
def ltV (d : Nat) : List V := sgV (wrd d)
structure IsR (C : Addr) (H : Hp) (a : Addr) (d : Nat) : Prop where
  lt : d < 8
  ex : ∃ dx l, H a = some (.ins C dx (rF d l)) ∧ H l = some (.lst (ltV d))
section
variable {C a b p : Addr} {H H' : Hp} {d n : Nat} {S : List Addr}
theorem IsR.ins (h : IsR C H a d) : Ins H a C := by
  obtain ⟨_, dx, l, e, _⟩ := h
  exact ⟨dx, _, e⟩
theorem IsR.keep (h : IsR C H a d) (k : Keep [] H H') : IsR C H' a d := by
  obtain ⟨lt, dx, l, e, e2⟩ := h
  exact ⟨lt, dx, l, k.get e (by simp), k.get e2 (by simp)⟩
theorem IsR.stay {o : HO} (h : IsR C H a d) (hp : H p = none) : IsR C (upd H p o) a d := h.keep (Keep.new hp)
theorem IsR.inj {d' : Nat} (h : IsR C H a d) (h' : IsR C H a d') : d = d' := by
  obtain ⟨_, dx, l, e, _⟩ := h
  obtain ⟨_, dx', l', e', _⟩ := h'
  rw [e] at e'
  have e2 := Option.some.inj e'
  injection e2 with _ _ e3
  unfold rF at e3
  simp only [List.cons.injEq, Prod.mk.injEq, V.int.injEq, true_and] at e3
  have := e3.1
  omega
end
/-- made anew behind H -/
structure IsRF (C : Addr) (H H' : Hp) (a : Addr) (d : Nat) : Prop where
  lt : d < 8
  nw : H a = none
  ex : ∃ dx l, H' a = some (.ins C dx (rF d l)) ∧ H' l = some (.lst (ltV d)) ∧ H l = none
theorem IsRF.old {C a : Addr} {H H' : Hp} {d : Nat} (h : IsRF C H H' a d) : IsR C H' a d := by
  obtain ⟨lt, _, dx, l, e, e2, _⟩ := h
  exact ⟨lt, dx, l, e, e2⟩
theorem Keep.was {S : List Addr} {H H' : Hp} {p : Addr} (k : Keep S H H') (h : H' p = none) : H p = none := by
  cases e : H p with
  | none => rfl
  | some o =>
    obtain ⟨o', e'⟩ := (k p o e).1
    rw [e'] at h
    cases h
theorem IsRF.from {C a : Addr} {S : List Addr} {H0 H H' : Hp} {d : Nat} (h : IsRF C H H' a d) (k : Keep S H0 H) : IsRF C H0 H' a d := by
  obtain ⟨lt, n, dx, l, e, e2, e3⟩ := h
  exact ⟨lt, k.was n, dx, l, e, e2, k.was e3⟩
/-- what Rights.of takes -/
def PartD (C : Addr) (H : Hp) (v : V) (d : Nat) : Prop := (∃ a, v = .ref a ∧ IsR C H a d) ∨ (∃ z, v = .str z ∧ z.length ≤ 1000000 ∧ digL (tl z) = some d)
theorem PartD.lt {C : Addr} {H : Hp} {v : V} {d : Nat} (h : PartD C H v d) : d < 8 := by
  rcases h with ⟨a, _, h⟩ | ⟨z, _, _, h⟩
  · exact h.lt
  · exact dig_lt (by decide) h
theorem PartD.keep {C : Addr} {H H' : Hp} {v : V} {d : Nat} (h : PartD C H v d) (k : Keep [] H H') : PartD C H' v d := by
  rcases h with ⟨a, e, h⟩ | h
  · exact .inl ⟨a, e, h.keep k⟩
  · exact .inr h
end Fr
set_option Elab.async false
set_option linter.all false
set_option maxRecDepth 100000
set_option maxHeartbeats 4000000
namespace Fr
open PySem PySem.Spec PyProof.Rows L2
structure Sh (d : PyData) (n k : Nat) : Prop where
  s : d.showable = true
  h : d.hasDict = false
  dp : d.depth ≤ k
  l : d.shown.length ≤ n
structure ShA (ds : List PyData) (n k : Nat) : Prop where
  s : PyData.showableAll ds = true
  h : PyData.hasDictAll ds = false
  d : PyData.depthAll ds ≤ k
  l : ((PyData.shownAll ds).map (·.length)).sum ≤ n
theorem shownAll_len : ∀ ds : List PyData, (PyData.shownAll ds).length = ds.length
  | [] => rfl
  | d :: ds => by simp [PyData.shownAll, shownAll_len ds]
theorem Sh.non : Sh .none 4 0 := ⟨rfl, rfl, by simp [PyData.depth], by decide +kernel⟩
theorem Sh.bl (b : Bool) : Sh (.bool b) 5 0 := ⟨rfl, rfl, by simp [PyData.depth], by cases b <;> decide +kernel⟩
theorem Sh.int {i : Int} (h : i.natAbs < 10 ^ 12) : Sh (.int i) 13 0 := by
  refine ⟨?_, rfl, by simp [PyData.depth], PyData.shown_int_le h⟩
  unfold PyData.showable
  refine decide_eq_true ?_
  by_cases h0 : i.natAbs = 0
  · rw [h0]
    decide
  · exact Nat.lt_trans ((Nat.log2_lt (k := 64) h0).mpr (Nat.lt_of_lt_of_le h (by decide))) (by decide)
theorem Sh.str {z : Str} (h : Asc z) : Sh (.str z) (10 * z.length + 2) 0 := by
  refine ⟨rfl, rfl, by simp [PyData.depth], ?_⟩
  unfold PyData.shown
  exact StrLaws.reprText_len z fun c hc => Nat.lt_trans (h c hc) (by decide)
theorem ShA.nil : ShA [] 0 0 := ⟨rfl, rfl, by simp [PyData.depthAll], by simp [PyData.shownAll]⟩
theorem ShA.cons {d : PyData} {ds : List PyData} {n m j k : Nat} (a : Sh d n j) (b : ShA ds m k) : ShA (d :: ds) (n + m) (max j k) := by
  refine ⟨?_, ?_, ?_, ?_⟩
  · simp [PyData.showableAll, a.s, b.s]
  · simp [PyData.hasDictAll, a.h, b.h]
  · have := a.dp
    have := b.d
    simp only [PyData.depthAll]
    omega
  · have := a.l
    have := b.l
    simp only [PyData.shownAll, List.map_cons, List.sum_cons]
    omega
theorem Sh.list {ds : List PyData} {n k : Nat} (a : ShA ds n k) : Sh (.list ds) (n + 2 * ds.length + 3) (k + 1) := by
  refine ⟨by simp [PyData.showable, a.s], by simp [PyData.hasDict, a.h], ?_, ?_⟩
  · have := a.d
    simp only [PyData.depth]
    omega
  · have := listText_len_le (PyData.shownAll ds)
    rw [shownAll_len] at this
    have := a.l
    simp only [PyData.shown]
    omega
theorem Sh.tuple {ds : List PyData} {n k : Nat} (a : ShA ds n k) : Sh (.tuple ds) (n + 2 * ds.length + 3) (k + 1) := by
  refine ⟨by simp [PyData.showable, a.s], by simp [PyData.hasDict, a.h], ?_, ?_⟩
  · have := a.d
    simp only [PyData.depth]
    omega
  · have := tupleText_len_le (PyData.shownAll ds)
    rw [shownAll_len] at this
    have := a.l
    simp only [PyData.shown]
    omega
end Fr
set_option Elab.async false
set_option linter.all false
set_option maxRecDepth 100000
set_option maxHeartbeats 4000000
namespace Fr
open PySem PySem.HandSPX Builtin Builtin.ObjectAttr
/-- a base: its name, its __new__, that one's owner, its __init__, its mro -/
structure XBs where
  b : String
  n : String
  o : String
  i : String
  t : List Value
def veB : XBs := ⟨"ValueError", "ValueError.__new__", "ValueError", "ValueError.__init__", [.type "ValueError", .type "Exception", .type "BaseException", .type "object"]⟩
structure XBf (B : XBs) : Prop where
  newKind : builtinKind B.n = some .builtinFn
  newSplit : splitId B.n = some (B.o, "__new__")
  newRow : Manifest.signature? B.n = some ⟨.any, B.o, B.o, .cls, [⟨"args", .varPos, false⟩, ⟨"kwargs", .varKw, false⟩]⟩
  starO : (B.o != "*") = true
  ends : B.n.endsWith ".__new__" = true
  entry : entryFor table B.n = some Builtin.«BaseException.__new__»
  owner : B.n.dropRight 8 = B.o
  canon : Manifest.canonical B.n = Manifest.canonical "BaseException.__new__"
  quiet : B.n.startsWith "lifetime." = false
  hasO : B.t.contains (.type B.o) = true
  noA : B.t.contains (.type "AttributeError") = false
  noN : B.t.contains (.type "NameError") = false
  obj : B.t.contains (.type "object") = true
  ne : B.t ≠ []
  initPlain : plainId B.i = true
  initEntry : entryFor table B.i = some Builtin.«BaseException.__init__»
  initKind : builtinKind B.i = some .slot
  initRow : Manifest.signature? B.i = some ⟨.positional, "*", B.b, .self, [⟨"args", .varPos, false⟩]⟩
  starB : (B.b != "*") = true
  kxs : PySem.W.KxsFacts B.b B.i
  passes : ∀ self : Value, refuseLoop self "__setattr__" B.t = pure ()
theorem veF : XBf veB :=
  have F := PySem.F.excBase_ValueError
  ⟨F.newKind, F.newSplit, F.newRow, F.noStar, F.ends, F.entry, F.owner, F.canon, F.quiet, F.hasB, F.noAttr, F.noName, by decide +kernel, by decide, F.init.plain, F.initEntry, F.initKind, F.initRow, F.noStar, PySem.W.kxs_ValueError, PySem.F.store_ValueError.passes⟩
/-- own classes, then T -/
def refsT (T : List Value) : List Value → Bool
  | .ref _ :: r => refsT T r
  | l => l == T
theorem refsT_cases {T : List Value} (l : List Value) (e : refsT T l = true) : (∃ c r, l = .ref c :: r ∧ refsT T r = true) ∨ l = T := by
  unfold refsT at e
  split at e
  · exact .inl ⟨_, _, rfl, e⟩
  · exact .inr (beq_iff_eq.mp e)
theorem refsT_pass {B : XBs} (F : XBf B) (self : Value) : ∀ l : List Value, refsT B.t l = true → refuseLoop self "__setattr__" l = pure ()
  | [], e => by
    rcases refsT_cases [] e with ⟨c, r, q, _⟩ | q
    · cases q
    · exact absurd q.symm F.ne
  | a :: r, e => by
    rcases refsT_cases (a :: r) e with ⟨c, r', q, h⟩ | q
    · obtain ⟨rfl, rfl⟩ := List.cons.inj q
      rw [refuseLoop_ref]
      exact refsT_pass F self r h
    · rw [q]
      exact F.passes self
theorem refsT_has {B : XBs} (F : XBf B) (X : String) : ∀ l : List Value, refsT B.t l = true → l.contains (.type X) = B.t.contains (.type X)
  | [], e => by
    rcases refsT_cases [] e with ⟨c, r, q, _⟩ | q
    · cases q
    · exact absurd q.symm F.ne
  | a :: r, e => by
    rcases refsT_cases (a :: r) e with ⟨c, r', q, h⟩ | q
    · obtain ⟨rfl, rfl⟩ := List.cons.inj q
      rw [List.contains_cons, refsT_has F X r h]
      rfl
    · rw [q]
theorem refsT_ne {B : XBs} (F : XBf B) {l : List Value} (e : refsT B.t l = true) : l.isEmpty = false := by
  cases l with
  | nil =>
    rcases refsT_cases [] e with ⟨c, r, q, _⟩ | q
    · cases q
    · exact absurd q.symm F.ne
  | cons _ _ => rfl
section
variable {prog : Program} {w : World} {A : Around} {E : Value → Shared → Prop} {R : Result → Shared → Prop} {h : Heap} {g : Array GenState} {d : Drawn} {t : Nat} {os : OsState}
variable {nm q : Str} {C N : Addr} {bs bm : List Value} {hdct : Bool} {sn : List Str} {sub : List Value} {ab : Bool} {col : Option Bool} {dd : Option Addr} {k0 k1 k2 k3 k5 : Option Value} {B : XBs}
theorem bx_checkNew (F : XBf B) (hT : refsT B.t bm = true) {rest : List Value} {Q : Unit → Shared → Prop} (hC : h.get? C = some (excClassObj nm q C N bs bm hdct sn sub ab col dd k0 k1 k2 k3 k5 B.n)) (hq : Q () ⟨h, g, d, t, os⟩) :
    wpAny (model prog w) A (checkBuiltinCall B.n ⟨.ref C :: rest, []⟩) Q E ⟨h, g, d, t, os⟩ := by
  have hc : (Value.ref C :: bm).contains (.type B.o) = true := by rw [List.contains_cons, refsT_has F _ _ hT, F.hasO, Bool.or_true]
  have hs := F.starO
  simp only [checkBuiltinCall, F.newKind, F.newSplit, F.newRow]
  repeat (first | refine wpAny_loadPart_at hC ?_ | (refine wpAny_isSubtype_exc hC ?_; rw [hc]) | refine wpAny_staticBase_exc hC ?_ | refine wpAny_madeBy_exc hC ?_ | (simp only [bne_self_eq_false, Bool.false_eq_true, if_false]) | wp_step)
  exact hq
theorem bx_new (F : XBf B) (hT : refsT B.t bm = true) {rest : List Value} (hC : h.get? C = some (excClassObj nm q C N bs bm hdct sn sub ab col dd k0 k1 k2 k3 k5 B.n))
    (hq : R (.ok (.ret (.ref (h.objs.size + 1)))) ⟨(h.push { cls := .type "tuple", data := .seq rest.toArray }).push { cls := .ref C, data := .fields #[.ref h.objs.size, .none, .none, .none, .bool false, .none] }, g, d, t, os⟩) (hr : rest.length ≤ sizeLine) :
    codeAny (model prog w) A (.builtin B.n ⟨.ref C :: rest, []⟩) R ⟨h, g, d, t, os⟩ := by
  have he := F.ends
  have c1 : (Value.ref C :: bm).contains (.type B.o) = true := by rw [List.contains_cons, refsT_has F _ _ hT, F.hasO, Bool.or_true]
  have c2 : (Value.ref C :: bm).contains (.type "AttributeError") = false := by rw [List.contains_cons, refsT_has F _ _ hT, F.noA]; rfl
  have c3 : (Value.ref C :: bm).contains (.type "NameError") = false := by rw [List.contains_cons, refsT_has F _ _ hT, F.noN]; rfl
  refine codeAny_builtinAt F.entry ?_
  unfold Builtin.«BaseException.__new__»
  refine wpAt_bind ?_
  show wpAt _ _ _ (stack >>= _) _ _ _
  refine wpAt_bind (wpAt_stack fun p below => wpAt_of_wpAny ?_)
  wp_walk
  refine wpAt_of_wpAny ?_
  rw [F.owner]
  repeat (first | with_reducible refine wpAny_madeHere_exc F.canon hC ?_ | with_reducible refine wpAny_loadPart_at hC ?_ | (with_reducible refine wpAny_isSubtype_exc hC ?_; first | rw [c1] | rw [c2] | rw [c3]) | wp_step)
  show R _ _
  rw [Heap.size_push]
  exact hq
theorem bx_typeCall (F : XBf B) (hT : refsT B.t bm = true) {rest : List Value} {fI : Addr} {Q : Fin → Shared → Prop} (hC : h.get? C = some (excClassObj nm q C N bs bm hdct sn sub ab col dd k0 k1 k2 k3 k5 B.n))
    (hi : W.Looks (model prog w) h (typeLookup (.ref C) "__init__") (some (.ref fI))) (hb : ∀ self, W.Looks (model prog w) h (bindSpecial (.ref fI) self) (.ref fI, [self])) (hr : rest.length ≤ sizeLine)
    (hq : codeAny (model prog w) A (.call (.ref fI) ⟨.ref (h.objs.size + 1) :: rest, []⟩) (fun r s' => match r with | .ok (.ret v) => v = .none ∧ Q (.done (.ret (.ref (h.objs.size + 1)))) s' | .ok _ => False | .error e => E e s') ⟨(h.push (W.kdv_tup rest)).push (excO C h.objs.size), g, d, t, os⟩) :
    wpAny (model prog w) A (Builtin.«type.__call__» ⟨.ref C :: rest, []⟩) Q E ⟨h, g, d, t, os⟩ := by
  repeat (first | with_reducible refine wpAny_loadPart_at hC ?_ | with_reducible refine wpAny_madeBy_exc hC ?_ | wp_step)
  refine codeAny_call_builtin_code (Code.quiet_builtin _ F.quiet) (bx_checkNew F hT hC ?_)
  refine bx_new F hT hC ?_ hr
  show wpAny _ _ _ _ _ _
  have k : ∀ b o, h.get? b = some o → ((h.push (W.kdv_tup rest)).push (excO C h.objs.size)).get? b = some o := fun b o e => Heap.get?_push_of_some _ (Heap.get?_push_of_some _ e)
  have hC1 := k _ _ hC
  have hg : ((h.push (W.kdv_tup rest)).push (excO C h.objs.size)).get? (h.objs.size + 1) = some (excO C h.objs.size) := by heap_get
  have hcC : (Value.ref C :: bm).contains (.ref C) = true := by simp
  have i1 := hi.keeps k
  have b1 := (hb (.ref (h.objs.size + 1))).keeps k
  unfold isInstance
  repeat (first | with_reducible refine wpAny_loadPart_at hg ?_ | (with_reducible refine wpAny_isSubtype_exc hC1 ?_; rw [hcC]) | wp_step)
  show wpAny _ _ (typeLookup (.ref C) _) _ _ _
  refine i1.at ?_
  refine wpAny_holding (wpAny_bind (b1.at ?_))
  refine wpAny_bind (wpAny_call (codeAny_mono hq fun r s' z => ?_))
  rcases r with e | (v | _ | _ | _) <;> first | exact z | exact z.elim | skip
  obtain ⟨rfl, z⟩ := z
  first | exact wpAny_pure (wpAny_pure z) | (wp_walk; exact z)
theorem bx_call (F : XBf B) (hT : refsT B.t bm = true) {rest : List Value} {fI : Addr} (hC : h.get? C = some (excClassObj nm q C N bs bm hdct sn sub ab col dd k0 k1 k2 k3 k5 B.n))
    (hi : W.Looks (model prog w) h (typeLookup (.ref C) "__init__") (some (.ref fI))) (hb : ∀ self, W.Looks (model prog w) h (bindSpecial (.ref fI) self) (.ref fI, [self])) (hr : rest.length ≤ sizeLine)
    (hq : codeAny (model prog w) (A.under (.builtin "type.__call__" ⟨.ref C :: rest, []⟩)) (.call (.ref fI) ⟨.ref (h.objs.size + 1) :: rest, []⟩) (W.InitBack (h.objs.size + 1) R) ⟨(h.push (W.kdv_tup rest)).push (excO C h.objs.size), g, d, t, os⟩) :
    codeAny (model prog w) A (.call (.ref C) ⟨rest, []⟩) R ⟨h, g, d, t, os⟩ := by
  have f1 := tc_lookup
  have f2 := tc_bind (.ref C)
  have hTy : (⟨h, g, d, t, os⟩ : Shared).TypeIs (.ref C) "type" := ⟨_, hC, rfl⟩
  refine codeAny_of_tree ?_
  show wpAny _ _ (callAny (.ref C) _) _ _ _
  repeat (any_goals (first | assumption | with_reducible refine wpAny_loadPart_at hC ?_ | wp_step))
  refine ⟨rfl, ?_⟩
  refine codeAny_call_builtin_at (Code.quiet_builtin _ (by decide +kernel)) entry_typeCall (wpAny_check_type_call_sub hC (bx_typeCall F hT hC hi hb hr ?_))
  refine codeAny_mono hq fun r s' z => ?_
  rcases r with e | (v | _ | _ | _) <;> exact z
theorem bx_osa (F : XBf B) {K : W.Frag} {name : Str} {tk : Tok} {v : Value} {x C : Addr} {fv : Array Value} {cd : ClassData} {hp : Heap}
    (X : K.In hp) (hx : hp.get? x = some { cls := .ref C, data := .fields fv }) (hcd : W.clsIn K C = some cd) (hm : refsT B.t cd.mro = true) (hh : cd.hasDict = true) (ha : W.findIn K (.ref C) name = some none)
    (hq : ∀ h' tk' dx, (∀ b o, b ≠ x → hp.get? b = some o → h'.get? b = some o) → hp.objs.size ≤ dx → dx ≠ x → h'.get? x = some { cls := .ref C, dict := some dx, data := .fields fv } → h'.Ns1 dx (fun y => if y = name then some v else none) → R (.ok (.ret .none)) ⟨h', g, d, tk', os⟩) :
    codeAny (model prog w) A (.call (.builtin "object.__setattr__") ⟨[.ref x, .str name tk, v], []⟩) R ⟨hp, g, d, t, os⟩ := by
  have I : W.InstAt hp x { cls := .ref C, data := .fields fv } C none := ⟨hx, rfl, rfl, trivial⟩
  have SF := PySem.F.store_object
  have ne := refsT_ne F hm
  have hob : cd.mro.contains (.type "object") = true := (refsT_has F "object" _ hm).trans F.obj
  have hxs : x ≠ hp.objs.size := Nat.ne_of_lt (Heap.lt_size hx)
  have sub : W.Looks (model prog w) hp (isInstance (.ref x) (.type "object")) true := I.type.andThen (W.looks_mroIn X (by unfold W.mroIn; rw [hcd, Option.bind_some, if_neg (by rw [ne]; decide), hob]))
  refine codeAny_call_builtin SF.slot.plain SF.entry (@W.check_slot (model prog w) _ _ ⟨hp, g, d, t, os⟩ "object.__setattr__" "object" "__setattr__" (.ref x) [.str name tk, v] [] _ SF.kind SF.split sub (SF.args (.ref x) (.str name tk) v) ?_)
  have hmr : W.Looks (model prog w) hp (mroOf (.ref C)) cd.mro := (W.looks_clsIn X hcd).andThen .now
  have L3 : W.Looks (model prog w) hp (storeTaker? none) none := .now
  have hcls : W.Looks (model prog w) hp (classData C) cd := W.looks_clsIn X hcd
  rw [W.osa_eq, refuse_eq]
  refine wpAny_bind (wpAny_bind (I.type.at (wpAny_bind (hmr.at ?_))))
  rw [refsT_pass F _ _ hm]
  refine wpAny_pure (wpAny_bind (I.type.at (wpAny_bind ((W.looks_findIn X ha).at (wpAny_bind (L3.at ?_))))))
  show wpAny _ _ (storeInOwnDict (.ref x) (.ref C) (.str name tk) name v false) _ _ _
  obtain ⟨nm, bs, mro, ns, qn, hd, sn, sb, ab, col, del⟩ := cd
  dsimp only at hh
  subst hh
  unfold storeInOwnDict ownDictForStores
  repeat (first | with_reducible refine store_in_new ?_ ?_ | with_reducible refine wpAny_loadPart_at hx ?_ | with_reducible refine hcls.at ?_ | wp_step)
  · exact ⟨_, #[], _, (Heap.get?_update_ne _ _ _ _ hxs.symm).trans (Heap.get?_push_at rfl rfl), rfl, fun e he => absurd he (by simp), fun _ => rfl⟩
  · intro h' tk' hn' hs
    have hx1 : (hp.push { cls := .type "dict", data := .dict #[] }).get? x = some { cls := .ref C, data := .fields fv } := Heap.get?_push_of_some _ hx
    refine hq h' tk' hp.objs.size (fun b o hb ho => ?_) (Nat.le_refl _) hxs.symm ?_ hn'
    · exact (hs.2 b (Nat.ne_of_lt (Heap.lt_size ho))).trans ((Heap.get?_update_ne _ _ _ _ hb).trans (Heap.get?_push_of_some _ ho))
    · exact (hs.2 x hxs).trans (Heap.get?_update_self _ hx1 rfl)
end
end Fr
namespace Fr
open PySem PySem.Spec PyProof.Rows L2
/-- the written part of such a class -/
structure SupC (B : XBs) (P : Program) (K : PySem.W.Frag) (C : Addr) (f : Str) : Prop where
  cls : ∃ nm q N bs bm sn sub ab col dd k0 k1 k2 k3 k5, K.lookup C = some (excClassObj nm q C N bs bm true sn sub ab col dd k0 k1 k2 k3 k5 B.n) ∧ refsT B.t bm = true
  sa : PySem.W.findIn K (.ref C) "__setattr__" = some (some (.builtin "object.__setattr__"))
  nf : PySem.W.findIn K (.ref C) f = some none
  exC : PySem.W.subIn K (.ref C) (.type "BaseException") = some true
  exV : PySem.W.subIn K (.ref C) (.type B.b) = some true
  tyC : PySem.W.typeIn K (.ref C) = some (.type "type")
  kC : PySem.W.keepIn K (.ref C) = true
  me : PySem.W.mroIn K C (.ref C) = some true
  sup : PySem.W.ks_superIn K C C "__init__" = some (some (.builtin B.i))
  op : PySem.W.nsIn K cStatics "thirdparty.any" = some none
  top : (P.main.scope.names.lookup ("super" : Str)).isSome = false
/-- its __init__ -/
structure SupI (P : Program) (K : PySem.W.Frag) (C fI : Addr) (f : Str) : Prop where
  iC : PySem.W.findIn K (.ref C) "__init__" = some (some (.ref fI))
  tI : PySem.W.typeIn K (.ref fI) = some (.type "function")
  fn : ∃ (nm qual n0 n1 tx file : Str) (params : Arguments) (scope : Scope) (dV kV doc pm ct oc : Value) (an od : Option Addr) (osl : Array (Option Value)) (cda cc : Addr) (p0 p1 p2 p3 p4 p5 p6 p7 p8 p9 : Pos) (kd : Nat) (ar : Arg) (vs : Array Value) (tf : Tok)
      (ccl cl : Value) (cdd cld : Option Addr) (ccs csl : Array (Option Value)),
    K.lookup fI = some ⟨oc, od, .func (PySem.W.ksFn nm qual params [.Expr (.Call (.Attribute (.Call (.Name "super" p0) [] [] p1) "__init__" p2) [.Constant (.str tx) kd p3] [] p4) p5, .Assign [.Attribute (.Name n0 p6) f p7] (.Name n1 p8) p9] scope dV kV doc pm an (.ref cda) ct cc), osl⟩ ∧
    PySem.W.codeIn K (.ref cda) qual = true ∧ (params.posonlyargs ++ params.args).head? = some ar ∧ ar.arg = n0 ∧ n0 ≠ n1 ∧
    K.lookup cda = some ⟨ccl, cdd, .fields vs, ccs⟩ ∧ vs[2]? = some (.str file tf) ∧ ((P.main.file : Str) == file) = true ∧ K.lookup cc = some ⟨cl, cld, .cell (some (.ref C)), csl⟩ ∧
    scope.names.lookup ("super" : Str) = some .globalImplicit ∧ scope.names.lookup ("__class__" : Str) = some .free ∧ scope.names.lookup n0 = some .local ∧ scope.names.lookup n1 = some .local ∧ scope.kind = .function ∧ scope.isCoroutine = false ∧ scope.isGenerator = false ∧ (∀ x ∈ scope.names, x.2 ≠ .cell) ∧
    (n0 == ("__debug__" : Str)) = false ∧ (n1 == ("__debug__" : Str)) = false ∧
    (∃ pl : Sem Bool, ∀ env : Env, eval (.Call (.Attribute (.Call (.Name "super" p0) [] [] p1) "__init__" p2) [.Constant (.str tx) kd p3] [] p4) env = (do
      let ov ← attributeBase (.Call (.Name "super" p0) [] [] p1) "__init__" env (eval (.Call (.Name "super" p0) [] [] p1) env)
      standAt p2.atName
      let (f, first) ← holding [ov] (getMethod ov "__init__" pl)
      callWith p4 f first (backTo p4 (starEach [.Constant (.str tx) kd p3] env)) [])) ∧
    ∀ (s : Shared) (a b : Value), BindsTo s (PySem.W.ksFn nm qual params [.Expr (.Call (.Attribute (.Call (.Name "super" p0) [] [] p1) "__init__" p2) [.Constant (.str tx) kd p3] [] p4) p5, .Assign [.Attribute (.Name n0 p6) f p7] (.Name n1 p8) p9] scope dV kV doc pm an (.ref cda) ct cc) ⟨[a, b], []⟩ [(n0, a), (n1, b)]
open PySem.W in
theorem bx_bound {B : XBs} (F : XBf B) {P : Program} {w : World} {A : Around} {E : Value → Shared → Prop} {h : Heap} {g : Array GenState} {d : Drawn} {t : Nat} {os : OsState} {nm q : Str} {C N e : Addr} {oe : Obj} {bs bm : List Value} {hdct : Bool} {sn : List Str} {sub : List Value} {ab : Bool} {col : Option Bool} {dd : Option Addr} {k0 k1 k2 k3 k5 : Option Value} {rest : List Value} {Q : Unit → Shared → Prop} {nw : String}
    (hC : h.get? C = some (excClassObj nm q C N bs bm hdct sn sub ab col dd k0 k1 k2 k3 k5 nw)) (he : h.get? e = some oe) (hcls : oe.cls = .ref C) (hq : Q () ⟨h, g, d, t, os⟩) : wpAny (model P w) A (checkBoundCall B.i ⟨.ref e :: rest, []⟩) Q E ⟨h, g, d, t, os⟩ := by
  have hs := F.starB
  simp only [checkBoundCall, F.initKind, F.initRow]
  repeat (first | (with_reducible refine wpAny_loadPart_at he ?_; rw [hcls]) | with_reducible refine wpAny_loadPart_at hC ?_ | wp_step)
  refine wpAny_onRaise ?_
  rw [show ∀ (a b : String) (n : Nat), Bind.check ⟨.positional, "*", B.b, .self, [⟨"args", .varPos, false⟩]⟩ a b n (List.map (fun x => x.fst) ({ pos := Value.ref e :: rest } : Args).kw) = pure () from fun a b n => check_star_args _ _ _ _ _ _]
  exact wpAny_pure hq
open PySem.W in
/-- the bound ValueError.__init__ called -/
theorem mw_call {B : XBs} (BF : XBf B) {P : Program} {w : World} {A : Around} {E : Value → Shared → Prop} {h : Heap} {g : Array GenState} {d : Drawn} {t : Nat} {os : OsState} {nm q : Str} {C N : Addr} {bs bm : List Value} {hdct : Bool} {sn : List Str} {sub : List Value} {ab : Bool} {col : Option Bool} {dd : Option Addr} {k0 k1 k2 k3 k5 : Option Value} {u x t0 : Addr} {rest : List Value} {Q : Value → Shared → Prop}
    (hC : h.get? C = some (excClassObj nm q C N bs bm hdct sn sub ab col dd k0 k1 k2 k3 k5 B.n)) (hu : h.get? u = some (kxs_mw B.i x)) (he : h.get? x = some (PySem.HandSPX.excO C t0)) (hz : rest.length ≤ sizeLine)
    (hq : ∀ h' t1, (∀ b o, b ≠ x → h.get? b = some o → h'.get? b = some o) → h'.get? x = some (PySem.HandSPX.excO C t1) → Q .none ⟨h', g, d, t, os⟩) :
    wpAny (model P w) A (call (.ref u) rest) Q E ⟨h, g, d, t, os⟩ := by
  refine wpAny_call (codeAny_of_tree ?_)
  show wpAny _ A.in1 (callAny (.ref u) ⟨rest, []⟩) _ _ _
  simp only [callAny]
  refine wpAny_bind (wpAny_load hu ?_)
  simp only [kxs_mw, show (Value.type "method-wrapper" == Value.type "method" || Value.type "method-wrapper" == Value.type "builtin_function_or_method" || Value.type "method-wrapper" == Value.type "method-wrapper") = true by decide, if_true]
  refine KFB.if_so (by decide) ?_
  refine wpAny_bind (bx_bound BF hC he rfl ?_)
  refine wpAny_bind (wpAny_pure (wpAny_pure ?_))
  refine ⟨plainId_quiet BF.initPlain _, codeAny_builtin BF.initEntry ?_⟩
  exact exc_init_tree (cls := .ref C) (t0 := t0) (dv := none) (c2 := .none) (c3 := .none) (b4 := .bool false) he hz fun h' k e _ => hq h' _ k e
open PySem.W in
theorem sup_run {B : XBs} (BF : XBf B) {P : Program} {w : World} {A : Around} {R : Result → Shared → Prop} {hp : Heap} {g : Array GenState} {d : Drawn} {t : Nat} {os : OsState} {K : PySem.W.Frag} {C fI x t0 : Addr} {f : Str} {u : Value} {mg mb : Str → Option Value}
    (S : SupC B P K C f) (F : SupI P K C fI f) (X : K.In hp) (gl : hp.Ns mainGlobals mg) (hs : mg "super" = none) (bl : hp.Ns builtinsNs mb) (hb : mb "super" = some (.type "super")) (nl : hp.NoLimit) (nx : K.lookup x = none) (hx : hp.get? x = some (PySem.HandSPX.excO C t0)) (hroom : A.depth < recursionLimit)
    (hq : ∀ h' dx t1 tk, (∀ b o, b ≠ x → hp.get? b = some o → h'.get? b = some o) → hp.objs.size ≤ dx → dx ≠ x → h'.get? x = some { cls := .ref C, dict := some dx, data := .fields #[.ref t1, .none, .none, .none, .bool false, .none] } → h'.Ns1 dx (fun y => if y = f then some u else none) → R (.ok (.ret .none)) ⟨h', g, d, tk, os⟩) :
    codeAny (model P w) A (.call (.ref fI) ⟨[.ref x, u], []⟩) R ⟨hp, g, d, t, os⟩ := by
  obtain ⟨nm, qual, n0, n1, tx, file, params, scope, dV, kV, doc, pm, ct, oc, an, od, osl, cda, cc, p0, p1, p2, p3, p4, p5, p6, p7, p8, p9, kd, ar, vs, tf, ccl, cl, cdd, cld, ccs, csl, lk, hcd, har, hn0, n01, lkc, hvs, hfile, lcc, hks, hkc, hk0, hk1, hkn, hco, hge, hcell, hd0, hd1, ⟨pl, hev⟩, hbind⟩ := F.fn
  subst hn0
  obtain ⟨cn, cq, cN, cbs, cbm, csn, csub, cab, ccol, cdd', k0, k1, k2, k3, k5, hC, hbm⟩ := S.cls
  have hcl : PySem.W.clsIn K C = some { name := cn, bases := cbs, mro := .ref C :: cbm, ns := cN, qualname := cq, hasDict := true, slotNames := csn, subclasses := csub, abstract := cab, collection := ccol, hasDel := false } := by unfold PySem.W.clsIn; rw [hC] <;> rfl
  refine ks_codeAny_call_defAt (s := ⟨hp, g, d, t, os⟩) (body := [.Expr (.Call (.Attribute (.Call (.Name "super" p0) [] [] p1) "__init__" p2) [.Constant (.str tx) kd p3] [] p4) p5, .Assign [.Attribute (.Name ar.arg p6) f p7] (.Name n1 p8) p9]) (binds := [(ar.arg, .ref x), (n1, u)]) hroom (X _ _ lk) rfl nl (codeRec_of X hcd) rfl (hbind _ _ _) hcell (fun y hy => ?_) (fun h1 hns kk => ?_) hco hge hkn
  · rcases (show y = (ar.arg, .ref x) ∨ y = (n1, u) by simpa using hy) with rfl | rfl
    · exact hk0
    · exact hk1
  have X1 : K.In h1 := X.keeps kk
  have hx1 := kk _ _ hx
  have m0 : (fun y => [(ar.arg, Value.ref x), (n1, u)].reverse.lookup y) ar.arg = some (.ref x) := by
    have e : (ar.arg == n1) = false := by simpa using n01
    simp [List.lookup, e]
  have m1 : (fun y => [(ar.arg, Value.ref x), (n1, u)].reverse.lookup y) n1 = some u := by simp [List.lookup]
  have xC : x ≠ C := fun z => by
    have e := X _ _ hC
    rw [← z, hx] at e
    cases e
  have hint : ∀ L, interactive (callEnv (ksFn nm qual params [.Expr (.Call (.Attribute (.Call (.Name "super" p0) [] [] p1) "__init__" p2) [.Constant (.str tx) kd p3] [] p4) p5, .Assign [.Attribute (.Name ar.arg p6) f p7] (.Name n1 p8) p9] scope dV kV doc pm an (.ref cda) ct cc) L fI) = false := fun L => by
    show (scope.kind == .module && _) = false
    rw [hkn]
    rfl
  refine ks_wpAt_execs_cons (ks_wpAt_Expr_any (ks_wpAt_MethodCall (pl := pl) ?_ (hev _)) (hint _))
  refine ks_wpAt_super_base (fd := ksFn nm qual params _ scope dV kV doc pm an (.ref cda) ct cc) hks hkc (by decide) rfl (X1 _ _ lk) rfl har rfl (X1 _ _ lkc) rfl hvs hfile S.top ?_
  refine ks_loadName_global hkn hks (Calls.loadGlobal_builtin (gl.keeps kk) hs (bl.keeps kk) hb ⟨rfl, ?_⟩)
  refine wpAny_loadName_free (c := cc) hkn hkc rfl ⟨_, X1 _ _ lcc, rfl⟩ ?_
  refine wpAny_loadName_local hkn hk0 hns m0 ?_
  have I1 : InstAt h1 x (PySem.HandSPX.excO C t0) C none := ⟨hx1, rfl, rfl, trivial⟩
  refine ks_wpAny_isType_cls (X1 _ _ hC) rfl ⟨rfl, ?_⟩
  refine ks_wpAny_call_super (X1 _ _ hC) rfl hx1 rfl (fun c e => by cases e) (looks_mroIn X1 S.me) (fun h2 so k2 => ?_)
  have X2 : K.In h2 := X1.keeps k2
  have hx2 := k2 _ _ hx1
  have I2 : InstAt h2 x (PySem.HandSPX.excO C t0) C none := ⟨hx2, rfl, rfl, trivial⟩
  have hsup := S.sup
  unfold ks_superIn at hsup
  rw [hcl] at hsup
  refine kxs_getMethod BF.kxs (l₀ := .ref C :: cbm) so (looks_opaque X2 S.op) (fun A Q E s k q => wpAny_bind ((looks_clsIn X2 hcl) A _ E s k (wpAny_pure q))) rfl X2 hsup (I2.type.andThen (looks_subIn X2 S.exV)) xC (by decide) ?_
  have k3 : ∀ b o, h2.get? b = some o → (h2.push (kxs_mw B.i x)).get? b = some o := fun b o e => Heap.get?_push_of_some _ e
  have hu3 : (h2.push (kxs_mw B.i x)).get? h2.objs.size = some (kxs_mw B.i x) := Heap.get?_push_at rfl rfl
  generalize h2.push (kxs_mw B.i x) = h3 at k3 hu3 ⊢
  have X3 : K.In h3 := X2.keeps k3
  have hx3 := k3 _ _ hx2
  refine kxs_callWith (i := B.i) (x := x) rfl ?_
  refine Calls.evalArgs_plain (x := eval (.Constant (.str tx) kd p3) _) (rest := []) (Calls.spliced_cons (Calls.Constant_str (Calls.spliced_nil ⟨hu3, ?_⟩)))
  refine mw_call BF (X3 _ _ hC) hu3 hx3 (by show 1 ≤ sizeLine; rw [sizeLine_eq]; omega) fun h4 t4 k4 hx4 => ?_
  have L1 : hp.objs.size ≠ x := Nat.ne_of_gt (Heap.lt_size hx)
  have kx : ∀ b o, b ≠ x → h1.get? b = some o → h4.get? b = some o := fun b o n e => k4 b o n (k3 b o (k2 b o e))
  have ns4 : h4.Ns hp.objs.size (fun y => [(ar.arg, Value.ref x), (n1, u)].reverse.lookup y) := by
    obtain ⟨o, es, ep, e1, r⟩ := hns
    exact ⟨o, es, ep, kx _ _ L1 e1, r⟩
  have X4 : K.In h4 := fun b o e => kx b o (fun z => by
    rw [z, nx] at e
    cases e) (X1 b o e)
  refine ks_wpAt_execs_cons (ks_wpAt_Assign_Attr (wpAt_of_wpAny ?_))
  refine wpAny_Name (wpAny_loadName_local hkn hk1 ns4 m1 ?_) hd1
  refine wpAny_Name (wpAny_loadName_local hkn hk0 ns4 m0 ?_) hd0
  refine PySem.W.set_plain X4 (ox := PySem.HandSPX.excO C t4) (od := none) ⟨hx4, rfl, rfl, trivial⟩ S.sa ?_
  refine bx_osa BF X4 hx4 hcl (show refsT B.t (.ref C :: cbm) = true from hbm) rfl S.nf (fun h5 tk dx k5 dn dne hx5 hn5 => ?_)
  refine wpAt_of_wpAny (wpAny_execs_nil ?_)
  have lt4 : hp.objs.size < h4.objs.size := by
    obtain ⟨o, es, ep, e1, _⟩ := ns4
    exact Heap.lt_size e1
  exact hq h5 dx t4 _ (fun b o n e => k5 b o n (kx b o n (kk b o e))) (Nat.le_of_lt (Nat.lt_of_lt_of_le lt4 dn)) dne hx5 hn5
/-- C(e) -/
def tMkS (C : Addr) (f : Str) (te : TE) : L2.St → Hp → XK → Prop := fun σ H Q => te σ H fun v H1 => ∀ d, H1 d = none → Q (.ref C) (some d) (upd H1 d (.xd [(f, v)]))
theorem pmk_sup {B : XBs} (BF : XBf B) {X : Cx} {x f : Str} {C fI : Addr} {k : Nat} {e : Expr} {te : TE} {p pos : Pos} (S : SupC B X.prog X.K C f) (FI : SupI X.prog X.K C fI f) (hr : Room (k + 1) X.A) (hs : X.mg "super" = none) (hg : Gl X x) (hm : X.mg x = some (.ref C)) (he : PE X e te)
    (hdb : (x == ("__debug__" : Str)) = false := by decide) (hst : starEach [e] X.env = (false, eval e X.env) :: starEach [] X.env := by rfl) :
    PMk X (.Call (.Name x p) [e] [] pos) (tMkS C f te) := by
  intro pins s σ H Q I h
  obtain ⟨nm, q, N, bs, bm, sn, sub, ab, col, dd, k0, k1, k2, k3, k5, hC, hbm⟩ := S.cls
  refine wpAny_Call_Name_kw (ld_glob I hg hm ?_ hdb)
  refine PySem.W.callWith_K (h₀ := X.base) I.ok.mod.kin S.kC ?_ hst (by rfl)
  rw [hst]
  show wpAny _ _ (spliced ((false, eval e X.env) :: backTo pos (starEach [] X.env))) _ _ s
  refine Calls.spliced_cons (thn (he.run pins s σ H _ I h) fun u s1 ⟨v, H1, I1, r1, q1⟩ => ?_)
  refine Calls.spliced_nil ⟨I1.kIn, ?_⟩
  show wpAny _ _ (call (.ref C) [u]) _ _ _
  obtain ⟨hp, g, dr, tk, os⟩ := s1
  refine wpAny_call (bx_call BF hbm (I1.kIn _ _ hC) (PySem.W.looks_findIn I1.kIn FI.iC) (fun self => PySem.W.bind_fn I1.kIn self FI.tI) (by show 1 ≤ sizeLine; rw [sizeLine_eq]; omega) ?_)
  obtain ⟨mb, hb1, hb2⟩ := I1.mod.blt
  have kk : ∀ b o, hp.get? b = some o → ((hp.push (PySem.W.kdv_tup [u])).push (PySem.HandSPX.excO C hp.objs.size)).get? b = some o := fun b o e => Heap.get?_push_of_some _ (Heap.get?_push_of_some _ e)
  have hget : ((hp.push (PySem.W.kdv_tup [u])).push (PySem.HandSPX.excO C hp.objs.size)).get? (hp.objs.size + 1) = some (PySem.HandSPX.excO C hp.objs.size) := by heap_get
  have hsz : ((hp.push (PySem.W.kdv_tup [u])).push (PySem.HandSPX.excO C hp.objs.size)).objs.size = hp.objs.size + 2 := by rw [Heap.size_push, Heap.size_push]
  have nx : X.K.lookup (hp.objs.size + 1) = none := by
    cases z : X.K.lookup (hp.objs.size + 1) with
    | none => rfl
    | some o =>
      have := Heap.lt_size (I1.kIn _ _ z)
      exact absurd this (by show ¬ (hp.objs.size + 1 < hp.objs.size); omega)
  refine sup_run BF S FI (I1.kIn.keeps kk) ((I1.mod.glob.keeps I1.bk).keeps kk) hs ((hb1.keeps I1.bk).keeps kk) (hb2 "super" (by decide)) ((I1.mod.nolimit.keeps I1.bk).keeps kk) nx hget (hr.make C [u] []).depth fun h' dx t1 tk' k dn dne hx hn => ⟨rfl, ?_⟩
  have hnx : ∀ b o, hp.get? b = some o → b ≠ hp.objs.size + 1 := fun b o e z => by
    have := Heap.lt_size e
    rw [z] at this
    exact Nat.not_lt_of_le (Nat.le_succ _) this
  obtain ⟨G, g1, g2⟩ := restrict h' fun b => decide (b ≠ hp.objs.size + 1)
  have gk : ∀ b, b ≠ hp.objs.size + 1 → G.get? b = h'.get? b := fun b hb => g1 b (decide_eq_true hb)
  have ge : G.get? (hp.objs.size + 1) = none := g2 _ (by simp)
  have hdn : hp.objs.size ≤ dx := by rw [hsz] at dn; omega
  have hnd : H1 dx = none := I1.hok.fresh hdn
  have J : L2.Inv X pins σ (upd H1 dx (.xd [(f, v)])) ⟨G, g, dr, tk', os⟩ := by
    refine I1.laid (t' := tk') (a := dx) (o := .xd [(f, v)]) (h' := G) (fun b o e => ?_) hdn ?_
    · rw [gk b (hnx b o e)]
      exact k b o (hnx b o e) (kk b o e)
    · exact ⟨_, hn.at fun o y => (gk dx dne).trans y, relO_put (fs := []) r1 fun g => True.intro⟩
  refine ⟨hp.objs.size + 1, _, _, ⟨G, g, dr, tk', os⟩, upd H1 dx (.xd [(f, v)]), .ref C, some dx, rfl, J, fun b o z => ?_, ge, hx, ⟨rfl, rfl⟩, rfl, rfl, ?_, rfl, I1.bare, raises_own S.exC S.tyC, q1 dx hnd⟩
  · by_cases hb : b = hp.objs.size + 1
    · rw [hb, ge] at z
      cases z
    · exact (gk b hb).symm.trans z
  · rw [upd_ne (Ne.symm dne)]
    exact I1.hok.fresh (Nat.le_succ _)
end Fr
set_option Elab.async false
set_option linter.all false
set_option maxRecDepth 100000
set_option maxHeartbeats 4000000
namespace Fr
open PySem PySem.Spec PyProof.Rows L2
abbrev Su := Addr → Value → Option Addr → TS
/-- the clauses in their order; out: behind the last one it goes on; never: that is not reached -/
inductive HP where
  | out
  | never
  | as (c : Value) (i : Nat) (ts : Su) (r : HP)
  | only (c : Value) (ts : Su) (r : HP)
/-- a suite's ends, the clause's name gone behind it -/
def gonE (i : Nat) (D : Ends) : Ends := { nx := fun σ' H' => D.nx (σ'.set i none) H', rt := D.rt, bk := fun σ' H' => D.bk (σ'.set i none) H', ct := fun σ' H' => D.ct (σ'.set i none) H' }
def wHP (K : PySem.W.Frag) (Wout : WX) (D : Ends) : HP → WX
  | .out => Wout
  | .never => fun _ _ _ _ => False
  | .as c i ts r => fun cls d σ H => ∃ b, PySem.W.exmOne K cls c = some b ∧ (b = true → ∀ a, H a = none → ts a cls d (gonE i D) (σ.set i (some (.ref a))) H) ∧ (b = false → wHP K Wout D r cls d σ H)
  | .only c ts r => fun cls d σ H => ∃ b, PySem.W.exmOne K cls c = some b ∧ (b = true → ∀ a, H a = none → ts a cls d D σ H) ∧ (b = false → wHP K Wout D r cls d σ H)
/-- a suite, whatever exception it holds -/
def SuOk (X : Cx) (ss : List Stmt) (ts : Su) : Prop := ∀ (a : Addr) (oe : Obj) (cls : Value) (d : Option Addr) (pn : List (Addr × Obj)), Zc cls d oe → (∃ vs, oe.data = .fields vs) → PSs (X.suite a ((a, oe) :: pn)) ss (ts a cls d)
inductive HpOk (X : Cx) : List ExceptHandler → HP → Prop
  | out : HpOk X [] .out
  | never {hds : List ExceptHandler} : HpOk X hds .never
  | as {x n : Str} {c : Value} {i : Nat} {ts : Su} {b₀ : Stmt} {suite : List Stmt} {np pos' : Pos} {hds : List ExceptHandler} {r : HP} (hc : Names X x c) (hi : X.N[i]? = some n) (hln : X.env.kindOf n = some .local) (hsu : SuOk X (b₀ :: suite) ts) (hr : HpOk X hds r) :
      HpOk X (.ExceptHandler (some (.Name x np)) (some n) (b₀ :: suite) pos' :: hds) (.as c i ts r)
  | only {x : Str} {c : Value} {ts : Su} {b₀ : Stmt} {suite : List Stmt} {np pos' : Pos} {hds : List ExceptHandler} {r : HP} (hc : Names X x c) (hsu : SuOk X (b₀ :: suite) ts) (hr : HpOk X hds r) :
      HpOk X (.ExceptHandler (some (.Name x np)) none (b₀ :: suite) pos' :: hds) (.only c ts r)
section
variable {X : Cx} {body : List Stmt} {h₀ : ExceptHandler} {hds : List ExceptHandler} {l : HP} {pos : Pos} {tb : WX → TS} {Wout : WX}
theorem ps_try_hp (hs : X.stack = X.env :: X.outer) (hf : X.env.frame = some X.env.locals) (hN : X.N.Nodup) (tk : Takes X Wout)
    (hb : ∀ (W : WX) (pn : List (Addr × Obj)) (xe : Value → Shared → Prop), Takes (X.tr pn xe) W → PassesOwn (model X.prog X.w) X.A X.env xe → PSs (X.tr pn xe) body (tb W))
    (hh : HpOk X (h₀ :: hds) l) : PS X (.Try body (h₀ :: hds) [] [] pos) (fun D σ H => tb (wHP X.K Wout D l) D σ H) := by
  refine ⟨fun pins s σ H D I h => ?_⟩
  have ok := I.ok
  have hfr : X.A.frames = some (X.env :: X.outer) := by rw [ok.frames, hs]
  refine wpAny_Try_except ?_
  refine wpAny_mono ((hb (wHP X.K Wout D l) (X.pn ++ pins) (fun e s₁ => wpAny (model X.prog X.w) X.A (noteFrame e X.env) (fun _ s₂ => wpAny (model X.prog X.w) X.A (setFlight e none) (fun _ s₃ =>
    wpAny (model X.prog X.w) X.A (handleBy e X.env (h₀ :: hds)) (SP X pins D) X.xe s₃) X.xe s₂) X.xe s₁) (fun u s' xx => ?_) PassesOwn.looking).run [] s σ H D (I.toTry _) h) (fun f s1 hsp => ?_) (fun e s1 he => he)
  · obtain ⟨a, B, sI, pins', σ', H', cls, d, rfl, J', nb, up, sky, na, os, ag, w⟩ := xx
    have J : L2.Inv X pins σ' H' sI := J'.ofTry ok
    have sky' : Sky B (X.env :: X.outer) a (Zc cls d) X.env.locals s'.heap := by rw [← hs]; exact sky
    show wpAny (model X.prog X.w) X.A (noteFrame (.ref a) X.env) _ _ _
    refine Sky.land Zc.steady hfr hf sky' fun h3 fl3 up3 => ?_
    have J3 : L2.Inv X pins σ' H' { s' with heap := h3 } := J.landed nb fl3.1 (up.trans up3) os ag
    obtain ⟨oe3, vs3, he3, hz3, hd3⟩ := fl3.there
    have nfr : a ∉ frs (X.env :: X.outer) := fun hm => by
      obtain ⟨_, o', e', hnf⟩ := fl3.2.2.1.mem hm
      rw [he3] at e'
      cases e'
      exact hnf _ hd3
    have nL : a ≠ X.env.locals := fun z => nfr (List.mem_filterMap.mpr ⟨X.env, List.mem_cons_self, by rw [hf, z]⟩)
    have nF : a ∉ X.fs := fun hm => by
      obtain ⟨e, he, q⟩ := List.mem_filterMap.mp hm
      exact nfr (List.mem_filterMap.mpr ⟨e, List.mem_cons_of_mem _ he, q⟩)
    have S3 := J3.suite he3 hd3 na nL nF
    have LT : PySem.W.Looks (model X.prog X.w) h3 (typeOf (.ref a)) cls := fun A Q E s k q => wpAny_typeOf_ref (k _ _ he3) (by rw [hz3.1]; exact q)
    have test : ∀ {x : Str} {c : Value} {np : Pos} {Q : Value → Shared → Prop} {E : Value → Shared → Prop}, Names X x c → Q c { s' with heap := h3 } → wpAny (model X.prog X.w) (X.A.mark (some (.ref a))) (eval (.Name x np) X.env) Q E { s' with heap := h3 } := fun {x c np Q E} hc q => by
      obtain ⟨hg, hdbg, hm | ⟨hm, hv, hnn⟩⟩ := hc
      · exact ld_glob (X := X.suite a ((a, oe3) :: (X.pn ++ pins))) S3 hg hm q hdbg
      · exact ld_blt (X := X.suite a ((a, oe3) :: (X.pn ++ pins))) S3 hg hm hv q hnn hdbg
    have go : ∀ {hds' : List ExceptHandler} {l' : HP}, HpOk X hds' l' → wHP X.K Wout D l' cls d σ' H' →
        wpAny (model X.prog X.w) X.A (handleBy (.ref a) X.env hds') (SP X pins D) X.xe { s' with heap := h3 } := by
      intro hds' l' hk
      induction hk with
      | never => exact fun w => w.elim
      | out =>
        intro w
        refine wpAny_handleBy_nil ?_
        obtain ⟨k1, k2, k3, oe, vs, T, oT, ts', he, hz, hd, h1, hr⟩ := id fl3
        unfold PySem.passOn
        refine wpAny_bind (wpAny_field he hd h1 ?_)
        rw [if_neg (show ¬ ((Value.ref T == Value.none) = true) from by simp)]
        have fin : wpAny (model X.prog X.w) X.A (setFlight (.ref a) X.env.frame) (fun _ s4 => wpAny (model X.prog X.w) X.A (throw (.ref a) : Sem Flow) (SP X pins D) X.xe s4) X.xe { s' with heap := h3 } := by
          rw [hf]
          refine HandSPX.setFlight_upZ fl3 fun h4 hh4 up4 => wpAny_throw (tk _ _ ?_)
          exact ⟨a, B, sI, pins, σ', H', cls, d, rfl, J, nb, (up.trans up3).trans up4, .inr (.inr (by rw [hs]; exact hh4)), na, os, ag, w⟩
        first
          | exact wpAny_bind (wpAny_pure (wpAny_bind fin))
          | exact wpAny_bind fin
      | @as x n c i ts b₀ suite np pos' hds2 r hc hi hln hsu hr ih =>
        intro w
        obtain ⟨b, hb1, hyes, hno⟩ := w
        refine wpAny_handleBy_cons (codeAny_handlers_test ?_) (by intro q; cases q)
        refine test hc ((PySem.W.exm_one (M := model X.prog X.w) (J3.kIn) LT hb1).here ?_)
        cases b with
        | true =>
          refine codeAny_handlers_suite_as ?_
          refine HandSPX.lands_againZ fl3 fun h4 fl4 up4 => ?_
          have J4 : L2.Inv X pins σ' H' { s' with heap := h4 } := J.landed nb fl4.1 ((up.trans up3).trans up4) os ag
          obtain ⟨oe4, vs4, he4, hz4, hd4⟩ := fl4.there
          have S4 := J4.suite he4 hd4 na nL nF
          refine store_ok (X := X.suite a ((a, oe4) :: (X.pn ++ pins))) (v := .ref a) S4 hN hi (.inl hln) rfl (fun s5 S5 => ?_) (.inr hln)
          refine wpAny_mono ((hsu a oe4 cls d (X.pn ++ pins) hz4 ⟨_, hd4⟩).run [] s5 _ H' _ S5 (hyes rfl a na)) (fun f s6 hsp => ?_) (fun _ _ z => False.elim z)
          have end_ : ∀ {σ6 : L2.St} {H6 : Hp} {Q : Shared → Prop}, L2.Inv (X.suite a ((a, oe4) :: (X.pn ++ pins))) [] σ6 H6 s6 → (∀ s7, L2.Inv X pins (σ6.set i none) H6 s7 → Q s7) →
              wpAny (model X.prog X.w) X.A (do bindName X.env n .none; unbindBehindTheSuite X.env n pos') (fun _ s7 => Q s7) X.xe s6 := fun {σ6 H6 Q} S6 hq => gone_ok (S6.unsuite ok) hN hi hln hq
          cases f with
          | next =>
            obtain ⟨σ6, H6, S6, q6⟩ := hsp
            exact end_ S6 fun s7 J7 => ⟨_, _, J7, q6⟩
          | brk =>
            obtain ⟨σ6, H6, S6, q6⟩ := hsp
            exact end_ S6 fun s7 J7 => ⟨_, _, J7, q6⟩
          | cont =>
            obtain ⟨σ6, H6, S6, q6⟩ := hsp
            exact end_ S6 fun s7 J7 => ⟨_, _, J7, q6⟩
          | ret u =>
            obtain ⟨v6, σ6, H6, S6, r6, q6⟩ := hsp
            exact end_ S6 fun s7 J7 => ⟨_, _, _, J7, r6, q6⟩
        | false => exact ih (hno rfl)
      | @only x c ts b₀ suite np pos' hds2 r hc hsu hr ih =>
        intro w
        obtain ⟨b, hb1, hyes, hno⟩ := w
        refine wpAny_handleBy_cons (codeAny_handlers_test ?_) (by intro q; cases q)
        refine test hc ((PySem.W.exm_one (M := model X.prog X.w) (J3.kIn) LT hb1).here ?_)
        cases b with
        | true =>
          refine codeAny_handlers_suite ?_
          refine HandSPX.lands_againZ fl3 fun h4 fl4 up4 => ?_
          have J4 : L2.Inv X pins σ' H' { s' with heap := h4 } := J.landed nb fl4.1 ((up.trans up3).trans up4) os ag
          obtain ⟨oe4, vs4, he4, hz4, hd4⟩ := fl4.there
          have S4 := J4.suite he4 hd4 na nL nF
          refine wpAny_mono ((hsu a oe4 cls d (X.pn ++ pins) hz4 ⟨_, hd4⟩).run [] _ _ H' _ S4 (hyes rfl a na)) (fun f s6 hsp => ?_) (fun _ _ z => False.elim z)
          cases f with
          | next =>
            obtain ⟨σ6, H6, S6, q6⟩ := hsp
            exact ⟨_, _, S6.unsuite ok, q6⟩
          | brk =>
            obtain ⟨σ6, H6, S6, q6⟩ := hsp
            exact ⟨_, _, S6.unsuite ok, q6⟩
          | cont =>
            obtain ⟨σ6, H6, S6, q6⟩ := hsp
            exact ⟨_, _, S6.unsuite ok, q6⟩
          | ret u =>
            obtain ⟨v6, σ6, H6, S6, r6, q6⟩ := hsp
            exact ⟨_, _, _, S6.unsuite ok, r6, q6⟩
        | false => exact ih (hno rfl)
    exact go hh w
  · cases f with
    | next =>
      obtain ⟨σ', H', J', q⟩ := hsp
      exact wpAny_execs_nil ⟨σ', H', J'.ofTry ok, q⟩
    | brk =>
      obtain ⟨σ', H', J', q⟩ := hsp
      exact ⟨σ', H', J'.ofTry ok, q⟩
    | cont =>
      obtain ⟨σ', H', J', q⟩ := hsp
      exact ⟨σ', H', J'.ofTry ok, q⟩
    | ret u =>
      obtain ⟨v, σ', H', J', r, q⟩ := hsp
      exact ⟨v, σ', H', J'.ofTry ok, r, q⟩
end
end Fr
set_option Elab.async false
set_option linter.all false
set_option maxRecDepth 100000
set_option maxHeartbeats 4000000
namespace Fr
section
open PySem PySem.Spec PyProof.Rows L2
theorem excC_kit {K : PySem.W.Frag} {x D : Addr} {ox : Obj} {od : Option Obj} (C : ExcC K D) : PySem.W.KitX K (.ref x) (.ref D) (fun h => PySem.W.InstAt h x ox D od) := by
  obtain ⟨cd, hc, _⟩ := PySem.W.any_some C.hd
  exact PySem.W.kitx_exc (by rw [hc]; rfl) C.hg C.hk C.hs C.ha C.hn C.ht C.hm
/-- isinstance(e, c): e the exception that the suite holds, its class D, its dict d -/
theorem inst_of {X : Cx} {a D : Addr} {oe : Obj} {d : Option Addr} {pn pins : List (Addr × Obj)} {σ : L2.St} {H : Hp} {s : Shared} (I : L2.Inv (X.suite a ((a, oe) :: pn)) pins σ H s) (hz : Zc (.ref D) d oe) (hf : ∃ vs, oe.data = .fields vs) (hd : ∀ dd, d = some dd → ∃ fs, H dd = some (.xd fs)) :
    ∃ od, PySem.W.InstAt s.heap a oe D od := by
  obtain ⟨hget, _⟩ := I.pin (a, oe) (List.mem_append.mpr (.inl List.mem_cons_self))
  obtain ⟨vs, hv⟩ := hf
  obtain ⟨h1, h2⟩ := hz
  have nc : PySem.W.notCls oe = true := by unfold PySem.W.notCls; rw [hv] <;> rfl
  cases d with
  | none => exact ⟨none, hget, h1, nc, by rw [h2]; trivial⟩
  | some dd =>
    obtain ⟨fs, ea⟩ := hd dd rfl
    have hx : ObjOk X.prog X.w H s.heap dd (.xd fs) := I.hok dd _ ea
    obtain ⟨mA, hns, hr⟩ := hx
    obtain ⟨od, ho, hl⟩ := lookIn_ns hns
    exact ⟨some od, hget, h1, nc, by rw [h2]; exact ho⟩
/-- isinstance(e, (c, ..)) -/
def rIsEDT (K : PySem.W.Frag) (a D : Addr) (cls : Value) (d : Option Addr) : List V → Hp → VK → Prop := fun xs H Q => ∃ (tp : Addr) (cs : List V) (us : List Value) (b : Bool), xs = [.ref a, .ref tp] ∧ cls = .ref D ∧ H tp = some (.tup cs) ∧ Paired ClsV cs us ∧ (∀ dd, d = some dd → ∃ fs, H dd = some (.xd fs)) ∧ PySem.W.kitAny K (.ref D) us = some b ∧ Q (.bl b) H
theorem call_isEDT {X : Cx} {a D : Addr} {oe : Obj} {cls : Value} {d : Option Addr} {pn : List (Addr × Obj)} (C : ExcC X.K D) (hz : Zc cls d oe) (hf : ∃ vs, oe.data = .fields vs) : CallR (X.suite a ((a, oe) :: pn)) (.builtin "isinstance") (rIsEDT X.K a D cls d) := by
  intro pins s σ H xs us Q I r h
  obtain ⟨tp, cs, ws, b, rfl, rfl, hT, k, hd, e, q⟩ := h
  cases r with
  | cons rx rr =>
    cases rr with
    | cons rt rr =>
      cases rr
      cases rx
      cases (show _ = Value.ref tp from rt)
      obtain ⟨_, its, rv, o, h1, h2, n, h3⟩ := (show ObjOk X.prog X.w H s.heap tp (.tup cs) from I.hok tp _ hT)
      have e3 := ClsV.all k rv
      subst e3
      obtain ⟨oc, od, dt, sl⟩ := o
      simp only at h2 h3
      subst h2 h3
      obtain ⟨od, J⟩ := inst_of I hz hf hd
      exact PySem.W.kia_tup (excC_kit C) I.kIn J h1 e (fun z => nomatch z) fun tk => ⟨.bl b, H, I.kept (t' := tk) fun _ _ z => z, rfl, q⟩
end
end Fr
set_option Elab.async false
set_option linter.all false
set_option maxRecDepth 100000
set_option maxHeartbeats 4000000
namespace Fr
open PySem PySem.Spec PyProof.Rows L2
structure XDef where
  at_ : PySem.W.Frag → Addr
  name : Str
  qual : Str
  params : Arguments
  body : List Stmt
  scope : Scope
abbrev FnX : Type := Option (Str × Str × Arguments × FuncBody × Scope × Addr × Addr)
def fnX (K : PySem.W.Frag) (a : Addr) : FnX := match K.lookup a with
  | some ⟨_, _, .func fd, _⟩ => some (fd.name, fd.qualname, fd.params, fd.body, fd.scope, fd.globals, fd.builtins)
  | _ => none
def XDef.val (d : XDef) : FnX := some (d.name, d.qual, d.params, .stmts d.body, d.scope, mainGlobals, builtinsNs)
def cellB (K : PySem.W.Frag) (C : Addr) : List (Str × Addr) → Bool
  | [(n, cc)] => n == ("__class__" : Str) && (match K.lookup cc with
    | some ⟨_, _, .cell (some (.ref D)), _⟩ => D == C
    | _ => false)
  | _ => false
def fileB (K : PySem.W.Frag) (P : Program) : Value → Bool
  | .ref cda => (match K.lookup cda with
    | some ⟨_, _, .fields vs, _⟩ => (match (vs[2]? : Option Value) with
      | some (.str file _) => (P.main.file : Str) == file
      | _ => false)
    | _ => false)
  | _ => false
def XDef.ok (P : Program) (K : PySem.W.Frag) (C : Addr) (d : XDef) : Bool := match K.lookup (d.at_ K) with
  | some ⟨_, _, .func fd, _⟩ => PySem.W.codeIn K fd.code d.qual && (He.dflB K fd.defaults [] && (cellB K C fd.closure && fileB K P fd.code))
  | _ => false
/-- the cells of such defs -/
def cellsX (K : PySem.W.Frag) (xs : List XDef) : List Addr := xs.flatMap fun d => match K.lookup (d.at_ K) with
  | some ⟨_, _, .func fd, _⟩ => fd.closure.map (·.2)
  | _ => []
def asX (g : Addr → Option Obj) (n : Nat) (xs : List XDef) : List Addr := asB g n ++ (cellsX (He.frG g (asB g n)) xs ++ [sysModules])
abbrev AlX : Type := AlF × List FnX
def obsX (cs : List (PySem.W.Frag → Bool)) (fn : List He5.DefA) (ts : List He.Tab) (xs : List XDef) (K : PySem.W.Frag) : AlX := (obsF cs fn ts K, xs.map fun d => fnX K (d.at_ K))
def valX (fn : List He5.DefA) (ts : List He.Tab) (xs : List XDef) (w : World) : AlX := (valF fn ts w, xs.map XDef.val)
abbrev AlXT : Type := AlX × Bool
def obsXG (n : Nat) (cs : List (PySem.W.Frag → Bool)) (fn : List He5.DefA) (ts : List He.Tab) (xs : List XDef) (g : Addr → Option Obj) : AlXT := (obsX cs fn ts xs (He.frT g (asX g n xs)), tabsE g (He.frT g (asX g n xs)))
def SaysX (cs : List (PySem.W.Frag → Bool)) (fn : List He5.DefA) (ts : List He.Tab) (xs : List XDef) (w : World) (K : PySem.W.Frag) : Prop := obsX cs fn ts xs K = valX fn ts xs w
def hookX (n : Nat) (cs : List (PySem.W.Frag → Bool)) (fn : List He5.DefA) (ts : List He.Tab) (xs : List XDef) : PySem.W.Hook where
  α := AlXT
  obs := fun s => obsXG n cs fn ts xs s.heap.get?
  val := fun w => (valX fn ts xs w, true)
  says := fun w h => ∃ K : PySem.W.Frag, K.In h ∧ SaysX cs fn ts xs w K ∧ TabsE K h
  of := fun _ _ e => ⟨_, He.frT_in, congrArg (fun z : AlXT => z.1) e, tabsE_ok (congrArg (fun z : AlXT => z.2) e)⟩
  keeps := fun _ _ _ ⟨K, hK, c, t⟩ k => ⟨K, PySem.W.Frag.In.keeps hK k, c, t.keeps k⟩
theorem obsXG_eq {n : Nat} {cs : List (PySem.W.Frag → Bool)} {fn : List He5.DefA} {ts : List He.Tab} {xs : List XDef} {g : Addr → Option Obj} {s : Shared} (h : ∀ a, g a = s.heap.get? a) : obsXG n cs fn ts xs g = (hookX n cs fn ts xs).obs s := by
  rw [show g = s.heap.get? from funext h]
  rfl
section
variable {cs : List (PySem.W.Frag → Bool)} {fn : List He5.DefA} {ts : List He.Tab} {xs : List XDef} {w : World} {K : PySem.W.Frag}
theorem SaysX.f (c : SaysX cs fn ts xs w K) : SaysF cs fn ts w K := congrArg (fun z : AlX => z.1) c
theorem SaysX.x (c : SaysX cs fn ts xs w K) (i : Nat) {d : XDef} (h : xs[i]? = some d := by rfl) : fnX K (d.at_ K) = d.val := by
  have e : xs.map (fun d => fnX K (d.at_ K)) = xs.map XDef.val := congrArg (fun z : AlX => z.2) c
  have e2 : (xs.map fun d => fnX K (d.at_ K))[i]? = (xs.map XDef.val)[i]? := by rw [e]
  rw [List.getElem?_map, List.getElem?_map, h] at e2
  exact Option.some.inj e2
end
theorem cellB_ok {K : PySem.W.Frag} {C : Addr} {l : List (Str × Addr)} (h : cellB K C l = true) : ∃ cc, l = [(("__class__" : Str), cc)] ∧ ∃ cl cld csl, K.lookup cc = some ⟨cl, cld, .cell (some (.ref C)), csl⟩ := by
  unfold cellB at h
  split at h
  · rename_i n cc
    obtain ⟨h1, h2⟩ := He.ba h
    have hn : n = ("__class__" : Str) := by simpa using h1
    split at h2
    · rename_i D sl lk
      have hD : D = C := by simpa using h2
      subst hn hD
      exact ⟨cc, rfl, _, _, _, lk⟩
    · cases h2
  · cases h
theorem fileB_ok {K : PySem.W.Frag} {P : Program} {v : Value} (h : fileB K P v = true) : ∃ cda, v = .ref cda ∧ ∃ ccl cdd vs ccs file tf, K.lookup cda = some ⟨ccl, cdd, .fields vs, ccs⟩ ∧ (vs[2]? : Option Value) = some (.str file tf) ∧ ((P.main.file : Str) == file) = true := by
  unfold fileB at h
  split at h
  · rename_i cda
    split at h
    · rename_i vs sl lk
      split at h
      · rename_i file tf hv
        exact ⟨cda, rfl, _, _, vs, _, file, tf, lk, hv, h⟩
      · cases h
    · cases h
  · cases h
theorem supI_of {P : Program} {K : PySem.W.Frag} {C : Addr} {f n1 tx : Str} {d : XDef} {ar : Arg} {p0 p1 p2 p3 p4 p5 p6 p7 p8 p9 : Pos} {kd : Nat} {pl : Sem Bool} (e : fnX K (d.at_ K) = d.val) (ok : d.ok P K C = true)
    (iC : PySem.W.findIn K (.ref C) "__init__" = some (some (.ref (d.at_ K)))) (tI : PySem.W.typeIn K (.ref (d.at_ K)) = some (.type "function"))
    (hb : d.body = [.Expr (.Call (.Attribute (.Call (.Name "super" p0) [] [] p1) "__init__" p2) [.Constant (.str tx) kd p3] [] p4) p5, .Assign [.Attribute (.Name ar.arg p6) f p7] (.Name n1 p8) p9])
    (har : (d.params.posonlyargs ++ d.params.args).head? = some ar) (n01 : ar.arg ≠ n1)
    (hs : d.scope.names.lookup ("super" : Str) = some .globalImplicit ∧ d.scope.names.lookup ("__class__" : Str) = some .free ∧ d.scope.names.lookup ar.arg = some .local ∧ d.scope.names.lookup n1 = some .local ∧ d.scope.kind = .function ∧ d.scope.isCoroutine = false ∧ d.scope.isGenerator = false)
    (hc : ∀ x ∈ d.scope.names, x.2 ≠ .cell) (h0 : (ar.arg == ("__debug__" : Str)) = false) (h1 : (n1 == ("__debug__" : Str)) = false)
    (hev : ∀ env : Env, eval (.Call (.Attribute (.Call (.Name "super" p0) [] [] p1) "__init__" p2) [.Constant (.str tx) kd p3] [] p4) env = (do
      let ov ← attributeBase (.Call (.Name "super" p0) [] [] p1) "__init__" env (eval (.Call (.Name "super" p0) [] [] p1) env)
      standAt p2.atName
      let (f, first) ← holding [ov] (getMethod ov "__init__" pl)
      callWith p4 f first (backTo p4 (starEach [.Constant (.str tx) kd p3] env)) []))
    (hbind : ∀ (kV doc pm ct cdv : Value) (an : Option Addr) (cc : Addr) (a b : Value), bindArgs (PySem.W.ksFn d.name d.qual d.params d.body d.scope .none kV doc pm an cdv ct cc) ⟨[a, b], []⟩ = pure [(ar.arg, a), (n1, b)]) :
    SupI P K C (d.at_ K) f := by
  refine ⟨iC, tI, ?_⟩
  unfold XDef.ok at ok
  unfold fnX at e
  split at ok
  · rename_i oc od fd osl lk
    rw [lk] at e
    have ok1 := (He.ba ok).1
    have r2 := (He.ba ok).2
    have ok2 := (He.ba r2).1
    have r3 := (He.ba r2).2
    have ok3 := (He.ba r3).1
    have ok4 := (He.ba r3).2
    clear r2 r3 ok
    obtain ⟨fn, fq, fp, fb, fs, fg, fc, fdf, fkd, fdoc, fpm, fan, fcode, fct, fbl⟩ := fd
    have e' := Option.some.inj e
    simp only [Prod.mk.injEq] at e'
    obtain ⟨e1, e2, e3, e4, e5, e6, e7⟩ := e'
    dsimp only at ok1 ok2 ok3 ok4
    subst e1 e2 e3 e5 e6 e7
    obtain ⟨cc, rfl, cl, cld, csl, lcc⟩ := cellB_ok ok3
    obtain ⟨cda, rfl, ccl, cdd, vs, ccs, file, tf, lkc, hvs, hfile⟩ := fileB_ok ok4
    rcases He.dflB_ok ok2 with ⟨_, rfl⟩ | ⟨h, _⟩
    · subst e4
      obtain ⟨s1, s2, s3, s4, s5, s6, s7⟩ := hs
      rw [hb] at lk
      refine ⟨_, _, ar.arg, n1, tx, file, _, _, _, _, _, _, _, _, _, _, _, cda, cc, p0, p1, p2, p3, p4, p5, p6, p7, p8, p9, kd, ar, vs, tf, ccl, cl, cdd, cld, ccs, csl, lk, ok1, har, rfl, n01, lkc, hvs, hfile, lcc, s1, s2, s3, s4, s5, s6, s7, hc, h0, h1, ⟨pl, hev⟩, fun s a b => ?_⟩
      have := hbind fkd fdoc fpm fct (.ref cda) fan cc a b
      rw [hb] at this
      exact BindsTo.of_eq this
    · exact absurd rfl h
  · cases ok
def exclB (B : XBs) (K : PySem.W.Frag) (C : Addr) : Bool := match K.lookup C with
  | some ⟨.type t, _, .cls cd, sl⟩ => (match cd.mro, sl.toList with
    | .ref C' :: bm, [_, _, _, _, some (.builtin n), _] => (t == "type" && (C' == C && n == B.n)) && ((!cd.hasDel && cd.hasDict) && refsT B.t bm)
    | _, _ => false)
  | _ => false
theorem exclB_ok {B : XBs} {K : PySem.W.Frag} {C : Addr} (h : exclB B K C = true) : ∃ nm q N bs bm sn sub ab col dd k0 k1 k2 k3 k5, K.lookup C = some (excClassObj nm q C N bs bm true sn sub ab col dd k0 k1 k2 k3 k5 B.n) ∧ refsT B.t bm = true := by
  unfold exclB at h
  split at h
  · rename_i t dd cd sl ho
    split at h
    · rename_i C' bm k0 k1 k2 k3 n k5 hm hs
      have a1 := (He.ba h).1
      have a2 := (He.ba h).2
      have b1 := (He.ba a1).1
      have b2 := (He.ba a1).2
      have c1 := (He.ba b2).1
      have c2 := (He.ba b2).2
      have d1 := (He.ba a2).1
      have d2 := (He.ba a2).2
      have e1 := (He.ba d1).1
      have e2 := (He.ba d1).2
      have ht : t = "type" := by simpa using b1
      have hC : C' = C := by simpa using c1
      have hn : n = B.n := by simpa using c2
      have hdel : cd.hasDel = false := by simpa using e1
      obtain ⟨nm, bs, mro, ns, qn, hd, sn, sub, ab, col, del⟩ := cd
      dsimp only at hm hdel e2
      subst hm hdel e2 ht hC hn
      have hsl : sl = #[k0, k1, k2, k3, some (.builtin B.n), k5] := by
        rw [← Array.toArray_toList (xs := sl), hs]
      subst hsl
      exact ⟨_, _, _, _, bm, _, _, _, _, _, _, _, _, _, _, ho, d2⟩
    · cases h
  · cases h
def supB (B : XBs) (P : Program) (K : PySem.W.Frag) (C : Addr) (f : Str) : Bool := exclB B K C && ((He.eqO (PySem.W.findIn K (.ref C) "__setattr__") (some (some (.builtin "object.__setattr__"))) && He.eqO (PySem.W.findIn K (.ref C) f) (some none)) &&
  (((decide (PySem.W.subIn K (.ref C) (.type "BaseException") = some true) && decide (PySem.W.subIn K (.ref C) (.type B.b) = some true)) && (decide (PySem.W.typeIn K (.ref C) = some (.type "type")) && PySem.W.keepIn K (.ref C))) &&
  ((decide (PySem.W.mroIn K C (.ref C) = some true) && He.eqO (PySem.W.ks_superIn K C C "__init__") (some (some (.builtin B.i)))) && (decide (PySem.W.nsIn K cStatics "thirdparty.any" = some none) && !(P.main.scope.names.lookup ("super" : Str)).isSome))))
theorem supB_ok {B : XBs} {P : Program} {K : PySem.W.Frag} {C : Addr} {f : Str} (h : supB B P K C f = true) : SupC B P K C f := by
  unfold supB at h
  have a := He.ba h
  have b := He.ba a.2
  have c := He.ba b.2
  have b1 := He.ba b.1
  have d := He.ba c.1
  have e := He.ba c.2
  have d1 := He.ba d.1
  have d2 := He.ba d.2
  have e1 := He.ba e.1
  have e2 := He.ba e.2
  exact ⟨exclB_ok a.1, He.eqO_ok b1.1, He.eqO_ok b1.2, of_decide_eq_true d1.1, of_decide_eq_true d1.2, of_decide_eq_true d2.1, d2.2, of_decide_eq_true e1.1, He.eqO_ok e1.2, of_decide_eq_true e2.1, by simpa using e2.2⟩
/-- isinstance(e, ..) of its instances -/
def excB (K : PySem.W.Frag) (D : Addr) : Bool := xfB K D && ((He.eqO (PySem.W.findIn K (.ref D) "__class__") (some (some (.builtin "object.__class__"))) && He.eqO (PySem.W.specialIn K (.builtin "object.__class__") "__get__") (some (some (.builtin "getset_descriptor.__get__")))) &&
  (decide (PySem.W.takesIn K (.builtin "object.__class__") = some true) && decide (PySem.W.mroIn K D (.type "object") = some true)))
theorem excB_ok {K : PySem.W.Frag} {D : Addr} (h : excB K D = true) : XfC K D ∧ ExcC K D := by
  unfold excB at h
  have a := He.ba h
  have b := He.ba a.2
  have c := He.ba b.1
  have d := He.ba b.2
  have x := xfB_ok a.1
  exact ⟨x, x.ga, x.gg, x.exC, x.hdC, He.eqO_ok c.1, He.eqO_ok c.2, of_decide_eq_true d.1, of_decide_eq_true d.2⟩
end Fr
set_option Elab.async false
set_option linter.all false
set_option maxRecDepth 100000
set_option maxHeartbeats 4000000
namespace Fr
open PySem PySem.Spec PyProof.Rows L2
theorem Keep.sqT {K : PySem.W.Frag} {H H1 : Hp} {a : Addr} {xs : List V} (k : Keep [] H H1) (h : SqT K H a xs) : SqT K H1 a xs := by
  rcases h with (h | ⟨o, h⟩) | h
  · exact .inl (.inl (k.get h (by simp)))
  · exact .inl (.inr ⟨o, k.get h (by simp)⟩)
  · exact .inr h
mutual
theorem dp_keep {K : PySem.W.Frag} {H H' : Hp} (k : Keep [] H H') : ∀ (d : PyData) (v : V), Dp K H v d → Dp K H' v d
  | .none, _, h => by cases h; exact .non
  | .bool b, _, h => by cases h; exact .bl b
  | .int i, _, h => by cases h; exact .int i
  | .str z, _, h => by cases h; exact .str z
  | .list ds, _, h => by
    cases h with
    | lst a b => exact .lst (k.sqL a) (dpAll_keep k ds _ b)
  | .tuple ds, _, h => by
    cases h with
    | tup a b => exact .tup (k.sqT a) (dpAll_keep k ds _ b)
  | .dict _, _, h => by cases h
theorem dpAll_keep {K : PySem.W.Frag} {H H' : Hp} (k : Keep [] H H') : ∀ (ds : List PyData) (vs : List V), DpAll K H vs ds → DpAll K H' vs ds
  | [], _, h => by cases h; exact .nil
  | d :: ds, _, h => by
    cases h with
    | cons a b => exact .cons (dp_keep k d _ a) (dpAll_keep k ds _ b)
end
theorem _root_.L2.Dp.keep {K : PySem.W.Frag} {H H' : Hp} {d : PyData} {v : V} (h : Dp K H v d) (k : Keep [] H H') : Dp K H' v d := dp_keep k d v h
theorem _root_.L2.DpAll.keep {K : PySem.W.Frag} {H H' : Hp} {ds : List PyData} {vs : List V} (h : DpAll K H vs ds) (k : Keep [] H H') : DpAll K H' vs ds := dpAll_keep k ds vs h
theorem Sh.mono {d : PyData} {n k n' k' : Nat} (h : Sh d n k) (a : n ≤ n') (b : k ≤ k') : Sh d n' k' := ⟨h.s, h.h, Nat.le_trans h.dp b, Nat.le_trans h.l a⟩
theorem ShA.mono {d : List PyData} {n k n' k' : Nat} (h : ShA d n k) (a : n ≤ n') (b : k ≤ k') : ShA d n' k' := ⟨h.s, h.h, Nat.le_trans h.d b, Nat.le_trans h.l a⟩
end Fr
set_option Elab.async false
set_option linter.all false
set_option maxRecDepth 100000
set_option maxHeartbeats 4000000
namespace Fr
open PySem PySem.Spec PyProof.Rows L2
def kD : Key → PyData
  | .inl i => .int i
  | .inr z => .str z
mutual
inductive Dq (K : PySem.W.Frag) (H : Hp) : V → PyData → Prop
  | non : Dq K H .non .none
  | bl (b : Bool) : Dq K H (.bl b) (.bool b)
  | int (i : Int) : Dq K H (.int i) (.int i)
  | str (x : Str) : Dq K H (.str x) (.str x)
  | lst {a : Addr} {xs : List V} {ds : List PyData} : SqL K H a xs → DqAll K H xs ds → Dq K H (.ref a) (.list ds)
  | tup {a : Addr} {xs : List V} {ds : List PyData} : SqT K H a xs → DqAll K H xs ds → Dq K H (.ref a) (.tuple ds)
  | dic {a : Addr} {kvs : List (Key × V)} {kds : List (PyData × PyData)} : Rd H a (.dK kvs) → DqAll K H (kvs.map (·.2)) (kds.map (·.2)) → kds.map (·.1) = kvs.map (fun kv => kD kv.1) → Dq K H (.ref a) (.dict kds)
inductive DqAll (K : PySem.W.Frag) (H : Hp) : List V → List PyData → Prop
  | nil : DqAll K H [] []
  | cons {v : V} {vs : List V} {d : PyData} {ds : List PyData} : Dq K H v d → DqAll K H vs ds → DqAll K H (v :: vs) (d :: ds)
end
mutual
theorem dp_dq {K : PySem.W.Frag} {H : Hp} : ∀ {v : V} {d : PyData}, Dp K H v d → Dq K H v d
  | _, _, .non => .non
  | _, _, .bl b => .bl b
  | _, _, .int i => .int i
  | _, _, .str x => .str x
  | _, _, .lst a b => .lst a (dpA_dq b)
  | _, _, .tup a b => .tup a (dpA_dq b)
theorem dpA_dq {K : PySem.W.Frag} {H : Hp} : ∀ {v : List V} {d : List PyData}, DpAll K H v d → DqAll K H v d
  | _, _, .nil => .nil
  | _, _, .cons a b => .cons (dp_dq a) (dpA_dq b)
end
theorem _root_.L2.Dp.q {K : PySem.W.Frag} {H : Hp} {v : V} {d : PyData} (h : Dp K H v d) : Dq K H v d := dp_dq h
mutual
theorem Dq.keep {K : PySem.W.Frag} {H H' : Hp} (k : Keep [] H H') : ∀ {v : V} {d : PyData}, Dq K H v d → Dq K H' v d
  | _, _, .non => .non
  | _, _, .bl b => .bl b
  | _, _, .int i => .int i
  | _, _, .str x => .str x
  | _, _, .lst a b => .lst (k.sqL a) (DqAll.keep k b)
  | _, _, .tup a b => .tup (k.sqT a) (DqAll.keep k b)
  | _, _, .dic a b c => .dic (a.imp (fun z => k.get z (by simp)) fun ⟨o, z⟩ => ⟨o, k.get z (by simp)⟩) (DqAll.keep k b) c
theorem DqAll.keep {K : PySem.W.Frag} {H H' : Hp} (k : Keep [] H H') : ∀ {v : List V} {d : List PyData}, DqAll K H v d → DqAll K H' v d
  | _, _, .nil => .nil
  | _, _, .cons a b => .cons (a.keep k) (DqAll.keep k b)
end
/-- the place of sys.modules is known -/
def SysK (K : PySem.W.Frag) : Prop := ∃ o, K.lookup sysModules = some o ∧ o.cls = .type "dict"
def sysB (K : PySem.W.Frag) : Bool := match K.lookup sysModules with
  | some ⟨.type c, _, _, _⟩ => decide (c = "dict")
  | _ => false
theorem sysB_ok {K : PySem.W.Frag} (h : sysB K = true) : SysK K := by
  unfold sysB at h
  split at h
  · rename_i c a b d e
    refine ⟨_, e, ?_⟩
    rw [of_decide_eq_true h]
  · cases h
theorem keys_read {P : Program} {w : World} {h : Heap} : ∀ {kvs : List (Key × V)} {vs : List (Key × Value)} {es : List DictEntry}, KV kvs vs → Pairs (mixKind P w) es vs → ReadsAll h (es.map (·.key)) (kvs.map (fun kv => kD kv.1)) [] ∧ Vals (kvs.map (·.2)) (es.map (·.val))
  | [], _, es, r, p => by
    cases r
    cases p
    exact ⟨.nil, .nil⟩
  | kv :: kvs, _, es, r, p => by
    cases r with
    | cons hq t =>
      cases p with
      | @cons e q es qs h1 h2 p =>
        obtain ⟨i1, i2⟩ := keys_read (h := h) t p
        constructor
        · have : Reads h e.key (kD kv.1) [] := by
            rw [hq.1]
            rcases keyIs_shape h1 with ⟨i, tk, e1, e2⟩ | ⟨x, tk, e1, e2⟩
            · rw [e1, e2]
              exact .int i tk
            · rw [e1, e2]
              exact .str x tk
          exact ReadsAll.cons (as := []) (bs := []) this i1
        · refine .cons ?_ i2
          show L2.RelV kv.2 e.val
          rw [h2]
          exact hq.2
section
variable {X : Cx} {pins : List (Addr × Obj)} {σ : L2.St} {H : Hp} {s : Shared}
mutual
theorem Dq.reads (I : L2.Inv X pins σ H s) (Y : SysK X.K) : ∀ {v : V} {d : PyData}, Dq X.K H v d → ∀ {u : Value}, RelV v u → ∃ as, Reads s.heap u d as ∧ sysModules ∉ as
  | _, _, .non, u, r => by
    cases r
    exact ⟨_, Reads.none, by simp⟩
  | _, _, .bl b, u, r => by
    cases r
    exact ⟨_, Reads.bool b, by simp⟩
  | _, _, .int i, u, r => by
    obtain ⟨t, rfl⟩ := r
    exact ⟨_, Reads.int i t, by simp⟩
  | _, _, .str x, u, r => by
    obtain ⟨t, rfl⟩ := r
    exact ⟨_, Reads.str x t, by simp⟩
  | _, _, .lst (a := a) hs ha, u, r => by
    cases r
    obtain ⟨its, rv, ⟨o, n, ho, hc, _, hd⟩, _⟩ := I.list hs
    obtain ⟨as, hr, hn⟩ := DqAll.reads I Y ha rv
    refine ⟨_, Reads.list ho hc hd hr, ?_⟩
    intro hm
    rcases List.mem_cons.mp hm with e | hm
    · obtain ⟨o', h1, h2⟩ := Y
      have h3 := I.kIn _ _ h1
      rw [e, ho] at h3
      cases h3
      rw [hc] at h2
      exact absurd h2 (by decide)
    · exact hn hm
  | _, _, .tup hs ha, u, r => by
    cases r
    obtain ⟨its, rv, ⟨o, ho, hc, n, hd⟩, _⟩ := I.tuple hs
    obtain ⟨as, hr, hn⟩ := DqAll.reads I Y ha rv
    exact ⟨_, Reads.tuple ho hc hd hr, hn⟩
  | _, _, .dic (a := a) (kvs := kvs) (kds := kds) e ha hk, u, r => by
    cases r
    obtain ⟨_, hsm, vs, rk, o, es, ep, ho, hx, hd, _, pr, _⟩ := Rd.ok e I.hok
    obtain ⟨k1, k2⟩ := keys_read (h := s.heap) rk pr
    obtain ⟨as, hr, hn⟩ := DqAll.reads I Y ha k2
    rw [← hk] at k1
    refine ⟨_, Reads.dict ho hx.1 hd k1 hr, ?_⟩
    intro hm
    simp only [List.cons_append, List.nil_append, List.mem_cons] at hm
    rcases hm with e | hm
    · rw [← e] at hsm
      simp at hsm
    · exact hn hm
theorem DqAll.reads (I : L2.Inv X pins σ H s) (Y : SysK X.K) : ∀ {v : List V} {d : List PyData}, DqAll X.K H v d → ∀ {u : List Value}, Vals v u → ∃ as, ReadsAll s.heap u d as ∧ sysModules ∉ as
  | _, _, .nil, u, r => by
    cases r
    exact ⟨_, ReadsAll.nil, by simp⟩
  | _, _, .cons h1 h2, u, r => by
    cases r with
    | cons r1 r2 =>
      obtain ⟨as, q1, n1⟩ := Dq.reads I Y h1 r1
      obtain ⟨bs, q2, n2⟩ := DqAll.reads I Y h2 r2
      exact ⟨_, ReadsAll.cons q1 q2, fun h => (List.mem_append.mp h).elim n1 n2⟩
end
end
def rReprQ (K : PySem.W.Frag) : List V → Hp → VK → Prop := fun xs H Q => ∃ a d, xs = [V.ref a] ∧ Dq K H (.ref a) d ∧ d.showable = true ∧ d.depth ≤ 40 ∧ d.shown.length ≤ sizeLine ∧ Q (.str d.shown) H
theorem call_reprQ {X : Cx} {K : PySem.W.Frag} (eK : X.K = K) (Y : SysK K) (gd : X.A.guards = some []) (hu : X.A.units + 64 < cLine) : CallR X (.builtin "repr") (rReprQ K) := by
  subst eK
  intro pins s σ H xs us Q I r h
  obtain ⟨a, d, rfl, hd, hs, hp, hz, q⟩ := h
  obtain ⟨u, rfl, ru⟩ := vals1 r
  obtain ⟨as, rd, hn⟩ := Dq.reads I Y hd ru
  cases (show u = Value.ref a from ru)
  refine repr_of_reads' rd hs (fun _ => hn) gd (by omega) (fun _ _ e => e) (fun h' v tk k => ?_) hz
  exact ⟨.str d.shown, H, I.kept (h' := h') (t' := tk) k, ⟨v, rfl⟩, q⟩
/-- data that is shown in at most n signs, k deep -/
structure Sq (d : PyData) (n k : Nat) : Prop where
  s : d.showable = true
  dp : d.depth ≤ k
  l : d.shown.length ≤ n
structure SqA (ds : List PyData) (n k : Nat) : Prop where
  s : PyData.showableAll ds = true
  d : PyData.depthAll ds ≤ k
  l : ((PyData.shownAll ds).map (·.length)).sum ≤ n
theorem Sh.q {d : PyData} {n k : Nat} (h : Sh d n k) : Sq d n k := ⟨h.s, h.dp, h.l⟩
theorem Sq.mono {d : PyData} {n k n' k' : Nat} (h : Sq d n k) (a : n ≤ n') (b : k ≤ k') : Sq d n' k' := ⟨h.s, Nat.le_trans h.dp b, Nat.le_trans h.l a⟩
theorem SqA.mono {d : List PyData} {n k n' k' : Nat} (h : SqA d n k) (a : n ≤ n') (b : k ≤ k') : SqA d n' k' := ⟨h.s, Nat.le_trans h.d b, Nat.le_trans h.l a⟩
theorem SqA.nil : SqA [] 0 0 := ⟨rfl, by simp [PyData.depthAll], by simp [PyData.shownAll]⟩
theorem SqA.cons {d : PyData} {ds : List PyData} {n m j k : Nat} (a : Sq d n j) (b : SqA ds m k) : SqA (d :: ds) (n + m) (max j k) := by
  refine ⟨?_, ?_, ?_⟩
  · simp [PyData.showableAll, a.s, b.s]
  · have := a.dp
    have := b.d
    simp only [PyData.depthAll]
    omega
  · have := a.l
    have := b.l
    simp only [PyData.shownAll, List.map_cons, List.sum_cons]
    omega
theorem Sq.list {ds : List PyData} {n k : Nat} (a : SqA ds n k) : Sq (.list ds) (n + 2 * ds.length + 3) (k + 1) := by
  refine ⟨by simp [PyData.showable, a.s], ?_, ?_⟩
  · have := a.d
    simp only [PyData.depth]
    omega
  · have := listText_len_le (PyData.shownAll ds)
    rw [shownAll_len] at this
    have := a.l
    simp only [PyData.shown]
    omega
theorem Sq.tuple {ds : List PyData} {n k : Nat} (a : SqA ds n k) : Sq (.tuple ds) (n + 2 * ds.length + 3) (k + 1) := by
  refine ⟨by simp [PyData.showable, a.s], ?_, ?_⟩
  · have := a.d
    simp only [PyData.depth]
    omega
  · have := tupleText_len_le (PyData.shownAll ds)
    rw [shownAll_len] at this
    have := a.l
    simp only [PyData.shown]
    omega
end Fr
set_option Elab.async false
set_option linter.all false
set_option maxRecDepth 100000
set_option maxHeartbeats 4000000
namespace Fr
open PySem PySem.Spec PyProof.Rows L2
section
variable {P : Program} {w : World} {K : PySem.W.Frag} {mg : Str → Option Value} {base : Heap} {x qual : Str} {params : Arguments} {body : List Stmt} {scope : Scope} {f : Addr} {fd : FuncData}
theorem _root_.L2.FunD.okStarX {N ps : List Str} {pv : Str} {k : Nat} {sp : Sp} (F : FunD K x qual params body scope [] [] f fd) (S : FnScope N (ps ++ [pv]) scope)
    (hb : ∀ (kV doc pm : Value) (an : Option Addr) (cdv ct : Value) (us rest : List Value), us.length = ps.length → bindArgs (PySem.W.fnOf x qual params body scope .none kV doc pm an cdv ct) ⟨us ++ rest, []⟩ = (newTuple rest >>= fun t => pure (ps.zip us ++ [(pv, t)])))
    (hbody : ∀ (cdv : Value) (A : Around) (outer : List Env) (s : Shared) (H : Hp) (vs : List V) (Q : VK) (E : XK), Room k (A.deeper (envOfC qual scope s.heap.objs.size f cdv)) → sp vs H Q E →
      ∃ t, PSs (cxOf (L2.CX P w) P w K mg base N qual scope f cdv A outer s H E) body t ∧ t { nx := fun _ H' => Q .non H', rt := Q } (start N vs) H) : FnR P w K mg base (L2.CX P w) (k + 1) f (spStar ps.length sp) := by
  obtain ⟨oc, od, dV, kV, doc, pm, an, cdv, ct, osl, rfl, lk, hcd, hD, hK⟩ := F.ex
  rcases hD with ⟨_, rfl⟩ | ⟨e, _⟩
  · exact StX.fn_star lk hcd S StX.cxUp (hb kV doc pm an cdv ct) fun A outer s H vs Q E hr hsp => hbody cdv A outer s H vs Q E hr hsp
  · exact absurd rfl e
end
def BadP (K : PySem.W.Frag) (H : Hp) (v : V) : Prop := (∃ z, v = .str z ∧ z.length ≤ 1000000 ∧ pathL (tl z) = false) ∨ NoStr K H v
def BadN (K : PySem.W.Frag) (H : Hp) (v : V) : Prop := (∃ z, v = .str z ∧ z.length ≤ 1000000 ∧ nameL (tl z) = false) ∨ NoStr K H v
theorem BadP.keep {K : PySem.W.Frag} {H H' : Hp} {v : V} (h : BadP K H v) (k : Keep [] H H') : BadP K H' v := h.imp id (·.keep k)
theorem BadN.keep {K : PySem.W.Frag} {H H' : Hp} {v : V} (h : BadN K H v) (k : Keep [] H H') : BadN K H' v := h.imp id (·.keep k)
end Fr
set_option Elab.async false
set_option linter.all false
set_option maxRecDepth 100000
set_option maxHeartbeats 4000000
namespace Fr
section
open PySem PySem.SeqAt PySem.MeetsSeq
theorem dict_eq_declines_str (l : Addr) (es : Array DictEntry) (n : Nat) (dd : Option Addr) (sl : Array (Option Value)) (b : Str) (u : Tok) :
    Meets (Builtin.«dict.__eq__» ⟨[.ref l, .str b u], []⟩) (fun _ R s => s.heap.get? l = some { cls := .type "dict", dict := dd, data := .dict es n, slots := sl } ∧ R (.ok (.ret .notImplemented)) s) :=
  .of_wp fun prog w A R s h => by obtain ⟨hp, g, d, tk, os⟩ := s; obtain ⟨hl, h⟩ := h; have f1 := F.sub_str_dict; wp_walk using wpAny_loadPart' hl, wpAny_load hl; exact ⟨_, rfl, h⟩
theorem str_eq_declines_dict (b : Str) (u : Tok) (l : Addr) (c : Value) (es : Array DictEntry) (n : Nat) (dd : Option Addr) (sl : Array (Option Value)) :
    Meets (Builtin.«str.__eq__» ⟨[.str b u, .ref l], []⟩) (fun _ R s => s.heap.get? l = some { cls := c, dict := dd, data := .dict es n, slots := sl } ∧ R (.ok (.ret .notImplemented)) s) :=
  .of_wp fun prog w A R s h => by obtain ⟨hp, g, d, tk, os⟩ := s; obtain ⟨hl, h⟩ := h; wp_walk using wpAny_loadPart' hl, wpAny_load hl; exact ⟨_, rfl, h⟩
theorem rc_str_dict {A : Around} {s : Shared} {l : Addr} {es : Array DictEntry} {n : Nat} {o : Obj} (b : Str) (u : Tok) (ho : s.heap.get? l = some o) (hc : o.cls = .type "dict") (hd : o.data = .dict es n) (hu : A.units < cLine) : RcAt A s (.str b u) (.ref l) false := fun prog w E Q h => by
  obtain ⟨cls, dd, data, sl⟩ := o
  simp only at hc hd
  subst hc hd
  exact rc_eq_decline_or (k := false) (typeIs_str s b u) ⟨_, ho, rfl⟩ (by decide) F.sub_dict_str F.slot_str_eq F.slot_dict_eq_refl
    (fun _ hq => call_meets F.slot_str_eq (typeIs_str s b u) F.entry_str_eq (F.args_str_eq_2 _ _) (str_eq_declines_dict b u l (.type "dict") es n dd sl) ⟨ho, hq⟩)
    (fun _ hq => call_meets F.slot_dict_eq_refl ⟨_, ho, rfl⟩ F.entry_dict_eq (F.args_dict_eq_2 _ _) (dict_eq_declines_str l es n dd sl b u) ⟨ho, hq⟩)
    (fun _ hq => wpAny_of_eq (rfl : isSame (.str b u) (.ref l) = pure false) hq) (.inr hu) h
theorem eq_str_dict {A : Around} {s : Shared} {l : Addr} {es : Array DictEntry} {n : Nat} {o : Obj} (b : Str) (u : Tok) (ho : s.heap.get? l = some o) (hc : o.cls = .type "dict") (hd : o.data = .dict es n) (hu : A.units < cLine) : EqAt A s (.str b u) (.ref l) false := fun prog w E Q h => by
  unfold eqBool
  refine wpAny_holding ?_
  refine wpAny_ite_split (fun hab => absurd (eq_of_beq hab) nofun) (fun _ => ?_)
  exact wpAny_bind (rc_str_dict b u ho hc hd hu prog w E _ (wpAny_truthy_bool h))
end
section
open PySem PySem.Spec PyProof.Rows L2
/-- an object of a built-in kind -/
def Bulk (H : Hp) (v : V) : Prop := ∃ a, v = .ref a ∧ ((∃ xs, H a = some (.lst xs)) ∨ (∃ xs, H a = some (.tup xs)) ∨ (∃ kvs, H a = some (.dK kvs)))
theorem strs_items {zs : List Str} {us : List Value} (r : Vals (zs.map V.str) us) : ∀ y ∈ us, ∃ z t, y = Value.str z t := by
  induction zs generalizing us with
  | nil =>
    cases r
    intro y hy
    cases hy
  | cons z zs ih =>
    cases r with
    | cons r1 r2 =>
      intro y hy
      rcases List.mem_cons.mp hy with rfl | hy
      · obtain ⟨t, rfl⟩ := r1
        exact ⟨z, t, rfl⟩
      · exact ih r2 y hy
inductive Atm : V → PyData → Prop
  | non : Atm .non .none
  | bl (b : Bool) : Atm (.bl b) (.bool b)
  | int {i : Int} (h : i.natAbs < 10 ^ 12) : Atm (.int i) (.int i)
  | str {z : Str} (h : Asc z) (l : z.length ≤ 400) : Atm (.str z) (.str z)
theorem Atm.dq {K : PySem.W.Frag} {H : Hp} {v : V} {d : PyData} (h : Atm v d) : Dq K H v d ∧ Sq d 4002 0 := by
  cases h with
  | non => exact ⟨.non, Sh.non.q.mono (by omega) (by omega)⟩
  | bl b => exact ⟨.bl b, (Sh.bl b).q.mono (by omega) (by omega)⟩
  | int h => exact ⟨.int _, (Sh.int h).q.mono (by omega) (by omega)⟩
  | str h l => exact ⟨.str _, (Sh.str h).q.mono (by omega) (by omega)⟩
theorem Atm.flat {v : V} {d : PyData} (h : Atm v d) : flatV v = true := by cases h <;> rfl
inductive Atms : List V → List PyData → Prop
  | nil : Atms [] []
  | cons {v : V} {d : PyData} {vs : List V} {ds : List PyData} : Atm v d → Atms vs ds → Atms (v :: vs) (d :: ds)
theorem Atms.dq {K : PySem.W.Frag} {H : Hp} {vs : List V} {ds : List PyData} (h : Atms vs ds) : DqAll K H vs ds ∧ SqA ds (4002 * vs.length) 0 ∧ ds.length = vs.length := by
  induction h with
  | nil => exact ⟨.nil, SqA.nil, rfl⟩
  | cons a b ih =>
    obtain ⟨h1, h2, h3⟩ := ih
    refine ⟨.cons (a.dq).1 h1, (SqA.cons (a.dq (K := K) (H := H)).2 h2).mono ?_ (by simp), by simp [h3]⟩
    rw [List.length_cons, Nat.mul_succ]
    omega
/-- a thing and its data -/
def Odd (H : Hp) (v : V) (d : PyData) : Prop := Atm v d ∨
  (∃ p xs ds, v = .ref p ∧ d = .list ds ∧ H p = some (.lst xs) ∧ Atms xs ds ∧ xs.length ≤ 10 ∧ ∀ x y z : Int, xs ≠ [.int x, .int y, .int z]) ∨
  (∃ p xs ds, v = .ref p ∧ d = .tuple ds ∧ H p = some (.tup xs) ∧ Atms xs ds ∧ xs.length ≤ 10) ∨
  (∃ p kvs kds, v = .ref p ∧ d = .dict kds ∧ H p = some (.dK kvs) ∧ Atms (kvs.map (·.2)) (kds.map (·.2)) ∧ kds.map (·.1) = kvs.map (fun kv => kD kv.1) ∧ Sq d 1000 1)
theorem Odd.keep {H H' : Hp} {v : V} {d : PyData} (h : Odd H v d) (k : Keep [] H H') : Odd H' v d := by
  rcases h with h | ⟨p, xs, ds, e1, e2, e, h⟩ | ⟨p, xs, ds, e1, e2, e, h⟩ | ⟨p, xs, ds, e1, e2, e, h⟩
  · exact .inl h
  · exact .inr (.inl ⟨p, xs, ds, e1, e2, k.get e (by simp), h⟩)
  · exact .inr (.inr (.inl ⟨p, xs, ds, e1, e2, k.get e (by simp), h⟩))
  · exact .inr (.inr (.inr ⟨p, xs, ds, e1, e2, k.get e (by simp), h⟩))
theorem Odd.dq {K : PySem.W.Frag} {H : Hp} {v : V} {d : PyData} (h : Odd H v d) : Dq K H v d ∧ Sq d 50000 1 := by
  rcases h with h | ⟨p, xs, ds, rfl, rfl, e, h, hl, hn⟩ | ⟨p, xs, ds, rfl, rfl, e, h, hl⟩ | ⟨p, kvs, kds, rfl, rfl, e, h, hk, hs⟩
  · exact ⟨h.dq.1, (h.dq (K := K) (H := H)).2.mono (by omega) (by omega)⟩
  · obtain ⟨a, b, c⟩ := h.dq (K := K) (H := H)
    refine ⟨.lst (SqL.of e) a, (Sq.list b).mono ?_ (by omega)⟩
    have : 4002 * xs.length ≤ 4002 * 10 := Nat.mul_le_mul_left _ hl
    omega
  · obtain ⟨a, b, c⟩ := h.dq (K := K) (H := H)
    refine ⟨.tup (SqT.of e) a, (Sq.tuple b).mono ?_ (by omega)⟩
    have : 4002 * xs.length ≤ 4002 * 10 := Nat.mul_le_mul_left _ hl
    omega
  · exact ⟨.dic (.inl e) (h.dq (K := K) (H := H)).1 hk, hs.mono (by omega) (by omega)⟩
theorem Odd.kind {H : Hp} {v : V} {d : PyData} (h : Odd H v d) : flatV v = true ∨ Bulk H v := by
  rcases h with h | ⟨p, xs, ds, rfl, rfl, e, h, hl, hn⟩ | ⟨p, xs, ds, rfl, rfl, e, h, hl⟩ | ⟨p, kvs, kds, rfl, rfl, e, h, hk, hs⟩
  · exact .inl h.flat
  · exact .inr ⟨p, rfl, .inl ⟨_, e⟩⟩
  · exact .inr ⟨p, rfl, .inr (.inl ⟨_, e⟩)⟩
  · exact .inr ⟨p, rfl, .inr (.inr ⟨_, e⟩)⟩
theorem Odd.upd {H : Hp} {v : V} {d : PyData} {q : Addr} {o : HO} (h : Odd H v d) (n : ∀ p, v = .ref p → p ≠ q) : Odd (upd H q o) v d := by
  rcases h with h | ⟨p, xs, ds, e1, e2, e, h⟩ | ⟨p, xs, ds, e1, e2, e, h⟩ | ⟨p, xs, ds, e1, e2, e, h⟩
  · exact .inl h
  · exact .inr (.inl ⟨p, xs, ds, e1, e2, by rw [upd_ne (n p e1)]; exact e, h⟩)
  · exact .inr (.inr (.inl ⟨p, xs, ds, e1, e2, by rw [upd_ne (n p e1)]; exact e, h⟩))
  · exact .inr (.inr (.inr ⟨p, xs, ds, e1, e2, by rw [upd_ne (n p e1)]; exact e, h⟩))
end
end Fr
set_option Elab.async false
set_option linter.all false
namespace Fr
open PySem PySem.Spec PyProof.Rows L2
def TabCell (B H : Hp) (a : Addr) (q : Str) : Prop := ∃ ps : Array Value, H a = some (.tbl ps) ∧ TriplesOk ps.toList ∧ ∀ (pos : Pos) (cv : Value), codeAmong pos ps.toList = some cv → ∃ c, cv = .ref c ∧ B c = some (LamX.CodeO c q)
theorem TabCell.has {B H : Hp} {a : Addr} {q : Str} (h : TabCell B H a q) : ∃ ps, H a = some (.tbl ps) := ⟨h.choose, h.choose_spec.1⟩
theorem codeO_noD {c : Addr} {q : Str} : ∀ u, LamX.CodeO c q ≠ .dK u := fun u z => by
  unfold LamX.CodeO at z
  cases z
theorem TabCell.to {B H B' H' : Hp} {a : Addr} {q : Str} (h : TabCell B H a q) (x : ∀ b o, (∀ u, o ≠ .dK u) → B b = some o → B' b = some o) (e : H' a = H a) : TabCell B' H' a q := by
  obtain ⟨ps, h1, h2, h3⟩ := h
  refine ⟨ps, e.trans h1, h2, fun pos cv hc => ?_⟩
  obtain ⟨c, e1, e2⟩ := h3 pos cv hc
  exact ⟨c, e1, x _ _ codeO_noD e2⟩
/-- an empty table -/
theorem TabCell.nil {B H : Hp} {a : Addr} {q : Str} (h : H a = some (.tbl #[])) : TabCell B H a q := ⟨#[], h, True.intro, fun pos cv z => by
  have z : codeAmong pos [] = some cv := z
  simp [codeAmong] at z⟩
end Fr
set_option Elab.async false
set_option linter.all false
set_option maxRecDepth 100000
set_option maxHeartbeats 4000000
namespace Fr
open PySem PySem.Spec PyProof.Rows L2
inductive D where
  | non | bl (b : Bool) | int (i : Int) | str (s : Str) | ty (n : String) | fn (a : Addr)
  | lst (ds : List D) | tup (ds : List D) | dic (kvs : List (Key × D)) | scr (ns : List Int)
  | obj (C : Addr) (fs : List (Str × D))
  | cel (a : Addr) | own (a : Addr) | otp (ps : List Addr)
inductive Cell where
  | lst (ds : List D) | dic (kvs : List (Key × D)) | ins (C : Addr) (fs : List (Str × D)) | bag (n : Nat)
  | ldic (kvs : List (Key × D)) | tbl (q : Str)
/-- a cell that may change -/
def Cell.free : Cell → Prop
  | .ldic _ => False | .tbl _ => False | _ => True
/-- the cells: those that stay cells (true), those of the def that runs (false) -/
abbrev Wd := Addr → Option (Bool × Cell)
def Wd.set (W : Wd) (a : Addr) (f : Bool) (c : Cell) : Wd := fun b => if b = a then some (f, c) else W b
def Wd.del (W : Wd) (a : Addr) : Wd := fun b => if b = a then none else W b
theorem Wd.same {W : Wd} {a : Addr} {f : Bool} {c : Cell} : (W.set a f c) a = some (f, c) := if_pos rfl
theorem Wd.ne {W : Wd} {a b : Addr} {f : Bool} {c : Cell} (h : b ≠ a) : (W.set a f c) b = W b := if_neg h
theorem Wd.delSame {W : Wd} {a : Addr} : (W.del a) a = none := if_pos rfl
theorem Wd.delNe {W : Wd} {a b : Addr} (h : b ≠ a) : (W.del a) b = W b := if_neg h
theorem Wd.setSet {W : Wd} {a : Addr} {f g : Bool} {c e : Cell} : (W.set a f c).set a g e = W.set a g e := by
  funext b
  unfold Wd.set
  split <;> rfl
/-- what isn't a cell -/
def bs (Z : List Addr) (H : Hp) (W : Wd) : Hp := fun a => if a ∈ Z ∨ (W a).isSome then none else H a
mutual
inductive At (K : PySem.W.Frag) (B : Hp) (W : Wd) : V → D → Prop
  | non : At K B W .non .non
  | bl (b : Bool) : At K B W (.bl b) (.bl b)
  | int (i : Int) : At K B W (.int i) (.int i)
  | str (s : Str) : At K B W (.str s) (.str s)
  | ty (n : String) : At K B W (.ty n) (.ty n)
  | fn (a : Addr) : At K B W (.ref a) (.fn a)
  | lst {a : Addr} {vs : List V} {ds : List D} : B a = some (.lst vs) → AtL K B W vs ds → At K B W (.ref a) (.lst ds)
  | scr {a : Addr} {ns : List Int} : SqL K B a (ns.map V.int) → At K B W (.ref a) (.scr ns)
  | tup {a : Addr} {vs : List V} {ds : List D} : SqT K B a vs → AtL K B W vs ds → At K B W (.ref a) (.tup ds)
  | dic {a : Addr} {vs : List (Key × V)} {ds : List (Key × D)} : Rd B a (.dK vs) → AtK K B W vs ds → At K B W (.ref a) (.dic ds)
  | obj {a C dx : Addr} {vs : List (Str × V)} {ds : List (Str × D)} : B a = some (.ins C dx vs) → AtF K B W vs ds → At K B W (.ref a) (.obj C ds)
  | cel {a : Addr} {c : Cell} : W a = some (true, c) → At K B W (.ref a) (.cel a)
inductive AtL (K : PySem.W.Frag) (B : Hp) (W : Wd) : List V → List D → Prop
  | nil : AtL K B W [] []
  | cons {v : V} {vs : List V} {d : D} {ds : List D} : At K B W v d → AtL K B W vs ds → AtL K B W (v :: vs) (d :: ds)
inductive AtK (K : PySem.W.Frag) (B : Hp) (W : Wd) : List (Key × V) → List (Key × D) → Prop
  | nil : AtK K B W [] []
  | cons {k : Key} {v : V} {vs : List (Key × V)} {d : D} {ds : List (Key × D)} : At K B W v d → AtK K B W vs ds → AtK K B W ((k, v) :: vs) ((k, d) :: ds)
inductive AtF (K : PySem.W.Frag) (B : Hp) (W : Wd) : List (Str × V) → List (Str × D) → Prop
  | nil : AtF K B W [] []
  | cons {k : Str} {v : V} {vs : List (Str × V)} {d : D} {ds : List (Str × D)} : At K B W v d → AtF K B W vs ds → AtF K B W ((k, v) :: vs) ((k, d) :: ds)
end
def isDk : HO → Bool
  | .dK _ => true
  | _ => false
/-- what is made stays; a dict may be locked -/
theorem isDk_no {o : HO} (n : ∀ u, o ≠ .dK u) : isDk o = false := by
  cases o <;> first | rfl | exact absurd rfl (n _)
structure Bx (B B' : Hp) : Prop where
  eq : ∀ a o, isDk o = false → B a = some o → B' a = some o
  dk : ∀ a kvs, Rd B a (.dK kvs) → Rd B' a (.dK kvs)
def Dm (W W' : Wd) : Prop := ∀ a f c, W a = some (f, c) → ∃ c', W' a = some (f, c')
def Dt (W W' : Wd) : Prop := ∀ a c, W a = some (true, c) → ∃ c', W' a = some (true, c')
theorem Dm.dt {W W' : Wd} (h : Dm W W') : Dt W W' := fun a c e => h a true c e
section
variable {K : PySem.W.Frag} {B B' B2 : Hp} {W W' W2 : Wd}
theorem Bx.refl : Bx B B := ⟨fun _ _ _ h => h, fun _ _ h => h⟩
theorem Bx.trans (x : Bx B B') (y : Bx B' B2) : Bx B B2 := ⟨fun a o n h => y.eq a o n (x.eq a o n h), fun a kvs h => y.dk a kvs (x.dk a kvs h)⟩
theorem Dm.refl : Dm W W := fun _ _ c h => ⟨c, h⟩
theorem Dm.trans (x : Dm W W') (y : Dm W' W2) : Dm W W2 := fun a f c h => let ⟨c', h'⟩ := x a f c h; y a f c' h'
theorem Bx.sqL (x : Bx B B') {a : Addr} {vs : List V} (h : SqL K B a vs) : SqL K B' a vs := h.imp (fun h => h.imp (x.eq a _ rfl) fun ⟨o, e⟩ => ⟨o, x.eq a _ rfl e⟩) id
theorem Bx.sqT (x : Bx B B') {a : Addr} {vs : List V} (h : SqT K B a vs) : SqT K B' a vs := h.imp (fun h => h.imp (x.eq a _ rfl) fun ⟨o, e⟩ => ⟨o, x.eq a _ rfl e⟩) id
mutual
theorem At.mono (x : Bx B B') (y : Dt W W') {v : V} {d : D} (h : At K B W v d) : At K B' W' v d := by
  cases h with
  | non => exact .non
  | bl b => exact .bl b
  | int i => exact .int i
  | str s => exact .str s
  | ty n => exact .ty n
  | fn a => exact .fn a
  | lst s l => exact .lst (x.eq _ _ rfl s) (AtL.mono x y l)
  | scr s => exact .scr (x.sqL s)
  | tup s l => exact .tup (x.sqT s) (AtL.mono x y l)
  | dic s l => exact .dic (x.dk _ _ s) (AtK.mono x y l)
  | obj s l => exact .obj (x.eq _ _ rfl s) (AtF.mono x y l)
  | cel s =>
    obtain ⟨c', h'⟩ := y _ _ s
    exact .cel h'
theorem AtL.mono (x : Bx B B') (y : Dt W W') {vs : List V} {ds : List D} (h : AtL K B W vs ds) : AtL K B' W' vs ds := by
  cases h with
  | nil => exact .nil
  | cons a l => exact .cons (At.mono x y a) (AtL.mono x y l)
theorem AtK.mono (x : Bx B B') (y : Dt W W') {vs : List (Key × V)} {ds : List (Key × D)} (h : AtK K B W vs ds) : AtK K B' W' vs ds := by
  cases h with
  | nil => exact .nil
  | cons a l => exact .cons (At.mono x y a) (AtK.mono x y l)
theorem AtF.mono (x : Bx B B') (y : Dt W W') {vs : List (Str × V)} {ds : List (Str × D)} (h : AtF K B W vs ds) : AtF K B' W' vs ds := by
  cases h with
  | nil => exact .nil
  | cons a l => exact .cons (At.mono x y a) (AtF.mono x y l)
end
end
def CellOk (K : PySem.W.Frag) (Z : List Addr) (H : Hp) (W : Wd) (a : Addr) : Cell → Prop
  | .lst ds => ∃ vs, H a = some (.lst vs) ∧ AtL K (bs Z H W) W vs ds
  | .dic ds => ∃ vs, H a = some (.dK vs) ∧ AtK K (bs Z H W) W vs ds
  | .ins C ds => ∃ dx vs, H a = some (.ins C dx vs) ∧ AtF K (bs Z H W) W vs ds
  | .bag n => Bag H a n
  | .ldic ds => ∃ o vs, H a = some (.frz o (.dK vs)) ∧ AtK K (bs Z H W) W vs ds
  | .tbl q => TabCell (bs Z H W) H a q
/-- a dict that is locked -/
def LkD (W : Wd) (a : Addr) : Prop := ∃ f kvs, W a = some (f, .ldic kvs)
/-- no cell, or one that is locked -/
def NoC (W : Wd) (a : Addr) : Prop := W a = none ∨ ∃ f kvs, W a = some (f, .ldic kvs)
/-- Z: things that are not spoken of -/
structure WOk (K : PySem.W.Frag) (Z : List Addr) (H : Hp) (W : Wd) : Prop where
  c : ∀ a f c, W a = some (f, c) → CellOk K Z H W a c
  z : ∀ a ∈ Z, NoC W a ∧ ∃ o, H a = some o
  t : ∀ P q, KT K P q → W P = some (true, .tbl q)
  l : ∀ a f kvs, W a = some (f, .ldic kvs) → a ∈ Z
/-- a slot's value -/
def Sv (K : PySem.W.Frag) (Z : List Addr) (H : Hp) (W : Wd) (v : V) (d : D) : Prop := match d with
  | .own p => v = .ref p ∧ ∃ c, W p = some (false, c)
  | .otp ps => ∃ a, v = .ref a ∧ SqT K (bs Z H W) a (ps.map V.ref) ∧ ∀ p ∈ ps, ∃ c, W p = some (false, c)
  | d => At K (bs Z H W) W v d
structure Grow (Z : List Addr) (H : Hp) (W : Wd) (H' : Hp) (W' : Wd) : Prop where
  bx : Bx (bs Z H W) (bs Z H' W')
  dm : Dm W W'
  hid : ∀ a ∈ Z, H' a = H a
section
variable {K : PySem.W.Frag} {Z : List Addr} {H H' H2 : Hp} {W W' W2 : Wd} {v : V} {d : D} {p : Addr}
theorem Grow.refl : Grow Z H W H W := ⟨.refl, .refl, fun _ _ => rfl⟩
theorem Grow.trans (x : Grow Z H W H' W') (y : Grow Z H' W' H2 W2) : Grow Z H W H2 W2 := ⟨x.bx.trans y.bx, x.dm.trans y.dm, fun a h => (y.hid a h).trans (x.hid a h)⟩
theorem At.grow (g : Grow Z H W H' W') (h : At K (bs Z H W) W v d) : At K (bs Z H' W') W' v d := h.mono g.bx g.dm.dt
theorem AtL.grow (g : Grow Z H W H' W') {vs : List V} {ds : List D} (h : AtL K (bs Z H W) W vs ds) : AtL K (bs Z H' W') W' vs ds := h.mono g.bx g.dm.dt
theorem Sv.grow (g : Grow Z H W H' W') (h : Sv K Z H W v d) : Sv K Z H' W' v d := by
  cases d <;> first | exact At.grow g h | skip
  · obtain ⟨e, c, hc⟩ := h
    obtain ⟨c', hc'⟩ := g.dm _ _ _ hc
    exact ⟨e, c', hc'⟩
  · obtain ⟨a, e, s, h⟩ := h
    refine ⟨a, e, g.bx.sqT s, fun p hp => ?_⟩
    obtain ⟨c, hc⟩ := h p hp
    exact g.dm _ _ _ hc
theorem Sv.of (h : At K (bs Z H W) W v d) : Sv K Z H W v d := by
  cases h <;> first | exact h | (constructor <;> assumption) | skip
  all_goals first | exact At.non | exact At.bl _ | exact At.int _ | exact At.str _ | exact At.ty _ | exact At.fn _ | exact At.lst (by assumption) (by assumption) | exact At.scr (by assumption) | exact At.tup (by assumption) (by assumption) | exact At.dic (by assumption) (by assumption) | exact At.obj (by assumption) (by assumption) | exact At.cel (by assumption)
theorem bs_le {a : Addr} {o : HO} (h : bs Z H W a = some o) : H a = some o := by
  unfold bs at h
  split at h
  · cases h
  · exact h
theorem Rd.up {a : Addr} {u : HO} (h : Rd (bs Z H W) a u) : Rd H a u := h.imp bs_le fun ⟨o, e⟩ => ⟨o, bs_le e⟩
theorem sqL_up {a : Addr} {vs : List V} (h : SqL K (bs Z H W) a vs) : SqL K H a vs := h.imp Rd.up id
theorem sqT_up {a : Addr} {vs : List V} (h : SqT K (bs Z H W) a vs) : SqT K H a vs := h.imp Rd.up id
theorem CellOk.has {a : Addr} {c : Cell} (h : CellOk K Z H W a c) : ∃ o, H a = some o := by
  cases c with
  | lst ds => obtain ⟨vs, h1, h2⟩ := h; exact ⟨_, h1⟩
  | dic ds => obtain ⟨vs, h1, h2⟩ := h; exact ⟨_, h1⟩
  | ins C ds => obtain ⟨dx, vs, h1, h2⟩ := h; exact ⟨_, h1⟩
  | bag n => obtain ⟨x, y, z, h1, h2⟩ := h; exact ⟨_, h1⟩
  | ldic ds => obtain ⟨o, vs, h1, h2⟩ := h; exact ⟨_, h1⟩
  | tbl q => obtain ⟨ps, h1⟩ := TabCell.has (B := bs Z H W) (q := q) h; exact ⟨_, h1⟩
theorem WOk.free (ok : WOk K Z H W) {a : Addr} (h : H a = none) : W a = none := by
  cases e : W a with
  | none => rfl
  | some fc =>
    obtain ⟨o, e2⟩ := (ok.c a fc.1 fc.2 e).has
    rw [h] at e2
    cases e2
theorem lk_set {f : Bool} {c : Cell} (fc : c.free) (l : ∀ a f kvs, W a = some (f, .ldic kvs) → a ∈ Z) : ∀ a g kvs, (W.set p f c) a = some (g, .ldic kvs) → a ∈ Z := fun a g kvs e => by
  by_cases n : a = p
  · subst n
    rw [Wd.same] at e
    cases e
    exact fc.elim
  · rw [Wd.ne n] at e
    exact l _ _ _ e
theorem NoC.ne {f : Bool} {c : Cell} {b : Addr} (n : NoC W p) (h : W b = some (f, c)) (e : c.free) : p ≠ b := fun z => by
  subst z
  rcases n with n | ⟨g, kvs, n⟩ <;> (rw [h] at n; cases n)
  exact e
theorem NoC.of (n : NoC W p) (h : ∀ f c, W p = some (f, c) → W' p = some (f, c)) (h0 : W p = none → W' p = none) : NoC W' p := n.imp h0 fun ⟨f, k, e⟩ => ⟨f, k, h _ _ e⟩
/-- a hidden thing that is no locked dict -/
theorem WOk.zn (ok : WOk K Z H W) (m : p ∈ Z) (h : ∀ o u, H p ≠ some (.frz o u)) : W p = none := by
  rcases (ok.z p m).1 with n | ⟨f, kvs, n⟩
  · exact n
  · obtain ⟨o, vs, h1, h2⟩ := ok.c _ _ _ n
    exact absurd h1 (h _ _)
theorem WOk.zl (ok : WOk K Z H W) (m : p ∈ Z) {vs : List V} (e : H p = some (.lst vs)) : W p = none := ok.zn m fun o u z => by
  rw [e] at z
  cases z
theorem WOk.zd (ok : WOk K Z H W) (m : p ∈ Z) {vs : List (Key × V)} (e : H p = some (.dK vs)) : W p = none := ok.zn m fun o u z => by
  rw [e] at z
  cases z
theorem WOk.nz (ok : WOk K Z H W) {a : Addr} (h : H a = none) : a ∉ Z := fun m => by
  obtain ⟨o, e⟩ := (ok.z a m).2
  rw [h] at e
  cases e
/-- a new thing that stays -/
theorem bs_new {o : HO} (hp : W p = none) (hz : p ∉ Z) : bs Z (upd H p o) W = upd (bs Z H W) p o := by
  funext a
  unfold bs
  by_cases e : a = p
  · subst e
    rw [hp, upd_same, upd_same, if_neg (by simp [hz])]
  · rw [upd_ne e, upd_ne e]
theorem bxn {B : Hp} {o : HO} (hp : B p = none) : Bx B (upd B p o) :=
  ⟨fun a u _ h => by rw [upd_ne (ne_of_none h hp)]; exact h, fun a kvs h => by
    have n : a ≠ p := by
      rcases h with h | ⟨o, h⟩ <;> exact ne_of_none h hp
    unfold Rd
    rw [upd_ne n]
    exact h⟩
theorem bs_none (hp : H p = none) : bs Z H W p = none := by
  unfold bs
  split
  · rfl
  · exact hp
theorem CellOk.to {a : Addr} {c : Cell} (h : CellOk K Z H W a c) (bx : Bx (bs Z H W) (bs Z H' W')) (dt : Dt W W') (e : H' a = H a) : CellOk K Z H' W' a c := by
  cases c with
  | lst ds => obtain ⟨vs, h1, h2⟩ := h; exact ⟨vs, e.trans h1, h2.mono bx dt⟩
  | dic ds => obtain ⟨vs, h1, h2⟩ := h; exact ⟨vs, e.trans h1, h2.mono bx dt⟩
  | ins C ds => obtain ⟨dx, vs, h1, h2⟩ := h; exact ⟨dx, vs, e.trans h1, h2.mono bx dt⟩
  | bag n => obtain ⟨x, y, z, h1, h2⟩ := h; exact ⟨x, y, z, e.trans h1, h2⟩
  | ldic ds => obtain ⟨o, vs, h1, h2⟩ := h; exact ⟨o, vs, e.trans h1, h2.mono bx dt⟩
  | tbl q => exact TabCell.to (B := bs Z H W) (q := q) h (fun b o n q => bx.eq b o (isDk_no n) q) e
theorem hid_new {o : HO} (ok : WOk K Z H W) (hp : H p = none) : ∀ a ∈ Z, upd H p o a = H a := fun a m => upd_ne fun e => ok.nz hp (e ▸ m)
theorem WOk.new (ok : WOk K Z H W) {o : HO} (hp : H p = none) : Grow Z H W (upd H p o) W ∧ WOk K Z (upd H p o) W := by
  have wp := ok.free hp
  have bx : Bx (bs Z H W) (bs Z (upd H p o) W) := by
    rw [bs_new wp (ok.nz hp)]
    exact bxn (bs_none hp)
  have hz := hid_new (o := o) ok hp
  refine ⟨⟨bx, .refl, hz⟩, fun a f c e => (ok.c a f c e).to bx Dm.refl.dt ?_, fun a m => ⟨(ok.z a m).1, by rw [hz a m]; exact (ok.z a m).2⟩, ok.t, ok.l⟩
  obtain ⟨o, e2⟩ := (ok.c a f c e).has
  exact upd_ne (ne_of_none e2 hp)
/-- a new cell -/
theorem bs_cell {o : HO} {f : Bool} {c : Cell} (hp : H p = none) : bs Z (upd H p o) (W.set p f c) = bs Z H W := by
  funext a
  unfold bs
  by_cases e : a = p
  · subst e
    rw [Wd.same, hp]
    simp
  · rw [Wd.ne e, upd_ne e]
theorem dm_new {f : Bool} {c : Cell} (wp : W p = none) : Dm W (W.set p f c) := fun a g e h => by
  have n : a ≠ p := fun z => by rw [z, wp] at h; cases h
  exact ⟨e, by rw [Wd.ne n]; exact h⟩
theorem WOk.cell (ok : WOk K Z H W) {o : HO} {f : Bool} {c : Cell} (hp : H p = none) (hc : CellOk K Z (upd H p o) (W.set p f c) p c) (fc : c.free := by trivial) : Grow Z H W (upd H p o) (W.set p f c) ∧ WOk K Z (upd H p o) (W.set p f c) := by
  have wp := ok.free hp
  have bx : Bx (bs Z H W) (bs Z (upd H p o) (W.set p f c)) := by
    rw [bs_cell hp]
    exact .refl
  have dm := dm_new (f := f) (c := c) wp
  have hz := hid_new (o := o) ok hp
  refine ⟨⟨bx, dm, hz⟩, fun a g e h => ?_, fun a m => ⟨?_, by rw [hz a m]; exact (ok.z a m).2⟩, fun P q k => ?_, lk_set fc ok.l⟩
  · by_cases n : a = p
    · subst n
      rw [Wd.same] at h
      cases h
      exact hc
    · rw [Wd.ne n] at h
      exact (ok.c a g e h).to bx dm.dt (upd_ne n)
  · have na : a ≠ p := fun e => ok.nz hp (by rw [← e]; exact m)
    unfold NoC
    rw [Wd.ne na]
    exact (ok.z a m).1
  · have e := ok.t P q k
    rw [Wd.ne (fun z => by rw [z, wp] at e; cases e)]
    exact e
/-- a cell changes -/
theorem bs_put {o : HO} {f g : Bool} {c e : Cell} (h : W p = some (g, e)) : bs Z (upd H p o) (W.set p f c) = bs Z H W := by
  funext a
  unfold bs
  by_cases n : a = p
  · subst n
    rw [Wd.same, h]
    simp
  · rw [Wd.ne n, upd_ne n]
theorem dm_put {f : Bool} {c e : Cell} (h : W p = some (f, e)) : Dm W (W.set p f c) := fun a g x hx => by
  by_cases n : a = p
  · subst n
    rw [h] at hx
    cases hx
    exact ⟨c, Wd.same⟩
  · exact ⟨x, by rw [Wd.ne n]; exact hx⟩
theorem WOk.put (ok : WOk K Z H W) {o : HO} {f : Bool} {c e : Cell} (h : W p = some (f, e)) (hc : CellOk K Z (upd H p o) (W.set p f c) p c) (fe : e.free := by trivial) (fc : c.free := by trivial) : Grow Z H W (upd H p o) (W.set p f c) ∧ WOk K Z (upd H p o) (W.set p f c) := by
  have bx : Bx (bs Z H W) (bs Z (upd H p o) (W.set p f c)) := by
    rw [bs_put h]
    exact .refl
  have dm := dm_put (c := c) h
  have nz : ∀ a ∈ Z, a ≠ p := fun a m => (ok.z a m).1.ne h fe
  refine ⟨⟨bx, dm, fun a m => upd_ne (nz a m)⟩, fun a g x hx => ?_, fun a m => ⟨?_, by rw [upd_ne (nz a m)]; exact (ok.z a m).2⟩, fun P q k => ?_, lk_set fc ok.l⟩
  · by_cases n : a = p
    · subst n
      rw [Wd.same] at hx
      cases hx
      exact hc
    · rw [Wd.ne n] at hx
      exact (ok.c a g x hx).to bx dm.dt (upd_ne n)
  · unfold NoC
    rw [Wd.ne (nz a m)]
    exact (ok.z a m).1
  · have x := ok.t P q k
    have n : P ≠ p := fun z => by
      rw [z, h] at x
      cases x
      exact fe
    rw [Wd.ne n]
    exact x
end
abbrev En := List (Option D)
abbrev DK := D → Wd → Prop
abbrev T2 := En → Wd → DK → Prop
abbrev A2 := En → Wd → (List D → Wd → Prop) → Prop
abbrev B2 := En → Wd → (Bool → Wd → Prop) → Prop
structure Ends2 where
  nx : En → Wd → Prop
  rt : DK
  bk : En → Wd → Prop := fun _ _ => False
  ct : En → Wd → Prop := fun _ _ => False
abbrev S2 := Ends2 → En → Wd → Prop
theorem Dt.refl {W : Wd} : Dt W W := fun _ c h => ⟨c, h⟩
theorem Dt.trans {W W' W2 : Wd} (x : Dt W W') (y : Dt W' W2) : Dt W W2 := fun a c h => let ⟨c', h'⟩ := x a c h; y a c' h'
/-- what holds all the time: the cells at the def's start stay, and p -/
structure Phi where
  w0 : Wd
  p : List Addr → Hp → Wd → Prop
  st : ∀ Z H W H' W', p Z H W → Bx (bs Z H W) (bs Z H' W') → Dt W W' → (∀ a ∈ Z, H' a = H a) → Dm w0 W' → p Z H' W'
structure Rel (K : PySem.W.Frag) (φ : Phi) (Z : List Addr) (σ : L2.St) (H : Hp) (env : En) (W : Wd) : Prop where
  ok : WOk K Z H W
  len : σ.length = env.length
  sv : ∀ (i : Nat) (d : D), env[i]? = some (some d) → ∃ v, σ[i]? = some (some v) ∧ Sv K Z H W v d
  dm : Dm φ.w0 W
  ph : φ.p Z H W
theorem Rel.grow {K : PySem.W.Frag} {φ : Phi} {Z : List Addr} {σ : L2.St} {H H' : Hp} {env : En} {W W' : Wd} (r : Rel K φ Z σ H env W) (g : Grow Z H W H' W') (ok : WOk K Z H' W') : Rel K φ Z σ H' env W' :=
  ⟨ok, r.len, fun i d h => let ⟨v, e, s⟩ := r.sv i d h; ⟨v, e, s.grow g⟩, r.dm.trans g.dm, φ.st _ _ _ _ _ r.ph g.bx g.dm.dt g.hid (r.dm.trans g.dm)⟩
/-- what is wanted of data comes to what is wanted of values -/
def Co (K : PySem.W.Frag) (Z : List Addr) (H : Hp) (W : Wd) (Q2 : DK) (Q : VK) : Prop := ∀ d W' v H', Q2 d W' → Grow Z H W H' W' → WOk K Z H' W' → Sv K Z H' W' v d → Q v H'
def CoL (K : PySem.W.Frag) (Z : List Addr) (H : Hp) (W : Wd) (Q2 : List D → Wd → Prop) (Q : List V → Hp → Prop) : Prop := ∀ ds W' vs H', Q2 ds W' → Grow Z H W H' W' → WOk K Z H' W' → Paired (Sv K Z H' W') vs ds → Q vs H'
def CoB (K : PySem.W.Frag) (Z : List Addr) (H : Hp) (W : Wd) (Q2 : Bool → Wd → Prop) (Q : Bool → Hp → Prop) : Prop := ∀ b W' H', Q2 b W' → Grow Z H W H' W' → WOk K Z H' W' → Q b H'
def LE (K : PySem.W.Frag) (φ : Phi) (T : T2) : TE := fun σ H Q => ∃ Z env W Q2, Rel K φ Z σ H env W ∧ T env W Q2 ∧ Co K Z H W Q2 Q
def LA (K : PySem.W.Frag) (φ : Phi) (T : A2) : TA := fun σ H Q => ∃ Z env W Q2, Rel K φ Z σ H env W ∧ T env W Q2 ∧ CoL K Z H W Q2 Q
def LB (K : PySem.W.Frag) (φ : Phi) (T : B2) : TT := fun σ H Q => ∃ Z env W Q2, Rel K φ Z σ H env W ∧ T env W Q2 ∧ CoB K Z H W Q2 Q
end Fr
set_option Elab.async false
set_option linter.all false
set_option maxRecDepth 100000
set_option maxHeartbeats 4000000
namespace Fr
open PySem PySem.Spec PyProof.Rows L2
theorem _root_.L2.PE.im {X : Cx} {e : Expr} {t t' : TE} (h : PE X e t) (f : ∀ σ H Q, t' σ H Q → t σ H Q) : PE X e t' := ⟨fun pins s σ H Q I q => h.run pins s σ H Q I (f σ H Q q)⟩
theorem _root_.L2.PT.im {X : Cx} {e : Expr} {t t' : TT} (h : PT X e t) (f : ∀ σ H Q, t' σ H Q → t σ H Q) : PT X e t' := ⟨fun pins s σ H Q I q => h.run pins s σ H Q I (f σ H Q q)⟩
theorem _root_.L2.PW.im {X : Cx} {e : Expr} {t t' : TT} (h : PW X e t) (f : ∀ σ H Q, t' σ H Q → t σ H Q) : PW X e t' := ⟨fun wh pins s σ H Q I q => h.run wh pins s σ H Q I (f σ H Q q)⟩
theorem _root_.L2.PA.im {X : Cx} {e : List Expr} {t t' : TA} (h : PA X e t) (f : ∀ σ H Q, t' σ H Q → t σ H Q) : PA X e t' := ⟨fun pos pins s σ H Q I q => h.run pos pins s σ H Q I (f σ H Q q)⟩
theorem _root_.L2.PK.im {X : Cx} {e : List Keyword} {t t' : TA} (h : PK X e t) (f : ∀ σ H Q, t' σ H Q → t σ H Q) : PK X e t' := ⟨fun pos pins s σ H Q I q => h.run pos pins s σ H Q I (f σ H Q q)⟩
theorem _root_.L2.PS.im {X : Cx} {e : Stmt} {t t' : TS} (h : PS X e t) (f : ∀ D σ H, t' D σ H → t D σ H) : PS X e t' := ⟨fun pins s σ H D I q => h.run pins s σ H D I (f D σ H q)⟩
theorem _root_.L2.PSs.im {X : Cx} {e : List Stmt} {t t' : TS} (h : PSs X e t) (f : ∀ D σ H, t' D σ H → t D σ H) : PSs X e t' := ⟨fun pins s σ H D I q => h.run pins s σ H D I (f D σ H q)⟩
theorem _root_.L2.PI.im {X : Cx} {tg e : Expr} {t t' : TI} (h : PI X tg e t) (f : ∀ σ H R, t' σ H R → t σ H R) : PI X tg e t' := ⟨fun pins s σ H R I q => h.run pins s σ H R I (f σ H R q)⟩
def sV : D → Option V
  | .non => some .non | .bl b => some (.bl b) | .int i => some (.int i) | .str s => some (.str s) | .ty n => some (.ty n) | .fn a => some (.ref a) | _ => none
def sD : V → Option D
  | .non => some .non | .bl b => some (.bl b) | .int i => some (.int i) | .str s => some (.str s) | .ty n => some (.ty n) | _ => none
def Pl : D → Prop
  | .own _ => False | .otp _ => False | _ => True
def PlL : List D → Prop
  | [] => True | d :: ds => Pl d ∧ PlL ds
/-- what a list is, cell or not -/
def vw (W : Wd) : D → D
  | .own p => match W p with
    | some (_, .lst ds) => .lst ds
    | some (_, .dic ds) => .dic ds
    | some (_, .ldic ds) => .dic ds
    | some (_, .ins C fs) => .obj C fs
    | _ => .own p
  | .cel p => match W p with
    | some (_, .lst ds) => .lst ds
    | some (_, .dic ds) => .dic ds
    | some (_, .ldic ds) => .dic ds
    | some (_, .ins C fs) => .obj C fs
    | _ => .cel p
  | d => d
section
variable {K : PySem.W.Frag} {φ : Phi} {Z : List Addr} {H H' H1 H2 : Hp} {W W' W1 W2 : Wd} {v x y : V} {d a b : D} {p : Addr} {Q : VK} {Q2 : DK} {σ : L2.St} {env : En}
theorem Sv.sc (h : Sv K Z H W v d) (e : sV d = some x) : v = x := by
  cases d <;> first | (cases e; done) | skip
  all_goals (cases e; cases (show At K (bs Z H W) W v _ from h); rfl)
theorem Sv.ofS (e : sD v = some d) : Sv K Z H W v d := by
  cases v <;> first | (cases e; done) | skip
  all_goals cases e
  · exact At.non
  · exact At.bl _
  · exact At.int _
  · exact At.str _
  · exact At.ty _
theorem Sv.at (h : Sv K Z H W v d) (e : Pl d) : At K (bs Z H W) W v d := by
  cases d <;> first | exact h | exact e.elim
theorem svL (l : Paired (Sv K Z H W) vs ds) (e : PlL ds) : AtL K (bs Z H W) W vs ds := by
  induction l with
  | nil => exact .nil
  | cons a l ih => exact .cons (a.at e.1) (ih e.2)
theorem Co.step (c : Co K Z H W Q2 Q) (g : Grow Z H W H1 W1) : Co K Z H1 W1 Q2 Q := fun d W' v H' q g' ok s => c d W' v H' q (g.trans g') ok s
theorem Co.now (c : Co K Z H W Q2 Q) (q : Q2 d W) (ok : WOk K Z H W) (s : Sv K Z H W v d) : Q v H := c d W v H q .refl ok s
/-- .. a new thing that stays -/
theorem Co.new {o : HO} (c : Co K Z H W Q2 Q) (q : Q2 d W) (ok : WOk K Z H W) (hp : H p = none) (s : ∀ H', Grow Z H W H' W → bs Z H' W p = some o → At K (bs Z H' W) W (.ref p) d) : Q (.ref p) (upd H p o) := by
  obtain ⟨g, ok'⟩ := ok.new (o := o) hp
  refine c d W _ _ q g ok' (.of (s _ g ?_))
  rw [bs_new (ok.free hp) (ok.nz hp), upd_same]
/-- .. a new cell -/
theorem Co.cell {o : HO} {cl : Cell} (c : Co K Z H W Q2 Q) (q : ∀ p, W p = none → Q2 (.own p) (W.set p false cl)) (ok : WOk K Z H W) (hp : H p = none) (hc : CellOk K Z (upd H p o) (W.set p false cl) p cl) (fc : cl.free := by trivial) : Q (.ref p) (upd H p o) := by
  obtain ⟨g, ok'⟩ := ok.cell hp hc fc
  exact c _ _ _ _ (q p (ok.free hp)) g ok' ⟨rfl, cl, Wd.same⟩
theorem AtL.cell {o : HO} {cl : Cell} {vs : List V} {ds : List D} (ok : WOk K Z H W) (h : AtL K (bs Z H W) W vs ds) (hp : H p = none) : AtL K (bs Z (upd H p o) (W.set p false cl)) (W.set p false cl) vs ds := by
  refine h.mono ?_ (dm_new (ok.free hp)).dt
  rw [bs_cell hp]
  exact .refl
theorem AtK.cell {o : HO} {cl : Cell} {vs : List (Key × V)} {ds : List (Key × D)} (ok : WOk K Z H W) (h : AtK K (bs Z H W) W vs ds) (hp : H p = none) : AtK K (bs Z (upd H p o) (W.set p false cl)) (W.set p false cl) vs ds := by
  refine h.mono ?_ (dm_new (ok.free hp)).dt
  rw [bs_cell hp]
  exact .refl
theorem AtL.put {o : HO} {cl e : Cell} {f : Bool} {vs : List V} {ds : List D} (h : AtL K (bs Z H W) W vs ds) (hp : W p = some (f, e)) : AtL K (bs Z (upd H p o) (W.set p f cl)) (W.set p f cl) vs ds := by
  refine h.mono ?_ (dm_put hp).dt
  rw [bs_put hp]
  exact .refl
theorem AtK.put {o : HO} {cl e : Cell} {f : Bool} {vs : List (Key × V)} {ds : List (Key × D)} (h : AtK K (bs Z H W) W vs ds) (hp : W p = some (f, e)) : AtK K (bs Z (upd H p o) (W.set p f cl)) (W.set p f cl) vs ds := by
  refine h.mono ?_ (dm_put hp).dt
  rw [bs_put hp]
  exact .refl
theorem AtF.put {o : HO} {cl e : Cell} {f : Bool} {vs : List (Str × V)} {ds : List (Str × D)} (h : AtF K (bs Z H W) W vs ds) (hp : W p = some (f, e)) : AtF K (bs Z (upd H p o) (W.set p f cl)) (W.set p f cl) vs ds := by
  refine h.mono ?_ (dm_put hp).dt
  rw [bs_put hp]
  exact .refl
/-- a list, cell or not -/
theorem Sv.lst {ds : List D} (h : Sv K Z H W v d) (ok : WOk K Z H W) (e : vw W d = .lst ds) : ∃ p vs, v = .ref p ∧ H p = some (.lst vs) ∧ AtL K (bs Z H W) W vs ds := by
  cases d <;> first | (cases e; done) | skip
  · cases e
    cases (show At K (bs Z H W) W v _ from h) with
    | lst s l => exact ⟨_, _, rfl, bs_le s, l⟩
  · rename_i a
    cases (show At K (bs Z H W) W v _ from h) with
    | cel s =>
      unfold vw at e
      dsimp only at e
      rw [s] at e
      rename_i c
      cases c <;> first | (cases e; done) | skip
      cases e
      obtain ⟨vs, e1, e2⟩ := ok.c _ _ _ s
      exact ⟨_, vs, rfl, e1, e2⟩
  · obtain ⟨rfl, c, hc⟩ := h
    unfold vw at e
    dsimp only at e
    rw [hc] at e
    cases c <;> first | (cases e; done) | skip
    cases e
    obtain ⟨vs, e1, e2⟩ := ok.c _ _ _ hc
    exact ⟨_, vs, rfl, e1, e2⟩
theorem Sv.dic {ds : List (Key × D)} (h : Sv K Z H W v d) (ok : WOk K Z H W) (e : vw W d = .dic ds) : ∃ p vs, v = .ref p ∧ Rd H p (.dK vs) ∧ AtK K (bs Z H W) W vs ds := by
  cases d <;> first | (cases e; done) | skip
  · cases e
    cases (show At K (bs Z H W) W v _ from h) with
    | dic s l => exact ⟨_, _, rfl, Fr.Rd.up s, l⟩
  · rename_i a
    cases (show At K (bs Z H W) W v _ from h) with
    | cel s =>
      unfold vw at e
      dsimp only at e
      rw [s] at e
      rename_i c
      cases c <;> first | (cases e; done) | skip
      · cases e
        obtain ⟨vs, e1, e2⟩ := ok.c _ _ _ s
        exact ⟨_, vs, rfl, .inl e1, e2⟩
      · cases e
        obtain ⟨o, vs, e1, e2⟩ := ok.c _ _ _ s
        exact ⟨_, vs, rfl, .inr ⟨o, e1⟩, e2⟩
  · obtain ⟨rfl, c, hc⟩ := h
    unfold vw at e
    dsimp only at e
    rw [hc] at e
    cases c <;> first | (cases e; done) | skip
    · cases e
      obtain ⟨vs, e1, e2⟩ := ok.c _ _ _ hc
      exact ⟨_, vs, rfl, .inl e1, e2⟩
    · cases e
      obtain ⟨o, vs, e1, e2⟩ := ok.c _ _ _ hc
      exact ⟨_, vs, rfl, .inr ⟨o, e1⟩, e2⟩
theorem Sv.tup {ds : List D} (h : Sv K Z H W v (.tup ds)) : ∃ p vs, v = .ref p ∧ SqT K H p vs ∧ AtL K (bs Z H W) W vs ds := by
  cases (show At K (bs Z H W) W v _ from h) with
  | tup s l => exact ⟨_, _, rfl, sqT_up s, l⟩
theorem Sv.obj {C : Addr} {ds : List (Str × D)} (h : Sv K Z H W v d) (ok : WOk K Z H W) (e : vw W d = .obj C ds) : ∃ p dx vs, v = .ref p ∧ H p = some (.ins C dx vs) ∧ AtF K (bs Z H W) W vs ds := by
  cases d <;> first | (cases e; done) | skip
  · cases e
    cases (show At K (bs Z H W) W v _ from h) with
    | obj s l => exact ⟨_, _, _, rfl, bs_le s, l⟩
  · rename_i a
    cases (show At K (bs Z H W) W v _ from h) with
    | cel s =>
      unfold vw at e
      dsimp only at e
      rw [s] at e
      rename_i c
      cases c <;> first | (cases e; done) | skip
      cases e
      obtain ⟨dx, vs, e1, e2⟩ := ok.c _ _ _ s
      exact ⟨_, dx, vs, rfl, e1, e2⟩
  · obtain ⟨rfl, c, hc⟩ := h
    unfold vw at e
    dsimp only at e
    rw [hc] at e
    cases c <;> first | (cases e; done) | skip
    cases e
    obtain ⟨dx, vs, e1, e2⟩ := ok.c _ _ _ hc
    exact ⟨_, dx, vs, rfl, e1, e2⟩
theorem Sv.scr {ns : List Int} (h : Sv K Z H W v (.scr ns)) : ∃ p, v = .ref p ∧ SqL K H p (ns.map V.int) := by
  cases (show At K (bs Z H W) W v _ from h) with
  | scr s => exact ⟨_, rfl, sqL_up s⟩
theorem AtL.get {vs : List V} {ds : List D} {B : Hp} (l : AtL K B W vs ds) {i : Nat} : ∀ d, ds[i]? = some d → ∃ v, vs[i]? = some v ∧ At K B W v d := by
  induction i generalizing vs ds with
  | zero =>
    intro d h
    cases l with
    | nil => cases h
    | cons a l => cases h; exact ⟨_, rfl, a⟩
  | succ i ih =>
    intro d h
    cases l with
    | nil => cases h
    | cons a l => exact ih l d h
theorem AtL.len {vs : List V} {ds : List D} {B : Hp} (l : AtL K B W vs ds) : vs.length = ds.length := by
  induction ds generalizing vs with
  | nil => cases l; rfl
  | cons d ds ih => cases l with | cons a l => simp [ih l]
theorem AtL.at {vs : List V} {ds : List D} {B : Hp} (l : AtL K B W vs ds) {i : Int} (h : atI ds i = some d) : ∃ v, atI vs i = some v ∧ At K B W v d := by
  unfold atI at h ⊢
  rw [l.len]
  first
    | (split at h <;> first | exact l.get d h | cases h)
    | (cases e : ixN ds.length i with
      | none => rw [e] at h; cases h
      | some j => rw [e] at h; exact l.get d h)
theorem AtL.app {vs ws : List V} {ds es : List D} {B : Hp} (l : AtL K B W vs ds) (r : AtL K B W ws es) : AtL K B W (vs ++ ws) (ds ++ es) := by
  induction ds generalizing vs with
  | nil => cases l; exact r
  | cons d ds ih => cases l with | cons a l => exact .cons a (ih l)
end
end Fr
namespace Fr
open PySem PySem.Spec PyProof.Rows L2
abbrev R22 := D → D → Wd → DK → Prop
abbrev R21 := D → Wd → DK → Prop
abbrev R2L := List D → Wd → DK → Prop
section
variable {K : PySem.W.Frag} {φ : Phi} {Z : List Addr} {T Ta Tb Tc : T2} {As : A2} {Ba Bb : B2} {r : R2} {r2 r2' : R22} {i : Nat} {d : D} {v : V}
def t2Var (i : Nat) : T2 := fun env W Q => ∃ d, env[i]? = some (some d) ∧ Q d W
theorem i_var : ∀ σ H Q, LE K φ (t2Var i) σ H Q → tVar i σ H Q := fun σ H Q ⟨Z, env, W, Q2, R, ⟨d, e, q⟩, co⟩ => by
  obtain ⟨v, hv, s⟩ := R.sv i d e
  exact ⟨v, hv, co.now q R.ok s⟩
def t2C (d : D) : T2 := fun _ W Q => Q d W
theorem i_c (h : sD v = some d) : ∀ σ H Q, LE K φ (t2C d) σ H Q → tC v σ H Q := fun σ H Q ⟨Z, env, W, Q2, R, q, co⟩ => co.now q R.ok (.ofS h)
theorem i_fn {a : Addr} : ∀ σ H Q, LE K φ (t2C (.fn a)) σ H Q → tC (.ref a) σ H Q := fun σ H Q ⟨Z, env, W, Q2, R, q, co⟩ => co.now q R.ok (At.fn a)
def sDs : List V → Option (List D)
  | [] => some []
  | v :: vs => (sD v).bind fun d => (sDs vs).map (d :: ·)
theorem atL_s {B : Hp} {W : Wd} : ∀ {vs : List V} {ds : List D}, sDs vs = some ds → AtL K B W vs ds
  | [], ds, h => by cases h; exact .nil
  | v :: vs, ds, h => by
    unfold sDs at h
    cases e : sD v with
    | none => rw [e] at h; cases h
    | some d =>
      cases e2 : sDs vs with
      | none => rw [e, e2] at h; cases h
      | some es =>
        rw [e, e2] at h
        cases h
        refine .cons ?_ (atL_s e2)
        cases v <;> first | (cases e; done) | (cases e; constructor)
theorem i_gt {a : Addr} {vs : List V} {ds : List D} (h : ∀ H, SqT K H a vs) (e : sDs vs = some ds) : ∀ σ H Q, LE K φ (t2C (.tup ds)) σ H Q → tC (.ref a) σ H Q := fun σ H Q ⟨Z, env, W, Q2, R, q, co⟩ => co.now q R.ok (At.tup (h _) (atL_s e))
def a2Nil : A2 := fun _ W Q => Q [] W
theorem i_nil : ∀ σ H Q, LA K φ a2Nil σ H Q → tNil σ H Q := fun σ H Q ⟨Z, env, W, Q2, R, q, co⟩ => co [] W [] H q .refl R.ok .nil
def a2Cons (T : T2) (As : A2) : A2 := fun env W Q => T env W fun d W1 => As env W1 fun ds W2 => Q (d :: ds) W2
theorem i_cons : ∀ σ H Q, LA K φ (a2Cons T As) σ H Q → tCons (LE K φ T) (LA K φ As) σ H Q := fun σ H Q ⟨Z, env, W, Q2, R, t, co⟩ =>
  ⟨Z, env, W, _, R, t, fun d W1 v H1 q1 g1 ok1 s1 => ⟨Z, env, W1, _, R.grow g1 ok1, q1, fun ds W2 vs H2 q2 g2 ok2 l2 => co _ W2 _ H2 q2 (g1.trans g2) ok2 (.cons (s1.grow g2) l2)⟩⟩
def t2Lst (As : A2) : T2 := fun env W Q => As env W fun ds W1 => PlL ds ∧ ds.length ≤ 1000000 ∧ Q (.lst ds) W1
theorem i_lst : ∀ σ H Q, LE K φ (t2Lst As) σ H Q → tLst (LA K φ As) σ H Q := fun σ H Q ⟨Z, env, W, Q2, R, t, co⟩ =>
  ⟨Z, env, W, _, R, t, fun ds W1 vs H1 ⟨pl, hl, q1⟩ g1 ok1 l1 => ⟨le_line (by have := PySem.Paired.length l1; omega), fun p hp => (co.step g1).new q1 ok1 hp fun H' g e => .lst e ((svL l1 pl).grow g)⟩⟩
def t2Tup (As : A2) : T2 := fun env W Q => As env W fun ds W1 => PlL ds ∧ ds.length ≤ 1000000 ∧ Q (.tup ds) W1
theorem i_tup : ∀ σ H Q, LE K φ (t2Tup As) σ H Q → tTup (LA K φ As) σ H Q := fun σ H Q ⟨Z, env, W, Q2, R, t, co⟩ =>
  ⟨Z, env, W, _, R, t, fun ds W1 vs H1 ⟨pl, hl, q1⟩ g1 ok1 l1 => ⟨le_line (by have := PySem.Paired.length l1; omega), fun p hp => (co.step g1).new q1 ok1 hp fun H' g e => .tup (.inl (.inl e)) ((svL l1 pl).grow g)⟩⟩
/-- operators -/
def L22 (K : PySem.W.Frag) (r : R2) (r2 : R22) : Prop := ∀ Z x y a b H W Q Q2, WOk K Z H W → Sv K Z H W x a → Sv K Z H W y b → r2 a b W Q2 → Co K Z H W Q2 Q → r x y H Q
def t2Op (r2 : R22) (Ta Tb : T2) : T2 := fun env W Q => Ta env W fun a W1 => Tb env W1 fun b W2 => r2 a b W2 Q
theorem i_op (l : L22 K r r2) : ∀ σ H Q, LE K φ (t2Op r2 Ta Tb) σ H Q → tOp r (LE K φ Ta) (LE K φ Tb) σ H Q := fun σ H Q ⟨Z, env, W, Q2, R, t, co⟩ =>
  ⟨Z, env, W, _, R, t, fun a W1 x H1 q1 g1 ok1 s1 => ⟨Z, env, W1, _, R.grow g1 ok1, q1, fun b W2 y H2 q2 g2 ok2 s2 => l Z x y a b H2 W2 Q _ ok2 (s1.grow g2) s2 q2 ((co.step g1).step g2)⟩⟩
/-- .. of things that have no place -/
def r2s (r : R2) : R22 := fun a b W Q2 => ∃ x y, sV a = some x ∧ sV b = some y ∧ ∀ H Q, (∀ v d, sD v = some d → Q2 d W → Q v H) → r x y H Q
theorem l_s : L22 K r (r2s r) := fun Z x y a b H W Q Q2 ok s1 s2 ⟨x', y', e1, e2, h⟩ co => by
  cases s1.sc e1
  cases s2.sc e2
  exact h H Q fun v d e q => co.now q ok (.ofS e)
def L21 (K : PySem.W.Frag) (r : V → Hp → VK → Prop) (r2 : R21) : Prop := ∀ Z x a H W Q Q2, WOk K Z H W → Sv K Z H W x a → r2 a W Q2 → Co K Z H W Q2 Q → r x H Q
def t2Un (r2 : R21) (Ta : T2) : T2 := fun env W Q => Ta env W fun a W1 => r2 a W1 Q
theorem i_un {r : V → Hp → VK → Prop} {r2 : R21} (l : L21 K r r2) : ∀ σ H Q, LE K φ (t2Un r2 Ta) σ H Q → tUn r (LE K φ Ta) σ H Q := fun σ H Q ⟨Z, env, W, Q2, R, t, co⟩ =>
  ⟨Z, env, W, _, R, t, fun a W1 x H1 q1 g1 ok1 s1 => l Z x a H1 W1 Q _ ok1 s1 q1 (co.step g1)⟩
def r1s (r : V → Hp → VK → Prop) : R21 := fun a W Q2 => ∃ x, sV a = some x ∧ ∀ H Q, (∀ v d, sD v = some d → Q2 d W → Q v H) → r x H Q
theorem l_s1 {r : V → Hp → VK → Prop} : L21 K r (r1s r) := fun Z x a H W Q Q2 ok s1 ⟨x', e1, h⟩ co => by
  cases s1.sc e1
  exact h H Q fun v d e q => co.now q ok (.ofS e)
/-- built-in calls -/
def L2L (K : PySem.W.Frag) (r : List V → Hp → VK → Prop) (r2 : R2L) : Prop := ∀ Z vs ds H W Q Q2, WOk K Z H W → Paired (Sv K Z H W) vs ds → r2 ds W Q2 → Co K Z H W Q2 Q → r vs H Q
def t2CB (r2 : R2L) (As : A2) : T2 := fun env W Q => As env W fun ds W1 => r2 ds W1 Q
theorem i_cb {r : List V → Hp → VK → Prop} {r2 : R2L} (l : L2L K r r2) : ∀ σ H Q, LE K φ (t2CB r2 As) σ H Q → tCB r (LA K φ As) σ H Q := fun σ H Q ⟨Z, env, W, Q2, R, t, co⟩ =>
  ⟨Z, env, W, _, R, t, fun ds W1 vs H1 q1 g1 ok1 l1 => l Z vs ds H1 W1 Q _ ok1 l1 q1 (co.step g1)⟩
def sVs : List D → Option (List V)
  | [] => some []
  | d :: ds => (sV d).bind fun v => (sVs ds).map (v :: ·)
theorem svs {H : Hp} {W : Wd} {vs : List V} {ds : List D} (l : Paired (Sv K Z H W) vs ds) : ∀ xs, sVs ds = some xs → vs = xs := by
  induction l with
  | nil =>
    intro xs h
    cases h
    rfl
  | @cons v d vs ds a l ih =>
    intro xs h
    unfold sVs at h
    cases e : sV d with
    | none => rw [e] at h; cases h
    | some x =>
      cases e2 : sVs ds with
      | none => rw [e, e2] at h; cases h
      | some ys =>
        rw [e, e2] at h
        cases h
        rw [a.sc e, ih _ e2]
def rLs (r : List V → Hp → VK → Prop) : R2L := fun ds W Q2 => ∃ xs, sVs ds = some xs ∧ ∀ H Q, (∀ v d, sD v = some d → Q2 d W → Q v H) → r xs H Q
theorem l_sL {r : List V → Hp → VK → Prop} : L2L K r (rLs r) := fun Z vs ds H W Q Q2 ok l ⟨xs, e, h⟩ co => by
  cases svs l xs e
  exact h H Q fun v d e q => co.now q ok (.ofS e)
/-- tests -/
def b2T (T : T2) : B2 := fun env W Q => T env W fun d W1 => ∃ b, d = .bl b ∧ Q b W1
theorem le_b {P : V → Hp → Prop} {σ : L2.St} {H : Hp} {Q : Bool → Hp → Prop} (h : LB K φ (b2T T) σ H Q) : LE K φ T σ H fun x H' => ∃ k, x = .bl k ∧ Q k H' := by
  obtain ⟨Z, env, W, Q2, R, t, co⟩ := h
  refine ⟨Z, env, W, _, R, t, fun d W1 v H1 ⟨b, e, q⟩ g1 ok1 s1 => ?_⟩
  subst e
  cases (show At K _ _ v _ from s1)
  exact ⟨b, rfl, co b W1 H1 q g1 ok1⟩
theorem i_test {t : TE} (f : ∀ σ H Q, LE K φ T σ H Q → t σ H Q) : ∀ σ H Q, LB K φ (b2T T) σ H Q → tTest t σ H Q := fun σ H Q h => f _ _ _ (le_b (P := fun _ _ => True) h)
theorem i_B : ∀ σ H Q, LB K φ (b2T T) σ H Q → tB (LE K φ T) σ H Q := fun σ H Q h => le_b (P := fun _ _ => True) h
def b2And (Ba Bb : B2) : B2 := fun env W Q => Ba env W fun c W1 => if c = true then Bb env W1 Q else Q false W1
theorem i_and : ∀ σ H Q, LB K φ (b2And Ba Bb) σ H Q → tAnd (LB K φ Ba) (LB K φ Bb) σ H Q := fun σ H Q ⟨Z, env, W, Q2, R, t, co⟩ =>
  ⟨Z, env, W, _, R, t, fun c W1 H1 q1 g1 ok1 => by
    cases c with
    | true => exact iteT ⟨Z, env, W1, _, R.grow g1 ok1, (if_pos rfl).mp q1, fun b W2 H2 q g ok => co b W2 H2 q (g1.trans g) ok⟩
    | false => exact iteF (co false W1 H1 ((if_neg (by decide)).mp q1) g1 ok1)⟩
def b2Or (Ba Bb : B2) : B2 := fun env W Q => Ba env W fun c W1 => if c = true then Q true W1 else Bb env W1 Q
theorem i_or : ∀ σ H Q, LB K φ (b2Or Ba Bb) σ H Q → tOr (LB K φ Ba) (LB K φ Bb) σ H Q := fun σ H Q ⟨Z, env, W, Q2, R, t, co⟩ =>
  ⟨Z, env, W, _, R, t, fun c W1 H1 q1 g1 ok1 => by
    cases c with
    | false => exact iteF ⟨Z, env, W1, _, R.grow g1 ok1, (if_neg (by decide)).mp q1, fun b W2 H2 q g ok => co b W2 H2 q (g1.trans g) ok⟩
    | true => exact iteT (co true W1 H1 ((if_pos rfl).mp q1) g1 ok1)⟩
def b2Not (Ba : B2) : B2 := fun env W Q => Ba env W fun c W1 => Q (!c) W1
theorem i_not : ∀ σ H Q, LB K φ (b2Not Ba) σ H Q → tNot (LB K φ Ba) σ H Q := fun σ H Q ⟨Z, env, W, Q2, R, t, co⟩ => ⟨Z, env, W, _, R, t, fun c W1 H1 q1 g1 ok1 => co _ W1 H1 q1 g1 ok1⟩
def t2AndV (Ta Tb : T2) : T2 := fun env W Q => Ta env W fun a W1 => ∃ c, a = .bl c ∧ if c = true then Tb env W1 Q else Q (.bl false) W1
def t2OrV (Ta Tb : T2) : T2 := fun env W Q => Ta env W fun a W1 => ∃ c, a = .bl c ∧ if c = true then Q (.bl true) W1 else Tb env W1 Q
def t2NotV (Ta : T2) : T2 := fun env W Q => Ta env W fun a W1 => ∃ c, a = .bl c ∧ Q (.bl (!c)) W1
theorem i_andV : ∀ σ H Q, LE K φ (t2AndV Ta Tb) σ H Q → tAndV (LE K φ Ta) (LE K φ Tb) σ H Q := fun σ H Q ⟨Z, env, W, Q2, R, t, co⟩ =>
  ⟨Z, env, W, _, R, t, fun d W1 v H1 ⟨c, e, q1⟩ g1 ok1 s1 => by
    subst e
    cases (show At K _ _ v _ from s1)
    refine ⟨c, rfl, ?_⟩
    cases c with
    | true => exact iteT ⟨Z, env, W1, _, R.grow g1 ok1, (if_pos rfl).mp q1, co.step g1⟩
    | false => exact iteF ((co.step g1).now ((if_neg (by decide)).mp q1) ok1 (.ofS rfl))⟩
theorem i_notV : ∀ σ H Q, LE K φ (t2NotV Ta) σ H Q → tNotV (LE K φ Ta) σ H Q := fun σ H Q ⟨Z, env, W, Q2, R, t, co⟩ =>
  ⟨Z, env, W, _, R, t, fun d W1 v H1 ⟨c, e, q1⟩ g1 ok1 s1 => by
    subst e
    cases (show At K _ _ v _ from s1)
    exact ⟨c, rfl, (co.step g1).now q1 ok1 (.ofS rfl)⟩⟩
def t2If (B : B2) (Ta Tb : T2) : T2 := fun env W Q => B env W fun c W1 => if c = true then Ta env W1 Q else Tb env W1 Q
theorem i_if : ∀ σ H Q, LE K φ (t2If Ba Ta Tb) σ H Q → tIf (LB K φ Ba) (LE K φ Ta) (LE K φ Tb) σ H Q := fun σ H Q ⟨Z, env, W, Q2, R, t, co⟩ =>
  ⟨Z, env, W, _, R, t, fun c W1 H1 q1 g1 ok1 => by
    cases c with
    | true => exact iteT ⟨Z, env, W1, _, R.grow g1 ok1, (if_pos rfl).mp q1, co.step g1⟩
    | false => exact iteF ⟨Z, env, W1, _, R.grow g1 ok1, (if_neg (by decide)).mp q1, co.step g1⟩⟩
/-- x < y < z -/
def t2Chain (r2 r2' : R22) (Ta Tb Tc : T2) : T2 := fun env W Q => Ta env W fun a W1 => Tb env W1 fun b W2 => r2 a b W2 fun z W3 => ∃ k, z = .bl k ∧ if k = true then Tc env W3 fun c W4 => r2' b c W4 Q else Q (.bl false) W3
theorem i_chain {r r' : R2} (l : L22 K r r2) (l' : L22 K r' r2') : ∀ σ H Q, LE K φ (t2Chain r2 r2' Ta Tb Tc) σ H Q → tChain r r' (LE K φ Ta) (LE K φ Tb) (LE K φ Tc) σ H Q := fun σ H Q ⟨Z, env, W, Q2, R, t, co⟩ =>
  ⟨Z, env, W, _, R, t, fun a W1 x H1 q1 g1 ok1 s1 => ⟨Z, env, W1, _, R.grow g1 ok1, q1, fun b W2 y H2 q2 g2 ok2 s2 => l Z x y a b H2 W2 _ _ ok2 (s1.grow g2) s2 q2 fun d W3 v H3 ⟨k, e, q3⟩ g3 ok3 s3 => by
    subst e
    cases (show At K _ _ v _ from s3)
    have g := (g1.trans g2).trans g3
    refine ⟨k, rfl, ?_⟩
    cases k with
    | true => exact iteT ⟨Z, env, W3, _, R.grow g ok3, (if_pos rfl).mp q3, fun c W4 z H4 q4 g4 ok4 s4 => l' Z y z b c H4 W4 _ _ ok4 ((s2.grow g3).grow g4) s4 q4 ((co.step g).step g4)⟩
    | false => exact iteF ((co.step g).now ((if_neg (by decide)).mp q3) ok3 (.ofS rfl))⟩⟩
end
end Fr
set_option Elab.async false
set_option linter.all false
set_option maxRecDepth 100000
set_option maxHeartbeats 4000000
namespace Fr
open PySem PySem.Spec PyProof.Rows L2
/-- behind a statement: E2 of data comes to E of values; W0 the cells at the def's start -/
structure CoE (K : PySem.W.Frag) (φ : Phi) (Z : List Addr) (H : Hp) (W : Wd) (E2 : Ends2) (E : Ends) : Prop where
  nx : ∀ env' W' σ' H', E2.nx env' W' → Bx (bs Z H W) (bs Z H' W') → Dt W W' → (∀ a ∈ Z, H' a = H a) → Rel K φ Z σ' H' env' W' → E.nx σ' H'
  bk : ∀ env' W' σ' H', E2.bk env' W' → Bx (bs Z H W) (bs Z H' W') → Dt W W' → (∀ a ∈ Z, H' a = H a) → Rel K φ Z σ' H' env' W' → E.bk σ' H'
  ct : ∀ env' W' σ' H', E2.ct env' W' → Bx (bs Z H W) (bs Z H' W') → Dt W W' → (∀ a ∈ Z, H' a = H a) → Rel K φ Z σ' H' env' W' → E.ct σ' H'
  rt : ∀ d W' v H', E2.rt d W' → Bx (bs Z H W) (bs Z H' W') → Dt W W' → (∀ a ∈ Z, H' a = H a) → Dm φ.w0 W' → WOk K Z H' W' → Sv K Z H' W' v d → E.rt v H'
def LS (K : PySem.W.Frag) (φ : Phi) (T : S2) : TS := fun E σ H => ∃ Z env W E2, Rel K φ Z σ H env W ∧ T E2 env W ∧ CoE K φ Z H W E2 E
section
variable {K : PySem.W.Frag} {φ : Phi} {Z : List Addr} {W W1 : Wd} {H H1 : Hp} {E2 : Ends2} {E : Ends} {T : T2} {S U : S2} {B : B2} {σ : L2.St} {env : En} {v : V} {d : D} {i : Nat}
theorem CoE.step (c : CoE K φ Z H W E2 E) (bx : Bx (bs Z H W) (bs Z H1 W1)) (dt : Dt W W1) (hz : ∀ a ∈ Z, H1 a = H a) : CoE K φ Z H1 W1 E2 E :=
  ⟨fun e' W' σ' H' q b t z r => c.nx e' W' σ' H' q (bx.trans b) (dt.trans t) (fun a h => (z a h).trans (hz a h)) r, fun e' W' σ' H' q b t z r => c.bk e' W' σ' H' q (bx.trans b) (dt.trans t) (fun a h => (z a h).trans (hz a h)) r,
    fun e' W' σ' H' q b t z r => c.ct e' W' σ' H' q (bx.trans b) (dt.trans t) (fun a h => (z a h).trans (hz a h)) r, fun e' W' σ' H' q b t z m r => c.rt e' W' σ' H' q (bx.trans b) (dt.trans t) (fun a h => (z a h).trans (hz a h)) m r⟩
theorem CoE.grow (c : CoE K φ Z H W E2 E) (g : Grow Z H W H1 W1) : CoE K φ Z H1 W1 E2 E := c.step g.bx g.dm.dt g.hid
theorem Rel.set (r : Rel K φ Z σ H env W) (s : Sv K Z H W v d) : Rel K φ Z (σ.set i (some v)) H (env.set i (some d)) W := by
  refine ⟨r.ok, by rw [List.length_set, List.length_set]; exact r.len, fun j e h => ?_, r.dm, r.ph⟩
  rw [List.getElem?_set] at h
  rw [List.getElem?_set]
  by_cases n : i = j
  · rw [if_pos n] at h ⊢
    by_cases l : i < env.length
    · rw [if_pos l] at h
      cases h
      rw [if_pos (by rw [r.len]; exact l)]
      exact ⟨v, rfl, s⟩
    · rw [if_neg l] at h
      cases h
  · rw [if_neg n] at h ⊢
    exact r.sv j e h
theorem Rel.wipe (r : Rel K φ Z σ H env W) : Rel K φ Z (σ.set i none) H (env.set i none) W := by
  refine ⟨r.ok, by rw [List.length_set, List.length_set]; exact r.len, fun j e h => ?_, r.dm, r.ph⟩
  rw [List.getElem?_set] at h
  rw [List.getElem?_set]
  by_cases n : i = j
  · rw [if_pos n] at h
    split at h <;> cases h
  · rw [if_neg n] at h ⊢
    exact r.sv j e h
def s2Seq (S U : S2) : S2 := fun E env W => S { E with nx := fun e w => U E e w } env W
theorem i_seq : ∀ D σ H, LS K φ (s2Seq S U) D σ H → tSeq (LS K φ S) (LS K φ U) D σ H := fun D σ H ⟨Z, env, W, E2, R, t, co⟩ =>
  ⟨Z, env, W, _, R, t, fun e' W' σ' H' q b dt z r => ⟨Z, e', W', E2, r, q, co.step b dt z⟩, co.bk, co.ct, co.rt⟩
def s2Nx : S2 := fun E env W => E.nx env W
theorem i_next : ∀ D σ H, LS K φ s2Nx D σ H → tNext D σ H := fun D σ H ⟨Z, env, W, E2, R, t, co⟩ => co.nx env W σ H t .refl .refl (fun _ _ => rfl) R
def s2Bk : S2 := fun E env W => E.bk env W
def s2Ret (T : T2) : S2 := fun E env W => T env W E.rt
theorem i_ret : ∀ D σ H, LS K φ (s2Ret T) D σ H → tRet (LE K φ T) D σ H := fun D σ H ⟨Z, env, W, E2, R, t, co⟩ => ⟨Z, env, W, _, R, t, fun d W1 v H1 q g ok s => co.rt d W1 v H1 q g.bx g.dm.dt g.hid (R.dm.trans g.dm) ok s⟩
def s2RetN : S2 := fun E env W => E.rt .non W
def s2Drop (T : T2) : S2 := fun E env W => T env W fun _ W1 => E.nx env W1
def s2If (B : B2) (S U : S2) : S2 := fun E env W => B env W fun c W1 => if c = true then S E env W1 else U E env W1
theorem i_ifS : ∀ D σ H, LS K φ (s2If B S U) D σ H → tIfS (LB K φ B) (LS K φ S) (LS K φ U) D σ H := fun D σ H ⟨Z, env, W, E2, R, t, co⟩ =>
  ⟨Z, env, W, _, R, t, fun c W1 H1 q g ok => by
    cases c with
    | true => exact iteT ⟨Z, env, W1, E2, R.grow g ok, (if_pos rfl).mp q, co.grow g⟩
    | false => exact iteF ⟨Z, env, W1, E2, R.grow g ok, (if_neg (by decide)).mp q, co.grow g⟩⟩
/-- targets; vs: the slots that they fill -/
theorem wipe_get {α : Type} (σ : L2.St) (vs : List Nat) (i : Nat) : (wipe σ vs)[i]? = if i ∈ vs then (if i < σ.length then some none else none) else σ[i]? := by
  induction vs with
  | nil => simp [wipe]
  | cons v vs ih =>
    unfold wipe
    rw [List.getElem?_set, ih, wipe_length]
    by_cases e : v = i
    · subst e
      simp
    · have e2 : ¬ i = v := fun z => e z.symm
      simp [e, e2]
theorem wipe_set {σ : L2.St} {vs : List Nat} {i : Nat} {x : Option V} (h : i ∈ vs) : wipe (σ.set i x) vs = wipe σ vs := by
  refine List.ext_getElem? fun j => ?_
  rw [wipe_get (α := Unit), wipe_get (α := Unit), List.length_set, List.getElem?_set]
  by_cases e : j ∈ vs
  · rw [if_pos e, if_pos e]
  · rw [if_neg e, if_neg e, if_neg (show ¬ i = j from fun z => e (z ▸ h))]
theorem wipe_wipe {σ : L2.St} {vs : List Nat} : wipe (wipe σ vs) vs = wipe σ vs := by
  refine List.ext_getElem? fun j => ?_
  rw [wipe_get (α := Unit), wipe_get (α := Unit), wipe_length]
  by_cases e : j ∈ vs
  · rw [if_pos e, if_pos e]
  · rw [if_neg e, if_neg e]
abbrev G2 := D → En → Wd → (En → Wd → Prop) → Prop
abbrev G2s := List D → En → Wd → (En → Wd → Prop) → Prop
def L2G (K : PySem.W.Frag) (φ : Phi) (vs : List Nat) (g : TG) (g2 : G2) : Prop := ∀ Z v d σ H env W q q2, Rel K φ Z σ H env W → Sv K Z H W v d → g2 d env W q2 → (∀ env' W' σ' H', q2 env' W' → Grow Z H W H' W' → Rel K φ Z σ' H' env' W' → wipe σ' vs = wipe σ vs → q σ' H') → g v σ H q
def L2Gs (K : PySem.W.Frag) (φ : Phi) (ws : List Nat) (g : TGs) (g2 : G2s) : Prop := ∀ Z vs ds σ H env W q q2, Rel K φ Z σ H env W → AtL K (bs Z H W) W vs ds → g2 ds env W q2 → (∀ env' W' σ' H', q2 env' W' → Grow Z H W H' W' → Rel K φ Z σ' H' env' W' → wipe σ' ws = wipe σ ws → q σ' H') → g vs σ H q
def g2Name (i : Nat) : G2 := fun d env W q => q (env.set i (some d)) W
theorem lg_name {vs : List Nat} (m : i ∈ vs) : L2G K φ vs (gName i) (g2Name i) := fun Z v d σ H env W q q2 R s h c => c _ W _ H h .refl (R.set s) (wipe_set m)
def g2Tup (n : Nat) (gs : G2s) : G2 := fun d env W q => ∃ ds, d = .tup ds ∧ ds.length = n ∧ gs ds env W q
theorem lg_tup {ws : List Nat} {n : Nat} {gs : TGs} {gs2 : G2s} (l : L2Gs K φ ws gs gs2) : L2G K φ ws (gTup K n gs) (g2Tup n gs2) := fun Z v d σ H env W q q2 R s ⟨ds, e, hl, h⟩ c => by
  subst e
  obtain ⟨p, vs, rfl, e, a⟩ := s.tup
  exact ⟨p, vs, rfl, e, by rw [a.len]; exact hl, l Z vs ds σ H env W q q2 R a h c⟩
def g2Cons (g : G2) (gs : G2s) : G2s := fun ds env W q => ∃ d es, ds = d :: es ∧ g d env W fun env1 W1 => gs es env1 W1 q
theorem lg_cons {ws : List Nat} {g : TG} {g2 : G2} {gs : TGs} {gs2 : G2s} (l1 : L2G K φ ws g g2) (l : L2Gs K φ ws gs gs2) : L2Gs K φ ws (gCons g gs) (g2Cons g2 gs2) := fun Z vs ds σ H env W q q2 R s ⟨d, es, e, h⟩ c => by
  subst e
  cases s with
  | cons a b => exact ⟨_, _, rfl, l1 Z _ d σ H env W _ _ R (.of a) h fun e1 W1 σ1 H1 q1 g1 r1 w1 => l Z _ es σ1 H1 e1 W1 q q2 r1 (b.grow g1) q1 fun e2 W2 σ2 H2 q3 g2 r2 w2 => c e2 W2 σ2 H2 q3 (g1.trans g2) r2 (w2.trans w1)⟩
def g2Nil : G2s := fun ds env W q => ds = [] ∧ q env W
theorem lg_nil {ws : List Nat} : L2Gs K φ ws gNil g2Nil := fun Z vs ds σ H env W q q2 R s ⟨e, h⟩ c => by
  subst e
  cases s
  exact ⟨rfl, c env W σ H h .refl R rfl⟩
def s2Asg (T : T2) (g : G2) : S2 := fun E env W => T env W fun d W1 => g d env W1 E.nx
theorem i_asg {ws : List Nat} {g : TG} {g2 : G2} (l : L2G K φ ws g g2) : ∀ D σ H, LS K φ (s2Asg T g2) D σ H → tAsg (LE K φ T) g D σ H := fun D σ H ⟨Z, env, W, E2, R, t, co⟩ =>
  ⟨Z, env, W, _, R, t, fun d W1 v H1 q g1 ok s => l Z v d σ H1 env W1 _ _ (R.grow g1 ok) s q fun e2 W2 σ2 H2 q2 g2 r2 _ => co.nx e2 W2 σ2 H2 q2 (g1.trans g2).bx (g1.trans g2).dm.dt (g1.trans g2).hid r2⟩
def s2Par (i j : Nat) (As : A2) : S2 := fun E env W => As env W fun ds W1 => ∃ a b, ds = [a, b] ∧ E.nx ((env.set i (some a)).set j (some b)) W1
theorem i_par {j : Nat} {As : A2} : ∀ D σ H, LS K φ (s2Par i j As) D σ H → tPar i j (LA K φ As) D σ H := fun D σ H ⟨Z, env, W, E2, R, t, co⟩ =>
  ⟨Z, env, W, _, R, t, fun ds W1 vs H1 ⟨a, b, e, q⟩ g ok l => by
    subst e
    cases l with
    | cons s1 l =>
      cases l with
      | cons s2 l =>
        cases l
        exact ⟨_, _, rfl, co.nx _ W1 _ H1 q g.bx g.dm.dt g.hid (((R.grow g ok).set s1).set s2)⟩⟩
/-- x op= e -/
def s2Aug (i : Nat) (T : T2) (r2 : R22) : S2 := fun E env W => ∃ a, env[i]? = some (some a) ∧ T env W fun b W1 => r2 a b W1 fun d W2 => E.nx (env.set i (some d)) W2
theorem i_aug {r : TIp} {r2 : R22} (l : L22 K r r2) : ∀ D σ H, LS K φ (s2Aug i T r2) D σ H → tAug i (LE K φ T) r D σ H := fun D σ H ⟨Z, env, W, E2, R, ⟨a, e, t⟩, co⟩ => by
  obtain ⟨x, hx, sx⟩ := R.sv i a e
  exact ⟨x, hx, Z, env, W, _, R, t, fun b W1 y H1 q g1 ok s => l Z x y a b H1 W1 _ _ ok (sx.grow g1) s q fun d W2 v H2 q2 g2 ok2 s2 =>
    co.nx _ W2 _ H2 q2 (g1.trans g2).bx (g1.trans g2).dm.dt (g1.trans g2).hid ((R.grow (g1.trans g2) ok2).set s2)⟩
def Itr2 (K : PySem.W.Frag) (Z : List Addr) (H : Hp) (W : Wd) (J : It) (ds : List D) : Prop := ∃ (G : Hp → Prop) (Y : Nat → Hp → V → Hp → Prop), Walk J ds.length G Y ∧ (∀ Z1 H1 W1, Bx (bs Z H W) (bs Z1 H1 W1) → (∀ a ∈ Z, LkD W a → H1 a = H a) → G H1) ∧
  ∀ i Z1 H1 W1 x H2, Bx (bs Z H W) (bs Z1 H1 W1) → Dt W W1 → WOk K Z1 H1 W1 → i < ds.length → Y i H1 x H2 → ∃ d, ds[i]? = some d ∧ Grow Z1 H1 W1 H2 W1 ∧ WOk K Z1 H2 W1 ∧ Sv K Z1 H2 W1 x d
def LI (K : PySem.W.Frag) (φ : Phi) (Ti : A2) : TI := fun σ H R => ∃ Z env W Q2, Rel K φ Z σ H env W ∧ Ti env W Q2 ∧ ∀ ds W' H' J, Q2 ds W' → Grow Z H W H' W' → WOk K Z H' W' → Itr2 K Z H' W' J ds → R J H'
/-- by an invariant -/
def ForI (g : G2) (S : S2) (E : Ends2) (ds : List D) (env : En) (W : Wd) : Prop := ∃ I : Nat → En → Wd → Prop, I 0 env W ∧ (∀ (i : Nat) (d : D) (env : En) (W : Wd), ds[i]? = some d → I i env W → g d env W fun e1 w1 => S { nx := I (i + 1), rt := E.rt, bk := E.nx, ct := I (i + 1) } e1 w1) ∧ ∀ env W, I ds.length env W → E.nx env W
def forW (g : G2) (S : S2) (E : Ends2) : List D → En → Wd → Prop
  | [], env, W => E.nx env W
  | d :: ds, env, W => g d env W fun env1 W1 => S { nx := fun e w => forW g S E ds e w, rt := E.rt, bk := E.nx, ct := fun e w => forW g S E ds e w } env1 W1
/-- turn by turn -/
theorem forW_I {g : G2} {S : S2} {E : Ends2} {ds : List D} {env : En} {W : Wd} (h : forW g S E ds env W) : ForI g S E ds env W := by
  refine ⟨fun i env W => forW g S E (ds.drop i) env W, h, fun i d env W hd h => ?_, fun env W h => ?_⟩
  · have e : ds.drop i = d :: ds.drop (i + 1) := by
      obtain ⟨h1, h2⟩ := List.getElem?_eq_some_iff.mp hd
      rw [← h2]
      exact List.drop_eq_getElem_cons h1
    dsimp only at h
    rw [e] at h
    exact h
  · dsimp only at h
    rw [List.drop_length] at h
    exact h
def s2For (Ti : A2) (g : G2) (S : S2) : S2 := fun E env W => Ti env W fun ds W1 => ForI g S E ds env W1
theorem i_for {ws : List Nat} {Ti : A2} {g : TG} {g2 : G2} (l : L2G K φ ws g g2) : ∀ D σ H, LS K φ (s2For Ti g2 S) D σ H → tFor (LI K φ Ti) g (LS K φ S) D σ H := fun D σ H ⟨Z, env, W, E2, R, t, co⟩ =>
  ⟨Z, env, W, _, R, t, fun ds W1 H1 J ⟨I, q, hI, hE⟩ g1 ok1 ⟨G, Y, wk, hG, hY⟩ => by
    refine for_it wk (fun i σ' H' => ∃ env' W', I i env' W' ∧ Bx (bs Z H1 W1) (bs Z H' W') ∧ Dt W1 W' ∧ (∀ a ∈ Z, H' a = H1 a) ∧ Rel K φ Z σ' H' env' W') ⟨env, W1, q, .refl, .refl, fun _ _ => rfl, R.grow g1 ok1⟩ ?_ ?_ ?_
    · rintro i σ' H' _ ⟨env', W', _, bx, _, hz, _⟩
      exact hG Z H' W' bx fun a m _ => hz a m
    · rintro i x σ' H' H2 hi ⟨env', W', hf, bx, dt, hz, R'⟩ y
      obtain ⟨d, hd, g2', ok2, s2⟩ := hY i Z H' W' x H2 bx dt R'.ok hi y
      refine l Z x d σ' H2 env' W' _ _ (R'.grow g2' ok2) s2 (hI i d env' W' hd hf) fun e3 W3 σ3 H3 q3 g3 r3 _ => ?_
      have b13 := bx.trans (g2'.trans g3).bx
      have t13 := dt.trans (g2'.trans g3).dm.dt
      have z13 : ∀ a ∈ Z, H3 a = H1 a := fun a h => ((g2'.trans g3).hid a h).trans (hz a h)
      have nx : ∀ e4 W4 σ4 H4, I (i + 1) e4 W4 → Bx (bs Z H3 W3) (bs Z H4 W4) → Dt W3 W4 → (∀ a ∈ Z, H4 a = H3 a) → Rel K φ Z σ4 H4 e4 W4 → ∃ env' W', I (i + 1) env' W' ∧ Bx (bs Z H1 W1) (bs Z H4 W') ∧ Dt W1 W' ∧ (∀ a ∈ Z, H4 a = H1 a) ∧ Rel K φ Z σ4 H4 env' W' :=
        fun e4 W4 σ4 H4 q4 b4 t4 z4 r4 => ⟨e4, W4, q4, b13.trans b4, t13.trans t4, fun a h => (z4 a h).trans (z13 a h), r4⟩
      have c3 := ((co.grow g1).step bx dt hz).grow (g2'.trans g3)
      exact ⟨Z, e3, W3, _, r3, q3, nx, fun e4 W4 σ4 H4 q4 b4 t4 z4 r4 => c3.nx e4 W4 σ4 H4 q4 b4 t4 z4 r4, nx, c3.rt⟩
    · rintro σ' H' ⟨env', W', hf, bx, dt, hz, R'⟩
      exact ((co.grow g1).step bx dt hz).nx env' W' σ' H' (hE env' W' hf) .refl .refl (fun _ _ => rfl) R'⟩
end
end Fr
set_option Elab.async false
set_option linter.all false
set_option maxRecDepth 100000
set_option maxHeartbeats 4000000
namespace Fr
open PySem PySem.Spec PyProof.Rows L2
def wipe2 (env : En) : List Nat → En
  | [] => env
  | v :: vs => (wipe2 env vs).set v none
def phi0 : Phi := ⟨fun _ => none, fun _ _ _ => True, fun _ _ _ _ _ _ _ _ _ _ => trivial⟩
theorem dm0 {W : Wd} : Dm phi0.w0 W := fun a f c h => by cases h
section
variable {K : PySem.W.Frag} {φ : Phi} {Z Z' : List Addr} {W W' W1 : Wd} {H H' H1 : Hp} {T : T2} {B : B2} {σ : L2.St} {env : En} {v : V} {d : D} {i : Nat} {p : Addr}
theorem Rel.to (r : Rel K φ Z σ H env W) (bx : Bx (bs Z H W) (bs Z' H' W')) (dm : Dm W W') (ok : WOk K Z' H' W') : Rel K phi0 Z' σ H' env W' := by
  refine ⟨ok, r.len, fun i d h => ?_, dm0, trivial⟩
  obtain ⟨v, e, s⟩ := r.sv i d h
  refine ⟨v, e, ?_⟩
  cases d <;> first | exact At.mono bx dm.dt s | skip
  · obtain ⟨e, c, hc⟩ := s
    obtain ⟨c', hc'⟩ := dm _ _ _ hc
    exact ⟨e, c', hc'⟩
  · obtain ⟨a, e, s, h⟩ := s
    refine ⟨a, e, bx.sqT s, fun p hp => ?_⟩
    obtain ⟨c, hc⟩ := h p hp
    exact dm _ _ _ hc
theorem Rel.wipes (r : Rel K φ Z σ H env W) : ∀ vs : List Nat, Rel K φ Z (L2.wipe σ vs) H (wipe2 env vs) W
  | [] => r
  | v :: vs => (r.wipes vs).wipe
theorem bs_hide {o : HO} (h : H p = none) : bs (p :: Z) (upd H p o) W = bs Z H W := by
  funext a
  unfold bs
  by_cases e : a = p
  · subst e
    rw [h]
    simp
  · rw [upd_ne e]
    simp [e]
theorem bs_hid {o : HO} (h : p ∈ Z) : bs Z (upd H p o) W = bs Z H W := by
  funext a
  unfold bs
  by_cases e : a = p
  · subst e
    simp [h]
  · rw [upd_ne e]
theorem WOk.hide {o : HO} (ok : WOk K Z H W) (h : H p = none) : WOk K (p :: Z) (upd H p o) W := by
  have wp := ok.free h
  have cell : ∀ {a : Addr} {c : Cell}, CellOk K Z H W a c → upd H p o a = H a → CellOk K (p :: Z) (upd H p o) W a c := fun {a c} hc e => by
    cases c with
    | lst ds => obtain ⟨vs, h1, h2⟩ := hc; exact ⟨vs, e.trans h1, by rw [bs_hide h]; exact h2⟩
    | dic ds => obtain ⟨vs, h1, h2⟩ := hc; exact ⟨vs, e.trans h1, by rw [bs_hide h]; exact h2⟩
    | ins C ds => obtain ⟨dx, vs, h1, h2⟩ := hc; exact ⟨dx, vs, e.trans h1, by rw [bs_hide h]; exact h2⟩
    | bag n => obtain ⟨x, y, z, h1, h2⟩ := hc; exact ⟨x, y, z, e.trans h1, h2⟩
    | ldic ds => obtain ⟨o2, vs, h1, h2⟩ := hc; exact ⟨o2, vs, e.trans h1, by rw [bs_hide h]; exact h2⟩
    | tbl q => exact TabCell.to (B := bs Z H W) (B' := bs (p :: Z) (upd H p o) W) (H := H) (a := a) (H' := upd H p o) (q := q) hc (fun b o2 _ q => by rw [bs_hide h]; exact q) e
  refine ⟨fun a f c e => cell (ok.c a f c e) ?_, fun a m => ?_, ok.t, fun a f k e => List.mem_cons_of_mem _ (ok.l a f k e)⟩
  · obtain ⟨o2, e2⟩ := (ok.c a f c e).has
    exact upd_ne (ne_of_none e2 h)
  · rcases List.mem_cons.mp m with rfl | m
    · exact ⟨.inl wp, o, upd_same⟩
    · obtain ⟨h1, o2, h2⟩ := ok.z a m
      exact ⟨h1, o2, by rw [upd_ne (ne_of_none h2 h)]; exact h2⟩
theorem WOk.hid {o : HO} (ok : WOk K Z H W) (h : p ∈ Z) (wp : W p = none) : WOk K Z (upd H p o) W := by
  refine ⟨fun a f c e => (ok.c a f c e).to (by rw [bs_hid h]; exact .refl) Dm.refl.dt (upd_ne fun z => ?_), fun a m => ?_, ok.t, ok.l⟩
  · rw [z, wp] at e
    cases e
  · by_cases e : a = p
    · subst e
      exact ⟨.inl wp, o, upd_same⟩
    · rw [upd_ne e]
      exact ok.z a m
theorem WOk.unhide (ok : WOk K (p :: Z) H W) (wp : W p = none) : Bx (bs (p :: Z) H W) (bs Z H W) ∧ WOk K Z H W := by
  have le : ∀ {a : Addr} {o : HO}, bs (p :: Z) H W a = some o → bs Z H W a = some o := fun {a o} h => by
    unfold bs at h ⊢
    split at h
    · cases h
    · rename_i n
      rw [if_neg (fun z => n (z.imp (List.mem_cons_of_mem _) id))]
      exact h
  have bx : Bx (bs (p :: Z) H W) (bs Z H W) := ⟨fun a o _ h => le h, fun a kvs h => h.imp le fun ⟨o, e⟩ => ⟨o, le e⟩⟩
  refine ⟨bx, fun a f c e => ?_, fun a m => ok.z a (List.mem_cons_of_mem _ m), ok.t, fun a f k e => by
    rcases List.mem_cons.mp (ok.l a f k e) with z | z
    · rw [z, wp] at e
      cases e
    · exact z⟩
  have hc := ok.c a f c e
  cases c with
  | lst ds => obtain ⟨vs, h1, h2⟩ := hc; exact ⟨vs, h1, h2.mono bx .refl⟩
  | dic ds => obtain ⟨vs, h1, h2⟩ := hc; exact ⟨vs, h1, h2.mono bx .refl⟩
  | ins C ds => obtain ⟨dx, vs, h1, h2⟩ := hc; exact ⟨dx, vs, h1, h2.mono bx .refl⟩
  | bag n => exact hc
  | ldic ds => obtain ⟨o, vs, h1, h2⟩ := hc; exact ⟨o, vs, h1, h2.mono bx .refl⟩
  | tbl q => exact TabCell.to (B := bs (p :: Z) H W) (H := H) (H' := H) (a := a) (q := q) hc (fun b o _ q => le q) rfl
/-- by an invariant: the turn, what is made so far -/
def LcI (g : G2) (B : B2) (T : T2) (env0 : En) (ds : List D) (W : Wd) (k : List D → Wd → Prop) : Prop := ∃ I : Nat → List D → Wd → Prop, I 0 [] W ∧ (∀ (i : Nat) (acc : List D) (d : D) (W : Wd), ds[i]? = some d → I i acc W → g d env0 W fun env1 W1 => B env1 W1 fun b W2 => if b = true then T env1 W2 fun y W3 => Pl y ∧ I (i + 1) (acc ++ [y]) W3 else I (i + 1) acc W2) ∧ ∀ ys W, I ds.length ys W → k ys W
def t2Lc (Ti : A2) (g : G2) (B : B2) (T : T2) (vs : List Nat) : T2 := fun env W Q => Ti env W fun ds W1 => ds.length ≤ 1000000 ∧ LcI g B T (wipe2 env vs) ds W1 fun ys W2 => Q (.lst ys) W2
theorem i_lc {Ti : A2} {g : TG} {g2 : G2} {vs : List Nat} (l : L2G K phi0 vs g g2) : ∀ σ H Q, LE K φ (t2Lc Ti g2 B T vs) σ H Q → tLc (LI K φ Ti) g (LB K phi0 B) (LE K phi0 T) vs σ H Q := fun σ H Q ⟨Z, env, W, Q2, R, t, co⟩ =>
  ⟨Z, env, W, _, R, t, fun ds W1 H1 J ⟨hl, I, q, hI, hE⟩ g1 ok1 ⟨G, Y, wk, hG, hY⟩ => fun Dl hD => by
    have hDz := ok1.nz hD
    have R1 := R.grow g1 ok1
    refine lc_it wk (fun i H' => ∃ W' acc ads, H' Dl = some (.lst acc) ∧ AtL K (bs (Dl :: Z) H' W') W' acc ads ∧ acc.length ≤ i ∧ WOk K (Dl :: Z) H' W' ∧ Bx (bs Z H1 W1) (bs (Dl :: Z) H' W') ∧ Dm W1 W' ∧ (∀ a ∈ Z, H' a = H1 a) ∧
      I i ads W') ⟨W1, [], [], upd_same, .nil, Nat.le_refl _, ok1.hide hD, by rw [bs_hide hD]; exact .refl, .refl, fun a m => upd_ne (show a ≠ Dl from fun z => hDz (by rw [← z]; exact m)), q⟩ ?_ ?_ ?_
    · rintro i H' _ ⟨W', acc, ads, _, _, _, _, bx, _, hz, _⟩
      exact hG _ H' W' bx fun a m _ => hz a m
    · rintro i x H' H2 hi ⟨W', acc, ads, e1, a1, l1, ok', bx, dm, hz, hf⟩ y
      obtain ⟨d, hd, g2', ok2, s2⟩ := hY i _ H' W' x H2 bx dm.dt ok' hi y
      have R2 : Rel K phi0 (Dl :: Z) (wipe σ vs) H2 (wipe2 env vs) W' := ((R1.wipes vs).to bx dm ok').grow g2' ok2
      refine l _ x d _ H2 _ W' _ _ R2 s2 (hI i ads d W' hd hf) fun e3 W3 σ3 H3 q3 g3 r3 w3 => ⟨by rw [w3, wipe_wipe], _, e3, W3, _, r3, q3, fun b W4 H4 q4 g4 ok4 => ?_⟩
      have g24 := (g2'.trans g3).trans g4
      have eD : Dl ∈ Dl :: Z := List.mem_cons_self
      cases b with
      | false =>
        refine iteF ⟨W4, acc, ads, (g24.hid Dl eD).trans e1, a1.grow g24, Nat.le_succ_of_le l1, ok4, bx.trans g24.bx, dm.trans g24.dm, fun a m => (g24.hid a (List.mem_cons_of_mem _ m)).trans (hz a m), (if_neg (by decide)).mp q4⟩
      | true =>
        refine iteT ⟨_, e3, W4, _, r3.grow g4 ok4, (if_pos rfl).mp q4, fun z W5 y5 H5 ⟨pl, q5⟩ g5 ok5 s5 => ?_⟩
        have g25 := g24.trans g5
        refine ⟨acc, (g25.hid Dl eD).trans e1, lt_line (by omega), W5, acc ++ [y5], ads ++ [z], upd_same, ?_, by rw [List.length_append, List.length_singleton]; omega, ok5.hid eD (ok5.zl eD ((g25.hid Dl eD).trans e1)), ?_, dm.trans g25.dm, fun a m => ?_, ?_⟩
        · rw [bs_hid eD]
          exact (a1.grow g25).app (.cons (s5.at pl) .nil)
        · rw [bs_hid eD]
          exact bx.trans g25.bx
        · rw [upd_ne (show a ≠ Dl from fun z => hDz (by rw [← z]; exact m))]
          exact (g25.hid a (List.mem_cons_of_mem _ m)).trans (hz a m)
        · exact q5
    · rintro H' ⟨W', acc, ads, e1, a1, l1, ok', bx, dm, hz, hf⟩
      have q : Q2 (.lst ads) W' := hE ads W' hf
      obtain ⟨bu, ou⟩ := ok'.unhide (ok'.zl List.mem_cons_self e1)
      refine co (.lst ads) W' _ H' q (g1.trans ⟨bx.trans bu, dm, hz⟩) ou (.of (.lst ?_ (a1.mono bu .refl)))
      unfold bs
      rw [if_neg (by simp [hDz, ok'.zl List.mem_cons_self e1])]
      exact e1⟩
theorem sv_items {vs : List V} {ds : List D} {Z1 : List Addr} {B0 : Hp} (h : AtL K B0 W vs ds) (bx : Bx B0 (bs Z1 H1 W1)) (dt : Dt W W1) {x : V} (e : vs[i]? = some x) : ∃ d, ds[i]? = some d ∧ Sv K Z1 H1 W1 x d := by
  have hi : i < ds.length := by
    rw [← h.len]
    exact (List.getElem?_eq_some_iff.mp e).1
  obtain ⟨v, h1, h2⟩ := h.get (i := i) ds[i] (List.getElem?_eq_getElem hi)
  rw [e] at h1
  cases h1
  exact ⟨ds[i], List.getElem?_eq_getElem hi, .of (h2.mono bx dt)⟩
def a2List (T : T2) : A2 := fun env W Q => T env W fun d W1 => ∃ ds, d = .lst ds ∧ Q ds W1
theorem i_iList : ∀ σ H R, LI K φ (a2List T) σ H R → iList K (LE K φ T) σ H R := fun σ H R ⟨Z, env, W, Q2, Rl, t, co⟩ =>
  ⟨Z, env, W, _, Rl, t, fun d W1 v H1 ⟨ds, e, q⟩ g ok s => by
    subst e
    cases (show At K _ _ v _ from s) with
    | @lst a vs _ sq l =>
      have wk : Walk (Itl K a) ds.length (fun H => SqL K H a vs) (YAt vs) := by
        rw [← l.len]
        exact walk_list
      exact ⟨a, rfl, ⟨vs, .inl (.inl (bs_le sq))⟩, co ds W1 H1 _ q g ok ⟨_, _, wk, fun Z1 H2 W2 bx _ => .inl (.inl (bs_le (bx.eq _ _ rfl sq))), fun i Z1 H2 W2 x H3 bx dt ok2 hi y => by
        obtain ⟨rfl, e⟩ := y
        obtain ⟨d, h1, h2⟩ := sv_items l bx dt e
        exact ⟨d, h1, .refl, ok2, h2⟩⟩⟩⟩
def a2Tup (T : T2) : A2 := fun env W Q => T env W fun d W1 => ∃ ds, d = .tup ds ∧ Q ds W1
theorem i_iTup : ∀ σ H R, LI K φ (a2Tup T) σ H R → iTup K (LE K φ T) σ H R := fun σ H R ⟨Z, env, W, Q2, Rl, t, co⟩ =>
  ⟨Z, env, W, _, Rl, t, fun d W1 v H1 ⟨ds, e, q⟩ g ok s => by
    subst e
    cases (show At K _ _ v _ from s) with
    | @tup a vs _ sq l =>
      have wk : Walk (Itt K a) ds.length (fun H => SqT K H a vs) (YAt vs) := by
        rw [← l.len]
        exact walk_tup
      exact ⟨a, rfl, ⟨vs, sqT_up sq⟩, co ds W1 H1 _ q g ok ⟨_, _, wk, fun Z1 H2 W2 bx _ => sqT_up (bx.sqT sq), fun i Z1 H2 W2 x H3 bx dt ok2 hi y => by
        obtain ⟨rfl, e⟩ := y
        obtain ⟨d, h1, h2⟩ := sv_items l bx dt e
        exact ⟨d, h1, .refl, ok2, h2⟩⟩⟩⟩
def sgD (z : Str) : List D := (tl z).map fun c => .str (mkS [c])
def a2Str (T : T2) : A2 := fun env W Q => T env W fun d W1 => ∃ z, d = .str z ∧ Q (sgD z) W1
theorem i_iStr : ∀ σ H R, LI K φ (a2Str T) σ H R → iStr (LE K φ T) σ H R := fun σ H R ⟨Z, env, W, Q2, Rl, t, co⟩ =>
  ⟨Z, env, W, _, Rl, t, fun d W1 v H1 ⟨z, e, q⟩ g ok s => by
    subst e
    cases (show At K _ _ v _ from s)
    have wk : Walk (Its z) (sgD z).length (fun _ => True) (fun i H v H' => H' = H ∧ ∃ c, z.cps[i]? = some c ∧ v = .str ⟨#[c]⟩) := by
      rw [show (sgD z).length = z.cps.size by simp [sgD]]
      exact walk_str
    refine ⟨z, rfl, co _ W1 H1 _ q g ok ⟨_, _, wk, fun _ _ _ _ _ => trivial, fun i Z1 H2 W2 x H3 bx dt ok2 hi y => ?_⟩⟩
    obtain ⟨rfl, c, e, rfl⟩ := y
    refine ⟨.str (mkS [c]), ?_, .refl, ok2, .ofS rfl⟩
    unfold sgD
    rw [List.getElem?_map, show (tl z)[i]? = some c by simpa using e]
    rfl⟩
def rgD (lo : Int) (n : Nat) : List D := (List.range n).map fun i => .int (lo + (i : Nat))
theorem itr_rng {lo : Int} {n : Nat} : Itr2 K Z H W (Itr lo n) (rgD lo n) := by
  have en : (rgD lo n).length = n := by simp [rgD]
  have wk : Walk (Itr lo n) (rgD lo n).length (fun _ => True) (YFn fun i => .int (lo + i)) := by
    rw [en]
    exact walk_range
  refine ⟨_, _, wk, fun _ _ _ _ _ => trivial, fun i Z1 H2 W2 x H3 bx dt ok2 hi y => ?_⟩
  rw [en] at hi
  obtain ⟨rfl, rfl⟩ := y
  exact ⟨_, by simp [rgD, hi], .refl, ok2, .ofS rfl⟩
def a2Rng1 (As : A2) : A2 := fun env W Q => As env W fun ds W1 => ∃ j : Int, ds = [.int j] ∧ -(2 ^ 62) ≤ j ∧ j < 2 ^ 62 ∧ Q (rgD 0 j.toNat) W1
theorem i_iRng1 {As : A2} : ∀ σ H R, LI K φ (a2Rng1 As) σ H R → iRng1 (LA K φ As) σ H R := fun σ H R ⟨Z, env, W, Q2, Rl, t, co⟩ =>
  ⟨Z, env, W, _, Rl, t, fun ds W1 vs H1 ⟨j, e, h1, h2, q⟩ g ok l => by
    cases svs l [.int j] (by rw [e]; rfl)
    exact ⟨j, rfl, h1, h2, co _ W1 H1 _ q g ok itr_rng⟩⟩
end
end Fr
set_option Elab.async false
set_option linter.all false
set_option maxRecDepth 100000
set_option maxHeartbeats 4000000
namespace Fr
open PySem PySem.Spec PyProof.Rows L2
def frzC : Cell → Option D
  | .lst ds => some (.lst ds) | .dic ds => some (.dic ds) | .ins C fs => some (.obj C fs) | .bag _ => none | .ldic _ => none | .tbl _ => none
theorem frz_free {c : Cell} {d : D} (h : frzC c = some d) : c.free := by
  cases c <;> first | trivial | cases h
section
variable {K : PySem.W.Frag} {φ : Phi} {Z Z' : List Addr} {W W' W1 : Wd} {H H' H1 : Hp} {T : T2} {B : B2} {σ : L2.St} {env : En} {v : V} {d : D} {i : Nat} {p : Addr} {c : Cell}
theorem bs_del (h : W p = some (false, c)) {a : Addr} {o : HO} (e : bs Z H W a = some o) : bs Z H (W.del p) a = some o := by
  have n : a ≠ p := fun z => by
    unfold bs at e
    rw [z, h] at e
    simp at e
  unfold bs at e ⊢
  rw [Wd.delNe n]
  exact e
theorem WOk.frz (ok : WOk K Z H W) (h : W p = some (false, c)) : Bx (bs Z H W) (bs Z H (W.del p)) ∧ Dt W (W.del p) ∧ WOk K Z H (W.del p) := by
  have bx : Bx (bs Z H W) (bs Z H (W.del p)) := ⟨fun a o _ e => bs_del h e, fun a kvs e => e.imp (bs_del h) fun ⟨o, e⟩ => ⟨o, bs_del h e⟩⟩
  have dt : Dt W (W.del p) := fun a c2 e => by
    have n : a ≠ p := fun z => by
      rw [z, h] at e
      cases e
    exact ⟨c2, by rw [Wd.delNe n]; exact e⟩
  refine ⟨bx, dt, fun a f c2 e => ?_, fun a m => ⟨?_, (ok.z a m).2⟩, fun P q k => ?_, fun a g kvs e => ?_⟩
  · have n : a ≠ p := fun z => by
      rw [z, Wd.delSame] at e
      cases e
    rw [Wd.delNe n] at e
    exact (ok.c a f c2 e).to bx dt rfl
  · by_cases n : a = p
    · rw [n]
      exact .inl Wd.delSame
    · unfold NoC
      rw [Wd.delNe n]
      exact (ok.z a m).1
  · have x := ok.t P q k
    rw [Wd.delNe fun z => by rw [z, h] at x; cases x]
    exact x
  · have n : a ≠ p := fun z => by
      rw [z, Wd.delSame] at e
      cases e
    rw [Wd.delNe n] at e
    exact ok.l _ _ _ e
theorem frz_at (ok : WOk K Z H W) (h : W p = some (false, c)) (e : frzC c = some d) : At K (bs Z H (W.del p)) (W.del p) (.ref p) d := by
  obtain ⟨bx, dt, _⟩ := ok.frz h
  have hz : p ∉ Z := fun m => (ok.z p m).1.ne h (frz_free e) rfl
  have at_ : ∀ {o : HO}, H p = some o → bs Z H (W.del p) p = some o := fun {o} e => by
    unfold bs
    rw [Wd.delSame, if_neg (by simp [hz])]
    exact e
  have hc := ok.c _ _ _ h
  cases c with
  | lst ds =>
    cases e
    obtain ⟨vs, h1, h2⟩ := hc
    exact .lst (at_ h1) (h2.mono bx dt)
  | dic ds =>
    cases e
    obtain ⟨vs, h1, h2⟩ := hc
    exact .dic (.inl (at_ h1)) (h2.mono bx dt)
  | ins C ds =>
    cases e
    obtain ⟨dx, vs, h1, h2⟩ := hc
    exact .obj (at_ h1) (h2.mono bx dt)
  | bag n => cases e
  | ldic n => cases e
  | tbl n => cases e
theorem dm_del {w0 : Wd} (dm : Dm w0 W) (h : w0 p = none) : Dm w0 (W.del p) := fun a f c e => by
  have n : a ≠ p := fun z => by
    rw [z, h] at e
    cases e
  obtain ⟨c', e'⟩ := dm a f c e
  exact ⟨c', by rw [Wd.delNe n]; exact e'⟩
/-- ahead of a statement -/
def subO (p : Addr) (d : D) : Option D → Option D
  | some (.own q) => if q = p then some d else some (.own q)
  | some (.otp ps) => if p ∈ ps then none else some (.otp ps)
  | x => x
end
abbrev XK2 := Addr → List (Str × D) → Wd → Prop
abbrev Sp2 := List D → Wd → DK → XK2 → Prop
abbrev CoA (K : PySem.W.Frag) (Z : List Addr) (H : Hp) (W : Wd) (Q2 : DK) (Q : VK) : Prop := Co K Z H W Q2 Q
def CoX (K : PySem.W.Frag) (Z : List Addr) (H : Hp) (W : Wd) (E2 : XK2) (E : XK) : Prop := ∀ C fs W' H' dd vs, E2 C fs W' → Grow Z H W H' W' → WOk K Z H' W' → bs Z H' W' dd = some (.xd vs) → AtF K (bs Z H' W') W' vs fs → E (.ref C) (some dd) H'
def spL (K : PySem.W.Frag) (F : Sp2) : Sp := fun vs H Q E => ∃ Z ds W Q2 E2, WOk K Z H W ∧ AtL K (bs Z H W) W vs ds ∧ F ds W Q2 E2 ∧ CoA K Z H W Q2 Q ∧ CoX K Z H W E2 E
/-- what is returned -/
def rtf (w0 : Wd) (Q : DK) : DK := fun d W => match d with
  | .own p => (∃ c d', W p = some (false, c) ∧ w0 p = none ∧ frzC c = some d' ∧ Q d' (W.del p)) ∨ Q (.own p) W
  | d => Q d W
def start2 (N : List Str) (ds : List D) : En := ds.map some ++ List.replicate (N.length - ds.length) none
def phiX (K : PySem.W.Frag) (w0 : Wd) (E2 : XK2) (E : XK) : Phi where
  w0 := w0
  p := fun Z H W => ∀ C fs W' H' dd vs, E2 C fs W' → Bx (bs Z H W) (bs Z H' W') → Dt W W' → (∀ a ∈ Z, H' a = H a) → Dm w0 W' → WOk K Z H' W' → bs Z H' W' dd = some (.xd vs) → AtF K (bs Z H' W') W' vs fs → E (.ref C) (some dd) H'
  st := fun Z H W H' W' h bx dt hz dm C fs W2 H2 dd vs e b t z m ok a l => h C fs W2 H2 dd vs e (bx.trans b) (dt.trans t) (fun x hx => (z x hx).trans (hz x hx)) m ok a l
section
variable {K : PySem.W.Frag} {φ : Phi} {Z Z' : List Addr} {W W' W1 : Wd} {H H' H1 : Hp} {T : T2} {As : A2} {σ : L2.St} {env : En} {v : V} {d : D} {i : Nat} {p : Addr} {c : Cell} {F : Sp2} {E : XK} {Ex E2 : XK2} {Q : VK} {Q2 : DK}
/-- what a call may let out fits -/
def XOk (K : PySem.W.Frag) (φ : Phi) (Ex : XK2) (E : XK) : Prop := ∀ Z H W, φ.p Z H W → Dm φ.w0 W → CoX K Z H W Ex E
theorem xok_x {w0 : Wd} : XOk K (phiX K w0 E2 E) E2 E := fun Z H W h m C fs W' H' dd vs e g ok a l => h C fs W' H' dd vs e g.bx g.dm.dt g.hid (Dm.trans m g.dm) ok a l
theorem xok_0 : XOk K φ (fun _ _ _ => False) E := fun Z H W h m C fs W' H' dd vs e g ok a l => e.elim
theorem Co.a (c : Co K Z H W Q2 Q) : CoA K Z H W Q2 Q := c
theorem atL_get {vs : List V} {ds : List D} {B : Hp} (l : AtL K B W vs ds) (N : List Str) : ∀ (i : Nat) (d : D), (start2 N ds)[i]? = some (some d) → ∃ v, (start N vs)[i]? = some (some v) ∧ At K B W v d := fun i d h => by
  unfold start2 at h
  unfold L2.start
  by_cases hi : i < ds.length
  · rw [List.getElem?_append_left (by rw [List.length_map]; exact hi), List.getElem?_map] at h
    rw [List.getElem?_append_left (by rw [List.length_map, l.len]; exact hi), List.getElem?_map]
    cases e : ds[i]? with
    | none => rw [e] at h; cases h
    | some x =>
      rw [e] at h
      cases h
      obtain ⟨v, h1, h2⟩ := l.get (i := i) _ e
      exact ⟨v, by rw [h1]; rfl, h2⟩
  · rw [List.getElem?_append_right (by rw [List.length_map]; omega), List.getElem?_replicate] at h
    split at h <;> cases h
theorem start_len {vs : List V} {ds : List D} {N : List Str} (h : vs.length = ds.length) : (start N vs).length = (start2 N ds).length := by
  unfold L2.start start2
  simp [h]
/-- a def's body -/
theorem body_x {N : List Str} {vs : List V} {ds : List D} {S : S2} (ok : WOk K Z H W) (a : AtL K (bs Z H W) W vs ds) (ca : CoA K Z H W Q2 Q) (cx : CoX K Z H W E2 E)
    (s : S { nx := fun _ W' => Q2 .non W', rt := rtf W Q2 } (start2 N ds) W) : LS K (phiX K W E2 E) S { nx := fun _ H' => Q .non H', rt := Q } (start N vs) H := by
  refine ⟨Z, start2 N ds, W, _, ⟨ok, start_len a.len, fun i d h => ?_, .refl, fun C fs W' H' dd vs e b t z m ok' at' l => cx C fs W' H' dd vs e ⟨b, m, z⟩ ok' at' l⟩, s, fun e' W' σ' H' q b t z r => ?_, fun _ _ _ _ q => q.elim, fun _ _ _ _ q => q.elim, fun d W' v H' q b t z m ok' s' => ?_⟩
  · obtain ⟨v, h1, h2⟩ := atL_get a N i d h
    exact ⟨v, h1, .of h2⟩
  · exact ca .non W' .non H' q ⟨b, r.dm, z⟩ r.ok (At.non (K := K))
  · cases d <;> first | exact ca _ W' v H' q ⟨b, m, z⟩ ok' s' | skip
    rcases q with ⟨c, d', h1, h2, h3, h4⟩ | q
    · obtain ⟨rfl, _⟩ := s'
      obtain ⟨bx, dt, ok2⟩ := ok'.frz h1
      exact ca d' _ _ H' h4 ⟨b.trans bx, dm_del m h2, z⟩ ok2 (.of (frz_at ok' h1 h3))
    · exact ca _ W' v H' q ⟨b, m, z⟩ ok' s'
/-- calls -/
def t2Call (F : Sp2) (Ex : XK2) (As : A2) : T2 := fun env W Q => As env W fun ds W1 => PlL ds ∧ F ds W1 Q Ex
def SpIs (K : PySem.W.Frag) (sp : Sp) (F : Sp2) : Prop := ∀ vs H Q E, spL K F vs H Q E → sp vs H Q E
theorem spIs : SpIs K (spL K F) F := fun _ _ _ _ h => h
theorem i_call {sp : Sp} (l : SpIs K sp F) (hx : XOk K φ Ex E) : ∀ σ H Q, LE K φ (t2Call F Ex As) σ H Q → tCall sp [] E (LA K φ As) σ H Q := fun σ H Q ⟨Z, env, W, Q2, R, t, co⟩ =>
  ⟨Z, env, W, _, R, t, fun ds W1 vs H1 ⟨pl, f⟩ g ok l1 => by
    dsimp only
    rw [List.append_nil]
    exact l _ _ _ _ ⟨Z, ds, W1, _, _, ok, svL l1 pl, f, (co.step g).a, hx Z H1 W1 (R.grow g ok).ph (R.grow g ok).dm⟩⟩
/-- .. with keywords and defaults -/
def t2CallZ (n m : Nat) (F : Sp2) (dd : List D) (idx : List Nat) (Ex : XK2) (As Ks : A2) : T2 := fun env W Q => As env W fun ds W1 => Ks env W1 fun es W2 => PlL ds ∧ PlL es ∧ ds.length = n ∧ es.length = m ∧ F (pick idx (ds ++ dd ++ es)) W2 Q Ex
def t2Fld (C : Addr) (f : Str) (T : T2) : T2 := fun env W Q => T env W fun o W1 => ∃ fs d, vw W1 o = .obj C fs ∧ fs.lookup f = some d ∧ Q d W1
theorem AtF.look {B : Hp} {f : Str} : ∀ {vs : List (Str × V)} {ds : List (Str × D)}, AtF K B W vs ds → ∀ d, ds.lookup f = some d → ∃ v, vs.lookup f = some v ∧ At K B W v d
  | _, _, .nil, d, h => by cases h
  | _, _, .cons (k := k) (v := v) (d := d0) a l, d, h => by
    rw [List.lookup_cons] at h ⊢
    by_cases e : (f == k) = true
    · rw [e] at h ⊢
      cases h
      exact ⟨v, rfl, a⟩
    · rw [Bool.not_eq_true] at e
      rw [e] at h ⊢
      exact AtF.look l d h
theorem AtF.none {B : Hp} {f : Str} : ∀ {vs : List (Str × V)} {ds : List (Str × D)}, AtF K B W vs ds → ds.lookup f = none → vs.lookup f = none
  | _, _, .nil, _ => rfl
  | _, _, .cons (k := k) a l, h => by
    rw [List.lookup_cons] at h ⊢
    by_cases e : (f == k) = true
    · rw [e] at h
      cases h
    · rw [Bool.not_eq_true] at e
      rw [e] at h ⊢
      exact AtF.none l h
theorem i_fld {C : Addr} {f : Str} (c : Cls K C) (n : NoAttr K C f) : ∀ σ H Q, LE K φ (t2Fld C f T) σ H Q → tFld K (LE K φ T) f σ H Q := fun σ H Q ⟨Z, env, W, Q2, R, t, co⟩ =>
  ⟨Z, env, W, _, R, t, fun o W1 v H1 ⟨fs, d, e, hl, q⟩ g ok s => by
    obtain ⟨p, dx, vs, rfl, e1, e2⟩ := s.obj ok e
    obtain ⟨x, h1, h2⟩ := e2.look d hl
    exact ⟨p, C, dx, vs, x, rfl, e1, c, n, h1, (co.step g).now q ok (.of h2)⟩⟩
def putF2 (f : Str) (v : D) : List (Str × D) → List (Str × D)
  | [] => [(f, v)]
  | (g, x) :: r => if g = f then (g, v) :: r else (g, x) :: putF2 f v r
theorem AtF.putF {B : Hp} {f : Str} {v : V} {d : D} (h : At K B W v d) : ∀ {vs : List (Str × V)} {ds : List (Str × D)}, AtF K B W vs ds → AtF K B W (putF f v vs) (putF2 f d ds)
  | _, _, .nil => .cons h .nil
  | _, _, .cons (k := k) a l => by
    unfold L2.putF putF2
    by_cases e : k = f
    · rw [if_pos e, if_pos e]
      exact .cons h l
    · rw [if_neg e, if_neg e]
      exact .cons a (AtF.putF h l)
theorem AtF.len {B : Hp} : ∀ {vs : List (Str × V)} {ds : List (Str × D)}, AtF K B W vs ds → vs.length = ds.length
  | _, _, .nil => rfl
  | _, _, .cons _ l => by simp [AtF.len l]
/-- o.f = e, o a cell -/
def s2Fld (C : Addr) (f : Str) (To Tv : T2) : S2 := fun E env W => Tv env W fun d W1 => To env W1 fun o W2 => ∃ p fl fs, (o = .own p ∨ o = .cel p) ∧ W2 p = some (fl, .ins C fs) ∧ Pl d ∧ fs.length < 1000 ∧ E.nx env (W2.set p fl (.ins C (putF2 f d fs)))
theorem i_sfld {C : Addr} {f : Str} {To : T2} (c : Cls K C) (n : NoAttr K C f) : ∀ D σ H, LS K φ (s2Fld C f To T) D σ H → sFld K (LE K φ To) (LE K φ T) f D σ H := fun D σ H ⟨Z, env, W, E2, R, t, co⟩ =>
  ⟨Z, env, W, _, R, t, fun d W1 y H1 q1 g1 ok1 s1 => ⟨Z, env, W1, _, R.grow g1 ok1, q1, fun o W2 x H2 ⟨p, fl, fs, ho, hp, pl, hl, q⟩ g2 ok2 s2 => by
    have ex : x = .ref p := by
      rcases ho with rfl | rfl
      · exact s2.1
      · cases (show At K _ _ x _ from s2)
        rfl
    subst ex
    obtain ⟨dx, vs, e1, e2⟩ := ok2.c _ _ _ hp
    have hy := (s1.grow g2).at pl
    have hc : CellOk K Z (upd H2 p (.ins C dx (putF f y vs))) (W2.set p fl (.ins C (putF2 f d fs))) p (.ins C (putF2 f d fs)) := ⟨dx, _, upd_same, AtF.put (e2.putF hy) hp⟩
    obtain ⟨g3, ok3⟩ := ok2.put hp hc
    have g := (g1.trans g2).trans g3
    exact ⟨p, C, dx, vs, rfl, e1, c, n, by rw [e2.len]; exact hl, co.nx env _ σ _ q g.bx g.dm.dt g.hid (R.grow g ok3)⟩⟩⟩
/-- o.m(..) -/
def t2Meth (C : Addr) (m : Str) (F : Sp2) (Ex : XK2) (T : T2) (As : A2) : T2 := fun env W Q => T env W fun o W1 => ∃ fs, vw W1 o = .obj C fs ∧ fs.lookup m = none ∧ As env W1 fun ds W2 => Pl o ∧ PlL ds ∧ F (o :: ds) W2 Q Ex
theorem i_meth {C : Addr} {m : Str} {sp : Sp} (l : SpIs K sp F) (hx : XOk K φ Ex E) : ∀ σ H Q, LE K φ (t2Meth C m F Ex T As) σ H Q → tMeth C m sp [] E (LE K φ T) (LA K φ As) σ H Q := fun σ H Q ⟨Z, env, W, Q2, R, t, co⟩ =>
  ⟨Z, env, W, _, R, t, fun o W1 x H1 ⟨fs, e, hl, q⟩ g ok s => by
    obtain ⟨p, dx, vs, rfl, e1, e2⟩ := s.obj ok e
    refine ⟨p, dx, vs, rfl, e1, e2.none hl, Z, env, W1, _, R.grow g ok, q, fun ds W2 ws H2 ⟨po, pl, f⟩ g2 ok2 l1 => ?_⟩
    dsimp only
    rw [List.append_nil]
    exact l _ _ _ _ ⟨Z, _, W2, _, _, ok2, .cons ((s.grow g2).at po) (svL l1 pl), f, (co.step (g.trans g2)).a, hx Z H2 W2 (R.grow (g.trans g2) ok2).ph (R.grow (g.trans g2) ok2).dm⟩⟩
/-- o.f, a property -/
def t2Prop (C : Addr) (F : Sp2) (Ex : XK2) (T : T2) : T2 := fun env W Q => T env W fun o W1 => ∃ fs, vw W1 o = .obj C fs ∧ Pl o ∧ F [o] W1 Q Ex
theorem i_prop {C : Addr} {sp : Sp} (l : SpIs K sp F) (hx : XOk K φ Ex E) : ∀ σ H Q, LE K φ (t2Prop C F Ex T) σ H Q → tProp C sp [] E (LE K φ T) σ H Q := fun σ H Q ⟨Z, env, W, Q2, R, t, co⟩ =>
  ⟨Z, env, W, _, R, t, fun o W1 x H1 ⟨fs, e, po, f⟩ g ok s => by
    obtain ⟨p, dx, vs, rfl, e1, e2⟩ := s.obj ok e
    exact ⟨p, dx, vs, rfl, e1, l _ _ _ _ ⟨Z, _, W1, _, _, ok, .cons (s.at po) .nil, f, (co.step g).a, hx Z H1 W1 (R.grow g ok).ph (R.grow g ok).dm⟩⟩⟩
/-- C.m(..), a classmethod -/
def t2CMeth (C : Addr) (F : Sp2) (Ex : XK2) (T : T2) (As : A2) : T2 := fun env W Q => T env W fun o W1 => o = .fn C ∧ As env W1 fun ds W2 => PlL ds ∧ F (.fn C :: ds) W2 Q Ex
theorem i_cmeth {C : Addr} {sp : Sp} (l : SpIs K sp F) (hx : XOk K φ Ex E) : ∀ σ H Q, LE K φ (t2CMeth C F Ex T As) σ H Q → ClX.tCMeth C sp E (LE K φ T) (LA K φ As) σ H Q := fun σ H Q ⟨Z, env, W, Q2, R, t, co⟩ =>
  ⟨Z, env, W, _, R, t, fun o W1 x H1 ⟨eo, q⟩ g ok s => by
    subst eo
    cases (show At K _ _ x _ from s)
    exact ⟨rfl, Z, env, W1, _, R.grow g ok, q, fun ds W2 ws H2 ⟨pl, f⟩ g2 ok2 l1 => l _ _ _ _ ⟨Z, _, W2, _, _, ok2, .cons (.fn C) (svL l1 pl), f, (co.step (g.trans g2)).a, hx Z H2 W2 (R.grow (g.trans g2) ok2).ph (R.grow (g.trans g2) ok2).dm⟩⟩⟩
end
end Fr
set_option Elab.async false
set_option linter.all false
set_option maxRecDepth 100000
set_option maxHeartbeats 4000000
namespace Fr
open PySem PySem.Spec PyProof.Rows L2
abbrev Fi2 := List D → Wd → (List (Str × D) → Wd → Prop) → XK2 → Prop
def spI (K : PySem.W.Frag) (C : Addr) (F : Fi2) : Sp := fun vs H Q E => ∃ Z x vs' ds W Q2 E2, vs = .ref x :: vs' ∧ W x = none ∧ WOk K Z H (W.set x false (.ins C [])) ∧ AtL K (bs Z H (W.set x false (.ins C []))) (W.set x false (.ins C [])) vs' ds ∧ F ds W Q2 E2 ∧
  (∀ fs W' H', Q2 fs W' → W' x = none → Grow Z H (W.set x false (.ins C [])) H' (W'.set x false (.ins C fs)) → WOk K Z H' (W'.set x false (.ins C fs)) → Q .non H') ∧ CoX K Z H (W.set x false (.ins C [])) (fun Ce fs W' => E2 Ce fs (W'.del x)) E
theorem Wd.setDel {W : Wd} {x : Addr} {f : Bool} {c : Cell} (h : W x = none) : (W.set x f c).del x = W := by
  funext a
  unfold Wd.del Wd.set
  by_cases e : a = x
  · rw [if_pos e, e, h]
  · rw [if_neg e, if_neg e]
section
variable {K : PySem.W.Frag} {φ : Phi} {Z Z' : List Addr} {W W' W1 : Wd} {H H' H1 : Hp} {T Ta Tb : T2} {As : A2} {σ : L2.St} {env : En} {v : V} {d : D} {i : Nat} {p : Addr} {E : XK} {Ex E2 : XK2} {Q : VK}
theorem body_i {N : List Str} {C x : Addr} {vs : List V} {ds : List D} {S : S2} {Q2 : List (Str × D) → Wd → Prop} (hx : W x = none) (ok : WOk K Z H (W.set x false (.ins C []))) (a : AtL K (bs Z H (W.set x false (.ins C []))) (W.set x false (.ins C [])) vs ds)
    (ca : ∀ fs W' H', Q2 fs W' → W' x = none → Grow Z H (W.set x false (.ins C [])) H' (W'.set x false (.ins C fs)) → WOk K Z H' (W'.set x false (.ins C fs)) → Q .non H') (cx : CoX K Z H (W.set x false (.ins C [])) (fun Ce fs W' => E2 Ce fs (W'.del x)) E)
    (s : S { nx := fun _ W2 => ∃ fs W', W2 = W'.set x false (.ins C fs) ∧ W' x = none ∧ Q2 fs W', rt := fun d W2 => d = .non ∧ ∃ fs W', W2 = W'.set x false (.ins C fs) ∧ W' x = none ∧ Q2 fs W' } (start2 N (.own x :: ds)) (W.set x false (.ins C []))) :
    LS K (phiX K (W.set x false (.ins C [])) (fun Ce fs W' => E2 Ce fs (W'.del x)) E) S { nx := fun _ H' => Q .non H', rt := Q } (start N (.ref x :: vs)) H := by
  refine ⟨Z, _, _, _, ⟨ok, start_len (by simp [a.len]), fun i d h => ?_, .refl, fun C fs W' H' dd vs e b t z m ok' at' l => cx C fs W' H' dd vs e ⟨b, m, z⟩ ok' at' l⟩, s, fun e' W' σ' H' q b t z r => ?_, fun _ _ _ _ q => q.elim, fun _ _ _ _ q => q.elim, fun d W' v H' q b t z m ok' s' => ?_⟩
  · cases i with
    | zero =>
      have h : some (some (D.own x)) = some (some d) := h
      cases h
      exact ⟨.ref x, rfl, rfl, _, Wd.same⟩
    | succ i =>
      have l := AtL.cons (At.non (K := K) (B := bs Z H (W.set x false (.ins C []))) (W := W.set x false (.ins C []))) a
      have h2 : (start2 N (D.non :: ds))[i + 1]? = some (some d) := by
        unfold start2 at h ⊢
        simpa using h
      obtain ⟨v, h3, h4⟩ := atL_get l N (i + 1) d h2
      refine ⟨v, ?_, .of h4⟩
      unfold L2.start at h3 ⊢
      simpa using h3
  · obtain ⟨fs, W2, rfl, h2, q⟩ := q
    exact ca fs W2 H' q h2 ⟨b, r.dm, z⟩ r.ok
  · obtain ⟨rfl, fs, W2, rfl, h2, q⟩ := q
    cases (show At K _ _ v _ from s')
    exact ca fs W2 H' q h2 ⟨b, m, z⟩ ok'
def t2Make (C : Addr) (F : Fi2) (Ex : XK2) (As : A2) : T2 := fun env W Q => As env W fun ds W1 => PlL ds ∧ F ds W1 (fun fs W2 => Q (.obj C fs) W2) Ex
def SpIsI (K : PySem.W.Frag) (C : Addr) (sp : Sp) (F : Fi2) : Prop := ∀ vs H Q E, spI K C F vs H Q E → sp vs H Q E
theorem make_go {C x dx : Addr} {F : Fi2} {sp : Sp} (l : SpIsI K C sp F) (hx : CoX K Z H W Ex E) (ok : WOk K Z H W) {vs : List V} {ds : List D} {Q2 : DK} (a : AtL K (bs Z H W) W vs ds) (f : F ds W (fun fs W2 => Q2 (.obj C fs) W2) Ex) (co : Co K Z H W Q2 Q) (h1 : H x = none) (h2 : H dx = none) (n : dx ≠ x) :
    sp (.ref x :: vs) (upd (upd H dx (.own x)) x (.ins C dx [])) (fun v H2 => v = .non ∧ Q (.ref x) H2) E := by
  obtain ⟨g1, ok1⟩ := ok.new (o := .own x) h2
  have hx1 : upd H dx (.own x) x = none := by rw [upd_ne (Ne.symm n)]; exact h1
  obtain ⟨g2, ok2⟩ := ok1.cell (o := .ins C dx []) (f := false) (c := .ins C []) hx1 ⟨dx, [], upd_same, .nil⟩
  have g := g1.trans g2
  have wx := ok.free h1
  refine l _ _ _ _ ⟨Z, x, vs, ds, W, _, _, rfl, wx, ok2, a.grow g, f, fun fs W' H' q hw g3 ok3 => ⟨rfl, ?_⟩, fun Ce fs W' H' dd ws e g3 ok3 at' l' => ?_⟩
  · obtain ⟨bx, dt, ok4⟩ := ok3.frz Wd.same
    have at4 := frz_at ok3 Wd.same (show frzC (.ins C fs) = some (.obj C fs) from rfl)
    rw [Wd.setDel hw] at bx dt ok4 at4
    have g5 := g.trans g3
    refine co (.obj C fs) W' _ H' q ⟨g5.bx.trans bx, fun b f c e => ?_, g5.hid⟩ ok4 (.of at4)
    obtain ⟨c', e'⟩ := g5.dm b f c e
    have nb : b ≠ x := fun z => by
      rw [z, wx] at e
      cases e
    rw [Wd.ne nb] at e'
    exact ⟨c', e'⟩
  · obtain ⟨c', e'⟩ := g3.dm x false _ Wd.same
    obtain ⟨bx, dt, ok4⟩ := ok3.frz e'
    have g5 := g.trans g3
    refine hx Ce fs (W'.del x) H' dd ws e ⟨g5.bx.trans bx, fun b f c e => ?_, g5.hid⟩ ok4 (bx.eq _ _ rfl at') (l'.mono bx dt)
    obtain ⟨c', e'⟩ := g5.dm b f c e
    have nb : b ≠ x := fun z => by
      rw [z, wx] at e
      cases e
    exact ⟨c', by rw [Wd.delNe nb]; exact e'⟩
theorem i_make {C : Addr} {F : Fi2} {sp : Sp} (l : SpIsI K C sp F) (hx : XOk K φ Ex E) : ∀ σ H Q, LE K φ (t2Make C F Ex As) σ H Q → StX.tMakeR C sp E (LA K φ As) σ H Q := fun σ H Q ⟨Z, env, W, Q2, R, t, co⟩ =>
  ⟨Z, env, W, _, R, t, fun ds W1 vs H1 ⟨pl, f⟩ g ok l1 => fun x dx h1 h2 n => make_go l (hx Z H1 W1 (R.grow g ok).ph (R.grow g ok).dm) ok (svL l1 pl) f (co.step g) h1 h2 n⟩
theorem spIsI_D {C : Addr} {F : Fi2} {dv : List V} {dd : List D} (hd : sDs dv = some dd) : SpIsI K C (spD dv (spI K C F)) (fun ds W Q E => F (ds ++ dd) W Q E) := fun vs H Q E ⟨Z, x, vs', ds, W, Q2, E2, e, hx, ok, a, f, ca, cx⟩ => by
  subst e
  exact ⟨Z, x, vs' ++ dv, ds ++ dd, W, Q2, E2, rfl, hx, ok, a.app (atL_s hd), f, ca, cx⟩
def r2IxL : R22 := fun a b W Q => ∃ ds i d, vw W a = .lst ds ∧ b = .int i ∧ atI ds i = some d ∧ Q d W
theorem l_ixL : L22 K (rIxL K) r2IxL := fun Z x y a b H W Q Q2 ok s1 s2 ⟨ds, i, d, e, e2, h, q⟩ co => by
  subst e2
  cases (show At K _ _ y _ from s2)
  obtain ⟨p, vs, rfl, e1, l⟩ := s1.lst ok e
  obtain ⟨v, h1, h2⟩ := l.at h
  exact ⟨p, vs, i, v, rfl, rfl, SqL.of e1, h1, co.now q ok (.of h2)⟩
def r2IxT : R22 := fun a b W Q => ∃ ds i d, a = .tup ds ∧ b = .int i ∧ atI ds i = some d ∧ Q d W
theorem l_ixT : L22 K (rIxT K) r2IxT := fun Z x y a b H W Q Q2 ok s1 s2 ⟨ds, i, d, e, e2, h, q⟩ co => by
  subst e e2
  cases (show At K _ _ y _ from s2)
  obtain ⟨p, vs, rfl, e1, l⟩ := s1.tup
  obtain ⟨v, h1, h2⟩ := l.at h
  exact ⟨p, vs, i, v, rfl, rfl, e1, h1, co.now q ok (.of h2)⟩
theorem atI_map {α β : Type} {f : α → β} {xs : List α} {i : Int} {x : α} (h : atI xs i = some x) : atI (xs.map f) i = some (f x) := by
  unfold atI at h ⊢
  rw [List.length_map]
  cases e : ixN xs.length i with
  | none => rw [e] at h; cases h
  | some j =>
    rw [e] at h
    show (xs.map f)[j]? = _
    rw [List.getElem?_map, show xs[j]? = some x from h]
    rfl
theorem AtL.dropT {vs : List V} {ds : List D} {B : Hp} (l : AtL K B W vs ds) : ∀ n, AtL K B W (vs.drop n) (ds.drop n)
  | 0 => l
  | n + 1 => by
    cases l with
    | nil => exact .nil
    | cons a l => exact l.dropT n
theorem AtL.takeT {vs : List V} {ds : List D} {B : Hp} (l : AtL K B W vs ds) : ∀ n, AtL K B W (vs.take n) (ds.take n)
  | 0 => .nil
  | n + 1 => by
    cases l with
    | nil => exact .nil
    | cons a l => exact .cons a (l.takeT n)
def cutD (xs : List D) (lo hi : Option Int) : List D := (xs.drop (HT.sIx xs.length 0 lo)).take (HT.sIx xs.length xs.length hi - HT.sIx xs.length 0 lo)
theorem AtL.cut {vs : List V} {ds : List D} {B : Hp} (l : AtL K B W vs ds) (lo hi : Option Int) : AtL K B W (cutV vs lo hi) (cutD ds lo hi) := by
  unfold cutV cutD
  rw [l.len]
  exact (l.dropT _).takeT _
abbrev O2 := En → Wd → (Option Int → Wd → Prop) → Prop
def LO (K : PySem.W.Frag) (φ : Phi) (T : O2) : TO := fun σ H Q => ∃ Z env W Q2, Rel K φ Z σ H env W ∧ T env W Q2 ∧ ∀ o W' H', Q2 o W' → Grow Z H W H' W' → WOk K Z H' W' → Q o H'
def o2No : O2 := fun _ W Q => Q none W
theorem _root_.L2.PO.im {X : Cx} {e : Option Expr} {t t' : TO} (h : PO X e t) (f : ∀ σ H Q, t' σ H Q → t σ H Q) : PO X e t' := ⟨fun pins s σ H Q I q => h.run pins s σ H Q I (f σ H Q q)⟩
def o2Part (T : T2) : O2 := fun env W Q => T env W fun d W1 => ∃ i, d = .int i ∧ Q (some i) W1
abbrev R2S := D → Option Int → Option Int → Wd → DK → Prop
def t2Sl (r2 : R2S) (T : T2) (Ol Oh : O2) : T2 := fun env W Q => T env W fun a W1 => Ol env W1 fun lo W2 => Oh env W2 fun hi W3 => r2 a lo hi W3 Q
def r2Cat : R22 := fun a b W Q => ∃ ds es, vw W a = .lst ds ∧ vw W b = .lst es ∧ ds.length + es.length ≤ 1000000 ∧ Q (.lst (ds ++ es)) W
theorem l_cat : L22 K rCat r2Cat := fun Z x y a b H W Q Q2 ok s1 s2 ⟨ds, es, e1, e2, hl, q⟩ co => by
  obtain ⟨p, vs, rfl, h1, l1⟩ := s1.lst ok e1
  obtain ⟨p2, ws, rfl, h2, l2⟩ := s2.lst ok e2
  exact ⟨p, p2, vs, ws, rfl, rfl, h1, h2, le_line (by rw [l1.len, l2.len]; omega), fun p3 hp => co.new q ok hp fun H' g e => .lst e ((l1.app l2).grow g)⟩
def r2Len : R2L := fun ds W Q => ∃ a, ds = [a] ∧ ((∃ es, vw W a = .lst es ∧ Q (.int es.length) W) ∨ (∃ es, a = .tup es ∧ Q (.int es.length) W) ∨ ∃ ns, a = .scr ns ∧ Q (.int ns.length) W)
theorem l_len : L2L K (fun xs H Q => ∃ p ys, xs = [.ref p] ∧ (SqL K H p ys ∨ SqT K H p ys) ∧ Q (.int ys.length) H) r2Len := fun Z vs ds H W Q Q2 ok l ⟨a, e, h⟩ co => by
  subst e
  cases l with
  | cons s l =>
    cases l
    rcases h with ⟨es, e, q⟩ | ⟨es, e, q⟩ | ⟨ns, e, q⟩
    · obtain ⟨p, vs, rfl, h1, l1⟩ := s.lst ok e
      exact ⟨p, vs, rfl, .inl (SqL.of h1), by rw [l1.len]; exact co.now q ok (.ofS rfl)⟩
    · subst e
      obtain ⟨p, vs, rfl, h1, l1⟩ := s.tup
      exact ⟨p, vs, rfl, .inr h1, by rw [l1.len]; exact co.now q ok (.ofS rfl)⟩
    · subst e
      obtain ⟨p, rfl, h1⟩ := s.scr
      exact ⟨p, _, rfl, .inl h1, by rw [List.length_map]; exact co.now q ok (.ofS rfl)⟩
end
end Fr
set_option Elab.async false
set_option linter.all false
set_option maxRecDepth 100000
set_option maxHeartbeats 4000000
namespace Fr
open PySem PySem.Spec PyProof.Rows L2
mutual
inductive Py : Nat → D → PyData → Prop
  | non {n : Nat} : Py n .non .none
  | bl {n : Nat} (b : Bool) : Py n (.bl b) (.bool b)
  | int {n : Nat} (i : Int) : Py n (.int i) (.int i)
  | str {n : Nat} {s : Str} : Asc s → Py n (.str s) (.str s)
  | lst {n : Nat} {ds : List D} {ps : List PyData} : PyL n ds ps → Py (n + 1) (.lst ds) (.list ps)
  | tup {n : Nat} {ds : List D} {ps : List PyData} : PyL n ds ps → Py (n + 1) (.tup ds) (.tuple ps)
inductive PyL : Nat → List D → List PyData → Prop
  | nil {n : Nat} : PyL n [] []
  | cons {n : Nat} {d : D} {ds : List D} {p : PyData} {ps : List PyData} : Py n d p → PyL n ds ps → PyL n (d :: ds) (p :: ps)
end
mutual
theorem Py.ok {n : Nat} {d : D} {p : PyData} (h : Py n d p) : p.canLay0 = true ∧ p.depth ≤ n := by
  cases h with
  | non => exact ⟨rfl, by simp [PyData.depth]⟩
  | bl b => exact ⟨rfl, by simp [PyData.depth]⟩
  | int i => exact ⟨rfl, by simp [PyData.depth]⟩
  | str h => exact ⟨by simp [PyData.canLay0, h.ok], by simp [PyData.depth]⟩
  | lst l =>
    obtain ⟨a, b⟩ := PyL.ok l
    exact ⟨by simp [PyData.canLay0, a], by simp only [PyData.depth]; omega⟩
  | tup l =>
    obtain ⟨a, b⟩ := PyL.ok l
    exact ⟨by simp [PyData.canLay0, a], by simp only [PyData.depth]; omega⟩
theorem PyL.ok {n : Nat} {d : List D} {p : List PyData} (h : PyL n d p) : PyData.canLayAll0 p = true ∧ PyData.depthAll p ≤ n := by
  cases h with
  | nil => exact ⟨rfl, by simp [PyData.depthAll]⟩
  | cons a l =>
    obtain ⟨a1, a2⟩ := Py.ok a
    obtain ⟨b1, b2⟩ := PyL.ok l
    exact ⟨by simp [PyData.canLayAll0, a1, b1], by simp only [PyData.depthAll]; omega⟩
end
theorem Py.shaped {n : Nat} {d : D} {p : PyData} (h : Py n d p) (hn : n ≤ 64) : SeqAt.shaped p = true := by
  unfold SeqAt.shaped
  rw [h.ok.1, decide_eq_true (Nat.le_trans h.ok.2 hn)]
  rfl
section
variable {K : PySem.W.Frag} {φ : Phi} {Z Z' : List Addr} {W W' W1 : Wd} {H H' H1 : Hp} {T Ta Tb Tc : T2} {As : A2} {σ : L2.St} {env : En} {v : V} {d : D} {i : Nat} {p : Addr} {E : XK} {Ex E2 : XK2} {Q : VK}
mutual
theorem Py.dp {n : Nat} {d : D} {p : PyData} (h : Py n d p) {v : V} (a : At K (bs Z H W) W v d) : Dp K H v p := by
  cases h with
  | non => cases a; exact .non
  | bl b => cases a; exact .bl b
  | int i => cases a; exact .int i
  | str h => cases a; exact .str _
  | lst l => cases a with | lst s m => exact .lst (SqL.of (bs_le s)) (PyL.dp l m)
  | tup l => cases a with | tup s m => exact .tup (sqT_up s) (PyL.dp l m)
theorem PyL.dp {n : Nat} {d : List D} {p : List PyData} (h : PyL n d p) {v : List V} (a : AtL K (bs Z H W) W v d) : DpAll K H v p := by
  cases h with
  | nil => cases a; exact .nil
  | cons b l => cases a with | cons x m => exact .cons (Py.dp b x) (PyL.dp l m)
end
theorem Sv.dp {n : Nat} {a : D} {q : PyData} (s : Sv K Z H W v a) (ok : WOk K Z H W) (h : Py n (vw W a) q) : Dp K H v q := by
  cases a <;> first | exact Py.dp h s | skip
  · rename_i c
    cases (show At K _ _ v _ from s) with
    | cel hc =>
      unfold vw at h
      dsimp only at h
      rw [hc] at h
      rename_i cl
      cases cl with
      | lst ds =>
        obtain ⟨vs, h1, h2⟩ := ok.c _ _ _ hc
        cases h with | lst l => exact .lst (SqL.of h1) (PyL.dp l h2)
      | dic ds => cases h
      | ins C ds => cases h
      | bag n => cases h
      | ldic n => cases h
      | tbl n => cases h
  · rename_i c
    obtain ⟨rfl, cl, hc⟩ := s
    unfold vw at h
    dsimp only at h
    rw [hc] at h
    cases cl with
    | lst ds =>
      obtain ⟨vs, h1, h2⟩ := ok.c _ _ _ hc
      cases h with | lst l => exact .lst (SqL.of h1) (PyL.dp l h2)
    | dic ds => cases h
    | ins C ds => cases h
    | bag n => cases h
    | ldic n => cases h
    | tbl n => cases h
  · cases h
def r2EqD : R22 := fun a b W Q => ∃ n p q, n ≤ 64 ∧ Py n (vw W a) p ∧ Py n (vw W b) q ∧ Q (.bl (PyData.eqv p q)) W
theorem l_eqD : L22 K (rEqD K) r2EqD := fun Z x y a b H W Q Q2 ok s1 s2 ⟨n, p, q, hn, h1, h2, h⟩ co => ⟨p, q, s1.dp ok h1, s2.dp ok h2, h1.shaped hn, h2.shaped hn, co.now h ok (.ofS rfl)⟩
def r2In (neg : Bool) : R22 := fun a b W Q => ∃ x ds xs, sV a = some x ∧ (vw W b = .lst ds ∨ b = .tup ds) ∧ sVs ds = some xs ∧ flatV x = true ∧ xs.all flatV = true ∧ Q (.bl (if neg then !inV x xs else inV x xs)) W
theorem atL_v {B : Hp} {vs : List V} {ds : List D} (l : AtL K B W vs ds) : ∀ xs, sVs ds = some xs → vs = xs := by
  induction ds generalizing vs with
  | nil =>
    intro xs h
    cases l
    cases h
    rfl
  | cons d ds ih =>
    intro xs h
    cases l with
    | @cons v vs _ _ a l =>
      unfold sVs at h
      cases e : sV d with
      | none => rw [e] at h; cases h
      | some x =>
        cases e2 : sVs ds with
        | none => rw [e, e2] at h; cases h
        | some ys =>
          rw [e, e2] at h
          cases h
          rw [ih l _ e2]
          cases d <;> first | (cases e; done) | (cases e; cases a; rfl)
theorem l_in {neg : Bool} : L22 K (rIn K neg) (r2In neg) := fun Z x y a b H W Q Q2 ok s1 s2 ⟨x', ds, xs, e, hb, e2, f1, f2, q⟩ co => by
  cases s1.sc e
  rcases hb with hb | rfl
  · obtain ⟨p, vs, rfl, h1, l⟩ := s2.lst ok hb
    cases atL_v l xs e2
    exact ⟨p, _, rfl, .inl (SqL.of h1), f1, f2, co.now q ok (.ofS rfl)⟩
  · obtain ⟨p, vs, rfl, h1, l⟩ := s2.tup
    cases atL_v l xs e2
    exact ⟨p, _, rfl, .inr h1, f1, f2, co.now q ok (.ofS rfl)⟩
def keyD : Key → D
  | .inl i => .int i
  | .inr s => .str s
theorem sv_key {k : Key} {y : V} (s : Sv K Z H W y (keyD k)) : y = kV k := by
  cases k with
  | inl i => exact s.sc rfl
  | inr z => exact s.sc rfl
def lkD (kvs : List (Key × D)) (k : Key) : Option D := (kvs.find? fun kv => decide (kv.1 = k)).map (·.2)
def putD (kvs : List (Key × D)) (k : Key) (v : D) : List (Key × D) := if (kvs.any fun kv => decide (kv.1 = k)) = true then kvs.map (fun kv => if kv.1 = k then (kv.1, v) else kv) else kvs ++ [(k, v)]
def mergeD (kvs more : List (Key × D)) : List (Key × D) := more.foldl (fun acc kv => putD acc kv.1 kv.2) kvs
theorem AtK.val {B : Hp} {k : Key} : ∀ {vs : List (Key × V)} {ds : List (Key × D)}, AtK K B W vs ds → (lkD ds k = none ∧ valV vs k = none) ∨ ∃ d v, lkD ds k = some d ∧ valV vs k = some v ∧ At K B W v d
  | _, _, .nil => .inl ⟨rfl, rfl⟩
  | _, _, .cons (k := k0) (v := v) (d := d) a l => by
    unfold lkD valV
    rw [List.find?_cons, List.find?_cons]
    by_cases e : k0 = k
    · simp only [e, decide_true]
      exact .inr ⟨d, v, rfl, rfl, a⟩
    · simp only [e, decide_false]
      exact AtK.val l
theorem AtK.keys {B : Hp} : ∀ {vs : List (Key × V)} {ds : List (Key × D)}, AtK K B W vs ds → vs.map (·.1) = ds.map (·.1)
  | _, _, .nil => rfl
  | _, _, .cons a l => by simp [AtK.keys l]
theorem AtK.len {B : Hp} {vs : List (Key × V)} {ds : List (Key × D)} (l : AtK K B W vs ds) : vs.length = ds.length := by
  have := congrArg List.length l.keys
  simpa using this
theorem AtK.app {B : Hp} : ∀ {vs ws : List (Key × V)} {ds es : List (Key × D)}, AtK K B W vs ds → AtK K B W ws es → AtK K B W (vs ++ ws) (ds ++ es)
  | _, _, _, _, .nil, r => r
  | _, _, _, _, .cons a l, r => .cons a (AtK.app l r)
theorem AtK.putM {B : Hp} {k : Key} {v : V} {d : D} (h : At K B W v d) : ∀ {vs : List (Key × V)} {ds : List (Key × D)}, AtK K B W vs ds → AtK K B W (vs.map fun kv => if kv.1 = k then (kv.1, v) else kv) (ds.map fun kv => if kv.1 = k then (kv.1, d) else kv)
  | _, _, .nil => .nil
  | _, _, .cons (k := k0) a l => by
    rw [List.map_cons, List.map_cons]
    by_cases e : k0 = k
    · simp only [e, if_true]
      exact .cons h (AtK.putM h l)
    · simp only [e, if_false]
      exact .cons a (AtK.putM h l)
theorem AtK.any {B : Hp} {k : Key} : ∀ {vs : List (Key × V)} {ds : List (Key × D)}, AtK K B W vs ds → (vs.any fun kv => decide (kv.1 = k)) = ds.any fun kv => decide (kv.1 = k)
  | _, _, .nil => rfl
  | _, _, .cons a l => by simp [AtK.any l]
theorem AtK.putK {B : Hp} {k : Key} {v : V} {d : D} {vs : List (Key × V)} {ds : List (Key × D)} (l : AtK K B W vs ds) (h : At K B W v d) : AtK K B W (putK vs k v) (putD ds k d) := by
  unfold L2.putK putD
  rw [l.any]
  split
  · exact l.putM h
  · exact l.app (.cons h .nil)
theorem AtK.merge {B : Hp} : ∀ {ws : List (Key × V)} {es : List (Key × D)} {vs : List (Key × V)} {ds : List (Key × D)}, AtK K B W ws es → AtK K B W vs ds → AtK K B W (mergeK vs ws) (mergeD ds es)
  | _, _, _, _, .nil, l => l
  | _, _, _, _, .cons (k := k) a r, l => by
    have z := AtK.merge r (l.putK (k := k) a)
    exact z
def t2DGet (Td Ty : T2) : T2 := fun env W Q => Td env W fun a W1 => Ty env W1 fun b W2 => ∃ kvs k d, vw W2 a = .dic kvs ∧ b = keyD k ∧ lkD kvs k = some d ∧ Q d W2
def t2DIn (neg : Bool) (Ty Td : T2) : T2 := fun env W Q => Ty env W fun b W1 => Td env W1 fun a W2 => ∃ kvs k, vw W2 a = .dic kvs ∧ b = keyD k ∧ Q (.bl (if neg then !(lkD kvs k).isSome else (lkD kvs k).isSome)) W2
/-- d[k] = v, d a cell -/
def isCel (a : D) (p : Addr) : Prop := a = .own p ∨ a = .cel p ∨ a = .fn p
theorem Sv.cel {a : D} (s : Sv K Z H W v a) (h : isCel a p) : v = .ref p := by
  rcases h with rfl | rfl | rfl
  · exact s.1
  · cases (show At K _ _ v _ from s)
    rfl
  · cases (show At K _ _ v _ from s)
    rfl
def s2DPut (Td Ty Tv : T2) : S2 := fun E env W => Tv env W fun d W1 => Td env W1 fun a W2 => Ty env W2 fun b W3 => ∃ p f kvs k, isCel a p ∧ W3 p = some (f, .dic kvs) ∧ b = keyD k ∧ Pl d ∧ kvs.length < 1000000 ∧ E.nx env (W3.set p f (.dic (putD kvs k d)))
def t2DNew : T2 := fun env W Q => Q (.dic []) W
theorem sVs_strs : ∀ ks : List Str, sVs (ks.map D.str) = some (ks.map V.str)
  | [] => rfl
  | k :: ks => by
    show ((sV (.str k)).bind fun v => (sVs (ks.map D.str)).map (v :: ·)) = _
    rw [sVs_strs ks]
    rfl
end
end Fr
set_option Elab.async false
set_option linter.all false
set_option maxRecDepth 100000
set_option maxHeartbeats 4000000
namespace Fr
open PySem PySem.Spec PyProof.Rows L2
section
variable {K : PySem.W.Frag} {φ : Phi} {Z Z' : List Addr} {W W' W1 : Wd} {H H' H1 : Hp} {T Ta Tb Tc : T2} {As : A2} {σ : L2.St} {env : En} {v : V} {d : D} {i : Nat} {p : Addr} {E : XK} {Ex E2 : XK2} {Q : VK} {S : S2}
theorem lock_ok (ok : WOk K Z H W) {vs : List (Key × V)} {od : Obj} (h : bs Z H W p = some (.dK vs)) : Grow Z H W (upd H p (.frz od (.dK vs))) W ∧ WOk K Z (upd H p (.frz od (.dK vs))) W ∧ bs Z (upd H p (.frz od (.dK vs))) W p = some (.frz od (.dK vs)) := by
  have hn : p ∉ Z ∧ W p = none := by
    unfold bs at h
    by_cases e : p ∈ Z ∨ (W p).isSome = true
    · rw [if_pos e] at h; cases h
    · refine ⟨fun z => e (.inl z), ?_⟩
      cases e2 : W p with
      | none => rfl
      | some c => exact absurd (.inr (by rw [e2]; rfl)) e
  have eq : bs Z (upd H p (.frz od (.dK vs))) W = upd (bs Z H W) p (.frz od (.dK vs)) := bs_new hn.2 hn.1
  have bx : Bx (bs Z H W) (bs Z (upd H p (.frz od (.dK vs))) W) := by
    rw [eq]
    refine ⟨fun a o n e => ?_, fun a kvs e => ?_⟩
    · by_cases z : a = p
      · rw [z, h] at e
        cases e
        cases n
      · rw [upd_ne z]
        exact e
    · by_cases z : a = p
      · subst z
        rcases e with e | ⟨o, e⟩
        · rw [h] at e
          cases e
          exact .inr ⟨od, upd_same⟩
        · rw [h] at e
          cases e
      · unfold Rd
        rw [upd_ne z]
        exact e
  have ne : ∀ a ∈ Z, a ≠ p := fun a m z => hn.1 (z ▸ m)
  refine ⟨⟨bx, .refl, fun a m => upd_ne (ne a m)⟩, ⟨fun a f c e => (ok.c a f c e).to bx Dm.refl.dt (upd_ne fun z => ?_), fun a m => ⟨(ok.z a m).1, by rw [upd_ne (ne a m)]; exact (ok.z a m).2⟩, ok.t, ok.l⟩, by rw [eq]; exact upd_same⟩
  rw [z, hn.2] at e
  cases e
def a2Dic (T : T2) (f : List (Key × D) → List D) : A2 := fun env W Q => T env W fun d W1 => ∃ kvs, d = .dic kvs ∧ Q (f kvs) W1
theorem AtK.get {B : Hp} : ∀ {vs : List (Key × V)} {ds : List (Key × D)} {i : Nat} {k : Key} {v : V}, AtK K B W vs ds → vs[i]? = some (k, v) → ∃ d, ds[i]? = some (k, d) ∧ At K B W v d
  | _, _, _, _, _, .nil, h => by cases h
  | _, _, 0, _, _, .cons a l, h => by
    cases h
    exact ⟨_, rfl, a⟩
  | _, _, i + 1, _, _, .cons a l, h => AtK.get (i := i) l h
def enD (ds : List D) : List D := ds.mapIdx fun i d => .tup [.int (i : Nat), d]
def a2Enum (As : A2) : A2 := fun env W Q => As env W fun es W1 => ∃ ds, es = [.lst ds] ∧ Q (enD ds) W1
inductive TyD (K : PySem.W.Frag) (W : Wd) : D → Value → Prop
  | non : TyD K W .non (.type "NoneType")
  | bl (b : Bool) : TyD K W (.bl b) (.type "bool")
  | int (i : Int) : TyD K W (.int i) (.type "int")
  | str (s : Str) : TyD K W (.str s) (.type "str")
  | lst {a : D} {ds : List D} : vw W a = .lst ds → TyD K W a (.type "list")
  | tup (ds : List D) : TyD K W (.tup ds) (.type "tuple")
  | dic {a : D} {ds : List (Key × D)} : vw W a = .dic ds → TyD K W a (.type "dict")
  | obj {a : D} {C : Addr} {fs : List (Str × D)} : vw W a = .obj C fs → ClsF K C → TyD K W a (.ref C)
theorem TyX_of {a : D} {t : Value} (s : Sv K Z H W v a) (ok : WOk K Z H W) (h : TyD K W a t) : TyX K H v t := by
  cases h with
  | non => cases (show At K _ _ v _ from s); exact .base .non
  | bl b => cases (show At K _ _ v _ from s); exact .base (.bl _)
  | int b => cases (show At K _ _ v _ from s); exact .base (.int _)
  | str b => cases (show At K _ _ v _ from s); exact .base (.str _)
  | lst e =>
    obtain ⟨p, vs, rfl, h1, _⟩ := s.lst ok e
    exact .base (.lst h1)
  | tup ds =>
    obtain ⟨p, vs, rfl, h1, _⟩ := s.tup
    rcases h1 with (h1 | ⟨o, h1⟩) | ⟨o, its, n, h1, h2, _⟩
    · exact .base (.tup h1)
    · exact .fTuple h1
    · exact .kTuple h1 h2
  | dic e =>
    obtain ⟨p, vs, rfl, h1, _⟩ := s.dic ok e
    rcases h1 with h1 | ⟨o, h1⟩
    · exact .base (.dK h1)
    · exact .fDict h1
  | obj e hc =>
    obtain ⟨p, dx, vs, rfl, h1, _⟩ := s.obj ok e
    exact hc.ty ⟨dx, vs, h1⟩
def cvD : D → Option Value
  | .ty n => some (.type n) | .fn C => some (.ref C) | _ => none
theorem ClsV_of {c : D} {u : Value} (s : Sv K Z H W v c) (h : cvD c = some u) : ClsV v u := by
  cases c <;> first | (cases h; done) | skip
  · cases h
    cases (show At K _ _ v _ from s)
    exact .ty _
  · cases h
    cases (show At K _ _ v _ from s)
    exact .own _
def r2Isi (K : PySem.W.Frag) : R2L := fun ds W Q => ∃ a c t u b, ds = [a, c] ∧ TyD K W a t ∧ cvD c = some u ∧ PySem.W.kitOne K t u = some b ∧ Q (.bl b) W
theorem l_isi : L2L K (rIsi K) (r2Isi K) := fun Z vs ds H W Q Q2 ok l ⟨a, c, t, u, b, e, h1, h2, h3, q⟩ co => by
  subst e
  cases l with
  | cons s l =>
    cases l with
    | cons s2 l =>
      cases l
      exact ⟨_, _, t, u, b, rfl, ClsV_of s2 h2, TyX_of s ok h1, h3, co.now q ok (.ofS rfl)⟩
def cvDs : List D → Option (List Value)
  | [] => some []
  | c :: cs => (cvD c).bind fun u => (cvDs cs).map (u :: ·)
theorem ClsVs_of {vs : List V} : ∀ {cs : List D} {us : List Value}, AtL K (bs Z H W) W vs cs → cvDs cs = some us → Paired ClsV vs us := by
  intro cs
  induction cs generalizing vs with
  | nil =>
    intro us l h
    cases l
    cases h
    exact .nil
  | cons c cs ih =>
    intro us l h
    cases l with
    | cons a l =>
      unfold cvDs at h
      cases e : cvD c with
      | none => rw [e] at h; cases h
      | some u =>
        cases e2 : cvDs cs with
        | none => rw [e, e2] at h; cases h
        | some ws =>
          rw [e, e2] at h
          cases h
          exact .cons (ClsV_of (.of a) e) (ih l e2)
def s2Raise (C : Addr) (f : Str) (T : T2) (Ex : XK2) : S2 := fun _ env W => T env W fun d W1 => Pl d ∧ Ex C [(f, d)] W1
theorem i_raise {C : Addr} {f : Str} (hx : XOk K φ Ex E) : ∀ (D : Ends) σ H, LS K φ (s2Raise C f T Ex) D σ H → tMkS C f (LE K φ T) σ H fun cls d H' => E cls d H' := fun D σ H ⟨Z, env, W, E2, R, t, co⟩ =>
  ⟨Z, env, W, _, R, t, fun d W1 v H1 ⟨pl, q⟩ g ok s => fun dd hd => by
    obtain ⟨g2, ok2⟩ := ok.new (o := .xd [(f, v)]) hd
    refine hx Z H1 W1 (R.grow g ok).ph (R.grow g ok).dm C _ W1 _ dd _ q g2 ok2 ?_ (.cons (((s.at pl)).grow g2) .nil)
    rw [bs_new (ok.free hd) (ok.nz hd), upd_same]⟩
end
end Fr
set_option Elab.async false
set_option linter.all false
set_option maxRecDepth 100000
set_option maxHeartbeats 4000000
namespace Fr
open PySem PySem.Spec PyProof.Rows L2
section
variable {K : PySem.W.Frag} {φ : Phi} {Z : List Addr} {W W1 : Wd} {H H1 : Hp} {T Ta Tb Tc : T2} {As : A2} {σ : L2.St} {env : En} {v : V} {d a b : D} {i : Nat} {p : Addr} {E : XK} {Ex E2 : XK2} {Q : VK} {S U : S2} {B : B2}
theorem i_dnew : ∀ σ H Q, LE K φ t2DNew σ H Q → tDNewK σ H Q := fun σ H Q ⟨Z, env, W, Q2, R, t, co⟩ => fun p hp => co.new t R.ok hp fun H' g e => .dic (.inl e) .nil
def b2Yes : B2 := fun _ W Q => Q true W
theorem _root_.L2.PTs.im {X : Cx} {e : List Expr} {t t' : TT} (h : PTs X e t) (f : ∀ σ H Q, t' σ H Q → t σ H Q) : PTs X e t' := ⟨fun pins s σ H Q I q => h.run pins s σ H Q I (f σ H Q q)⟩
theorem i_yes : ∀ σ H Q, LB K φ b2Yes σ H Q → tYes σ H Q := fun σ H Q ⟨Z, env, W, Q2, R, t, co⟩ => co true W H t .refl R.ok
/-- is None -/
def r2IsN (neg : Bool) : R22 := fun a b W Q => b = .non ∧ ((a = .non ∧ Q (.bl (!neg)) W) ∨ ((∀ n : V, sV a = some n → n ≠ .non) ∧ Q (.bl neg) W))
theorem sv_non (s : Sv K Z H W v a) (h : ∀ n : V, sV a = some n → n ≠ .non) : v ≠ .non := by
  intro e
  subst e
  cases a <;> first | exact h _ rfl (by cases (show At K _ _ V.non _ from s); rfl) | (cases (show At K _ _ V.non _ from s); done) | skip
  · exact absurd s.1 (by simp)
  · obtain ⟨a, e, _⟩ := s
    cases e
theorem l_isN : L22 K (fun x y H Q => y = .non ∧ Q (.bl (decide (x = .non))) H) (r2IsN false) := fun Z x y a b H W Q Q2 ok s1 s2 ⟨e, h⟩ co => by
  subst e
  refine ⟨s2.sc rfl, ?_⟩
  rcases h with ⟨rfl, q⟩ | ⟨h, q⟩
  · cases s1.sc (x := .non) rfl
    exact co.now q ok (.ofS rfl)
  · rw [decide_eq_false (sv_non s1 h)]
    exact co.now q ok (.ofS rfl)
theorem l_notN : L22 K (fun x y H Q => y = .non ∧ Q (.bl (!decide (x = .non))) H) (r2IsN true) := fun Z x y a b H W Q Q2 ok s1 s2 ⟨e, h⟩ co => by
  subst e
  refine ⟨s2.sc rfl, ?_⟩
  rcases h with ⟨rfl, q⟩ | ⟨h, q⟩
  · cases s1.sc (x := .non) rfl
    exact co.now q ok (.ofS rfl)
  · rw [decide_eq_false (sv_non s1 h)]
    exact co.now q ok (.ofS rfl)
/-- cut: a state in the middle is said -/
def s2Cut (S U : S2) : S2 := fun E env W => ∃ M : En → Wd → Prop, S { E with nx := M } env W ∧ ∀ e w, M e w → U E e w
theorem i_cut : ∀ D σ H, LS K φ (s2Cut S U) D σ H → tCut (LS K φ S) (LS K φ U) D σ H := fun D σ H ⟨Z, env, W, E2, R, ⟨M, s, u⟩, co⟩ =>
  ⟨fun σ' H' => ∃ env' W', M env' W' ∧ Bx (bs Z H W) (bs Z H' W') ∧ Dt W W' ∧ (∀ a ∈ Z, H' a = H a) ∧ Rel K φ Z σ' H' env' W', ⟨Z, env, W, _, R, s, fun e' W' σ' H' q b t z r => ⟨e', W', q, b, t, z, r⟩, co.bk, co.ct, co.rt⟩,
    fun σ' H' ⟨e', W', q, b, t, z, r⟩ => ⟨Z, e', W', E2, r, u e' W' q, co.step b t z⟩⟩
/-- y = [..] -/
def s2SetLc (j : Nat) (Ti : A2) (g : G2) (B : B2) (T : T2) (vs : List Nat) : S2 := fun E env W => t2Lc Ti g B T vs env W fun d W1 => E.nx (env.set j (some d)) W1
/-- all, any of truth values -/
theorem i_makeV {C : Addr} {sp : Sp} {F : Fi2} (h : ∀ σ H Q, LE K φ (t2Make C F Ex As) σ H Q → StX.tMakeR C sp E (LA K φ As) σ H Q) : ∀ σ H Q, LE K φ (fun env W Q => env[i]? = some (some (.fn C)) ∧ t2Make C F Ex As env W Q) σ H Q → tMakeV i C sp E (LA K φ As) σ H Q := fun σ H Q ⟨Z, env, W, Q2, R, ⟨e, t⟩, co⟩ => by
  obtain ⟨v, h1, h2⟩ := R.sv i _ e
  cases (show At K _ _ v _ from h2)
  exact ⟨h1, h σ H Q ⟨Z, env, W, Q2, R, t, co⟩⟩
end
section
variable {P : Program} {w : World} {K : PySem.W.Frag} {mg : Str → Option Value} {base : Heap} {k : Nat} {f : Addr} {fd : FuncData} {ps : List Str} {sp : Sp}
/-- where nothing may be raised -/
def spCalm (sp : Sp) : Sp := fun vs H Q _ => sp vs H Q fun _ _ _ => False
theorem cr_calm {outer : List Env} {H : Hp} {s s' : Shared} {Q : VK} {E : XK} {r : Result} (h : CR (L2.CX P w) outer P w H s Q (fun _ _ _ => False) r s') : CR CX0 outer P w H s Q E r s' := by
  cases r with
  | error e =>
    obtain ⟨_, _, _, _, _, _, _, _, _, _, _, _, z⟩ := h
    exact z
  | ok fl => cases fl <;> exact h
theorem _root_.L2.FnOk.calm (F : FnOk P w K mg base (L2.CX P w) k f fd ps sp) : FnOk P w K mg base CX0 k f fd ps (spCalm sp) :=
  ⟨fun vs H Q E h => F.len vs H Q _ h, fun A outer s H args us vs Q E hr e0 hb hv h => codeAny_mono (F.run A outer s H args us vs Q _ hr e0 hb hv h) fun r s' z => cr_calm z⟩
theorem _root_.L2.FnR.calm (F : FnR P w K mg base (L2.CX P w) k f sp) : FnR P w K mg base CX0 k f (spCalm sp) := fun A outer s H us vs Q E hr e0 r h => codeAny_mono (F A outer s H us vs Q _ hr e0 r h) fun r s' z => cr_calm z
variable {F : Sp2} {Fi : Fi2} {C : Addr}
theorem spIs_calm : SpIs K (spCalm (spL K F)) (fun ds W Q _ => F ds W Q fun _ _ _ => False) := fun vs H Q E ⟨Z, ds, W, Q2, E2, ok, a, f, ca, cx⟩ => ⟨Z, ds, W, Q2, _, ok, a, f, ca, fun _ _ _ _ _ _ e => e.elim⟩
theorem spIsI_calmD {dv : List V} {dd : List D} (hd : sDs dv = some dd) : SpIsI K C (spD dv (spCalm (spI K C Fi))) (fun ds W Q _ => Fi (ds ++ dd) W Q fun _ _ _ => False) := fun vs H Q E ⟨Z, x, vs', ds, W, Q2, E2, e, hx, ok, a, f, ca, cx⟩ => by
  subst e
  exact ⟨Z, x, vs' ++ dv, ds ++ dd, W, Q2, _, rfl, hx, ok, a.app (atL_s hd), f, ca, fun _ _ _ _ _ _ e => e.elim⟩
end
section
variable {W W1 : Wd} {env : En} {Q : DK} {E : Ends2} {a b d : D} {T Ta Tb Tc : T2} {As Ks : A2} {B Ba : B2} {S U : S2} {i j : Nat} {QL : List D → Wd → Prop} {QB : Bool → Wd → Prop} {g : G2} {gs : G2s} {q : En → Wd → Prop} {x y : Int} {r : R2} {r2 r2' : R22} {Qo : Option Int → Wd → Prop}
theorem z_seq (h : S { E with nx := fun e w => U E e w } env W) : s2Seq S U E env W := h
theorem z_nx (h : E.nx env W) : s2Nx E env W := h
theorem z_bk (h : E.bk env W) : s2Bk E env W := h
theorem z_ret (h : T env W E.rt) : s2Ret T E env W := h
theorem z_retN (h : E.rt .non W) : s2RetN E env W := h
theorem z_drop (h : T env W fun _ W1 => E.nx env W1) : s2Drop T E env W := h
theorem z_ifS (h : B env W fun c W1 => if c = true then S E env W1 else U E env W1) : s2If B S U E env W := h
theorem z_asg (h : T env W fun d W1 => g d env W1 E.nx) : s2Asg T g E env W := h
theorem z_gname (h : q (env.set i (some d)) W) : g2Name i d env W q := h
theorem z_gtup {n : Nat} {ds : List D} (hn : ds.length = n) (h : gs ds env W q) : g2Tup n gs (.tup ds) env W q := ⟨ds, rfl, hn, h⟩
theorem z_gcons {ds : List D} (h : g d env W fun e1 W1 => gs ds e1 W1 q) : g2Cons g gs (d :: ds) env W q := ⟨d, ds, rfl, h⟩
theorem z_gnil (h : q env W) : g2Nil [] env W q := ⟨rfl, h⟩
theorem z_par (h : As env W fun ds W1 => ∃ a b, ds = [a, b] ∧ E.nx ((env.set i (some a)).set j (some b)) W1) : s2Par i j As E env W := h
theorem z_aug (e : env[i]? = some (some a)) (h : T env W fun b W1 => r2 a b W1 fun d W2 => E.nx (env.set i (some d)) W2) : s2Aug i T r2 E env W := ⟨a, e, h⟩
theorem z_var (e : env[i]? = some (some d)) (h : Q d W) : t2Var i env W Q := ⟨d, e, h⟩
theorem z_c (h : Q d W) : t2C d env W Q := h
theorem z_nil (h : QL [] W) : a2Nil env W QL := h
theorem z_cons (h : T env W fun d W1 => As env W1 fun ds W2 => QL (d :: ds) W2) : a2Cons T As env W QL := h
theorem z_lst (h : As env W fun ds W1 => PlL ds ∧ ds.length ≤ 1000000 ∧ Q (.lst ds) W1) : t2Lst As env W Q := h
theorem z_tup (h : As env W fun ds W1 => PlL ds ∧ ds.length ≤ 1000000 ∧ Q (.tup ds) W1) : t2Tup As env W Q := h
theorem z_pl {ds : List D} {P : Prop} (h1 : PlL ds) (h2 : ds.length ≤ 1000000) (h : P) : PlL ds ∧ ds.length ≤ 1000000 ∧ P := ⟨h1, h2, h⟩
theorem z_op (h : Ta env W fun a W1 => Tb env W1 fun b W2 => r2 a b W2 Q) : t2Op r2 Ta Tb env W Q := h
theorem z_un {r1 : R21} (h : Ta env W fun a W1 => r1 a W1 Q) : t2Un r1 Ta env W Q := h
theorem z_cb {rl : R2L} (h : As env W fun ds W1 => rl ds W1 Q) : t2CB rl As env W Q := h
theorem z_T (h : T env W fun d W1 => ∃ b, d = .bl b ∧ QB b W1) : b2T T env W QB := h
theorem z_and (h : B env W fun c W1 => if c = true then Ba env W1 QB else QB false W1) : b2And B Ba env W QB := h
theorem z_or (h : B env W fun c W1 => if c = true then QB true W1 else Ba env W1 QB) : b2Or B Ba env W QB := h
theorem z_not (h : B env W fun c W1 => QB (!c) W1) : b2Not B env W QB := h
theorem z_yes (h : QB true W) : b2Yes env W QB := h
theorem z_andV (h : Ta env W fun a W1 => ∃ c, a = .bl c ∧ if c = true then Tb env W1 Q else Q (.bl false) W1) : t2AndV Ta Tb env W Q := h
theorem z_orV (h : Ta env W fun a W1 => ∃ c, a = .bl c ∧ if c = true then Q (.bl true) W1 else Tb env W1 Q) : t2OrV Ta Tb env W Q := h
theorem z_notV (h : Ta env W fun a W1 => ∃ c, a = .bl c ∧ Q (.bl (!c)) W1) : t2NotV Ta env W Q := h
theorem z_ifE (h : B env W fun c W1 => if c = true then Ta env W1 Q else Tb env W1 Q) : t2If B Ta Tb env W Q := h
theorem z_chain (h : Ta env W fun a W1 => Tb env W1 fun b W2 => r2 a b W2 fun z W3 => ∃ k, z = .bl k ∧ if k = true then Tc env W3 fun c W4 => r2' b c W4 Q else Q (.bl false) W3) : t2Chain r2 r2' Ta Tb Tc env W Q := h
theorem z_call {F : Sp2} {Ex : XK2} (h : As env W fun ds W1 => PlL ds ∧ F ds W1 Q Ex) : t2Call F Ex As env W Q := h
theorem z_callZ {n m : Nat} {F : Sp2} {dd : List D} {idx : List Nat} {Ex : XK2} (h : As env W fun ds W1 => Ks env W1 fun es W2 => PlL ds ∧ PlL es ∧ ds.length = n ∧ es.length = m ∧ F (pick idx (ds ++ dd ++ es)) W2 Q Ex) : t2CallZ n m F dd idx Ex As Ks env W Q := h
theorem z_meth {C : Addr} {m : Str} {F : Sp2} {Ex : XK2} (h : T env W fun o W1 => ∃ fs, vw W1 o = .obj C fs ∧ fs.lookup m = none ∧ As env W1 fun ds W2 => Pl o ∧ PlL ds ∧ F (o :: ds) W2 Q Ex) : t2Meth C m F Ex T As env W Q := h
theorem z_prop {C : Addr} {F : Sp2} {Ex : XK2} (h : T env W fun o W1 => ∃ fs, vw W1 o = .obj C fs ∧ Pl o ∧ F [o] W1 Q Ex) : t2Prop C F Ex T env W Q := h
theorem z_cmeth {C : Addr} {F : Sp2} {Ex : XK2} (h : T env W fun o W1 => o = .fn C ∧ As env W1 fun ds W2 => PlL ds ∧ F (.fn C :: ds) W2 Q Ex) : t2CMeth C F Ex T As env W Q := h
theorem z_make {C : Addr} {F : Fi2} {Ex : XK2} (h : As env W fun ds W1 => PlL ds ∧ F ds W1 (fun fs W2 => Q (.obj C fs) W2) Ex) : t2Make C F Ex As env W Q := h
theorem z_fld {C : Addr} {f : Str} (h : T env W fun o W1 => ∃ fs d, vw W1 o = .obj C fs ∧ fs.lookup f = some d ∧ Q d W1) : t2Fld C f T env W Q := h
theorem z_sfld {C : Addr} {f : Str} (h : Tb env W fun d W1 => Ta env W1 fun o W2 => ∃ p fl fs, (o = .own p ∨ o = .cel p) ∧ W2 p = some (fl, .ins C fs) ∧ Pl d ∧ fs.length < 1000 ∧ E.nx env (W2.set p fl (.ins C (putF2 f d fs)))) : s2Fld C f Ta Tb E env W := h
theorem z_sl {rs : R2S} {Ol Oh : O2} (h : T env W fun a W1 => Ol env W1 fun lo W2 => Oh env W2 fun hi W3 => rs a lo hi W3 Q) : t2Sl rs T Ol Oh env W Q := h
theorem z_noPart (h : Qo none W) : o2No env W Qo := h
theorem z_part (h : T env W fun d W1 => ∃ i, d = .int i ∧ Qo (some i) W1) : o2Part T env W Qo := h
theorem z_for {Ti : A2} (h : Ti env W fun ds W1 => ForI g S E ds env W1) : s2For Ti g S E env W := h
theorem z_lc {Ti : A2} {vs : List Nat} (h : Ti env W fun ds W1 => ds.length ≤ 1000000 ∧ LcI g B T (wipe2 env vs) ds W1 fun ys W2 => Q (.lst ys) W2) : t2Lc Ti g B T vs env W Q := h
theorem z_setLc {Ti : A2} {vs : List Nat} (h : t2Lc Ti g B T vs env W fun d W1 => E.nx (env.set j (some d)) W1) : s2SetLc j Ti g B T vs E env W := h
theorem z_iL (h : T env W fun d W1 => ∃ ds, d = .lst ds ∧ QL ds W1) : a2List T env W QL := h
theorem z_iT (h : T env W fun d W1 => ∃ ds, d = .tup ds ∧ QL ds W1) : a2Tup T env W QL := h
theorem z_iS (h : T env W fun d W1 => ∃ z, d = .str z ∧ QL (sgD z) W1) : a2Str T env W QL := h
theorem z_iR (h : As env W fun ds W1 => ∃ j : Int, ds = [.int j] ∧ -(2 ^ 62) ≤ j ∧ j < 2 ^ 62 ∧ QL (rgD 0 j.toNat) W1) : a2Rng1 As env W QL := h
theorem z_iD {f : List (Key × D) → List D} (h : T env W fun d W1 => ∃ kvs, d = .dic kvs ∧ QL (f kvs) W1) : a2Dic T f env W QL := h
theorem z_iE (h : As env W fun es W1 => ∃ ds, es = [.lst ds] ∧ QL (enD ds) W1) : a2Enum As env W QL := h
theorem z_dget (h : Ta env W fun a W1 => Tb env W1 fun b W2 => ∃ kvs k d, vw W2 a = .dic kvs ∧ b = keyD k ∧ lkD kvs k = some d ∧ Q d W2) : t2DGet Ta Tb env W Q := h
theorem z_din {neg : Bool} (h : Ta env W fun b W1 => Tb env W1 fun a W2 => ∃ kvs k, vw W2 a = .dic kvs ∧ b = keyD k ∧ Q (.bl (if neg then !(lkD kvs k).isSome else (lkD kvs k).isSome)) W2) : t2DIn neg Ta Tb env W Q := h
theorem z_dput (h : Tc env W fun d W1 => Ta env W1 fun a W2 => Tb env W2 fun b W3 => ∃ p f kvs k, isCel a p ∧ W3 p = some (f, .dic kvs) ∧ b = keyD k ∧ Pl d ∧ kvs.length < 1000000 ∧ E.nx env (W3.set p f (.dic (putD kvs k d)))) : s2DPut Ta Tb Tc E env W := h
theorem z_raise {C : Addr} {f : Str} {Ex : XK2} (h : T env W fun d W1 => Pl d ∧ Ex C [(f, d)] W1) : s2Raise C f T Ex E env W := h
theorem z_I0 {f : Int → Int → V} (h : sD (f x y) = some d) (k : Q d W) : r2s (rI0 f) (.int x) (.int y) W Q := ⟨_, _, rfl, rfl, fun H Q' hq => w_I0 (hq _ _ h k)⟩
theorem z_I {C : Int → Int → Prop} {f : Int → Int → V} (hc : C x y) (h : sD (f x y) = some d) (k : Q d W) : r2s (rI C f) (.int x) (.int y) W Q := ⟨_, _, rfl, rfl, fun H Q' hq => w_I hc (hq _ _ h k)⟩
theorem z_U {f : Int → V} (h : sD (f x) = some d) (k : Q d W) : r1s (rU f) (.int x) W Q := ⟨_, rfl, fun H Q' hq => w_U (hq _ _ h k)⟩
theorem z_eq {v u : V} (h1 : sV a = some v) (h2 : sV b = some u) (hs : scal v u = true) (k : Q (.bl (decide (v = u))) W) : r2s rEq a b W Q := ⟨v, u, h1, h2, fun H Q' hq => w_eq hs (hq _ _ rfl k)⟩
theorem z_ne {v u : V} (h1 : sV a = some v) (h2 : sV b = some u) (hs : scal v u = true) (k : Q (.bl (!decide (v = u))) W) : r2s rNe a b W Q := ⟨v, u, h1, h2, fun H Q' hq => w_ne hs (hq _ _ rfl k)⟩
theorem z_ixL {ds : List D} (e : vw W a = .lst ds) (h : atI ds x = some d) (k : Q d W) : r2IxL a (.int x) W Q := ⟨ds, x, d, e, rfl, h, k⟩
theorem z_ixT {ds : List D} (h : atI ds x = some d) (k : Q d W) : r2IxT (.tup ds) (.int x) W Q := ⟨ds, x, d, rfl, rfl, h, k⟩
theorem z_isNt (k : Q (.bl true) W) : r2IsN false .non .non W Q := ⟨rfl, .inl ⟨rfl, k⟩⟩
theorem z_isNf (h : ∀ n : V, sV a = some n → n ≠ .non) (k : Q (.bl false) W) : r2IsN false a .non W Q := ⟨rfl, .inr ⟨h, k⟩⟩
theorem z_noNt (k : Q (.bl false) W) : r2IsN true .non .non W Q := ⟨rfl, .inl ⟨rfl, k⟩⟩
theorem z_noNf (h : ∀ n : V, sV a = some n → n ≠ .non) (k : Q (.bl true) W) : r2IsN true a .non W Q := ⟨rfl, .inr ⟨h, k⟩⟩
end
end Fr
set_option Elab.async false
set_option linter.all false
set_option maxRecDepth 100000
set_option maxHeartbeats 4000000
namespace Fr
open PySem PySem.Spec PyProof.Rows L2
section
variable {K : PySem.W.Frag} {φ : Phi} {Z : List Addr} {W W1 : Wd} {H H1 : Hp} {T Ta Tb Tc : T2} {As : A2} {σ : L2.St} {env : En} {v : V} {d a b : D} {i : Nat} {p : Addr} {E : XK} {Ex E2 : XK2} {Q : VK} {S U : S2} {B : B2}
theorem i_asgT {ws : List Nat} {t : TE} {g : TG} {g2 : G2} (f : ∀ σ H Q, LE K φ T σ H Q → t σ H Q) (l : L2G K φ ws g g2) : ∀ D σ H, LS K φ (s2Asg T g2) D σ H → tAsg t g D σ H := fun D σ H h => f _ _ _ (i_asg l D σ H h)
theorem i_setLc {Ti : A2} {g : TG} {g2 : G2} {vs : List Nat} (l : L2G K phi0 vs g g2) : ∀ D σ H, LS K φ (s2Asg (t2Lc Ti g2 B T vs) (g2Name i)) D σ H → tAsg (tLc (LI K φ Ti) g (LB K phi0 B) (LE K phi0 T) vs) (gName i) D σ H := i_asgT (i_lc l) (lg_name (vs := [i]) List.mem_cons_self)
/-- a table of the top -/
def t2KGet (f : Addr) (kvs : List (Str × V)) (Td Ty Tx : T2) : T2 := fun env W Q => Td env W fun a W1 => a = .fn f ∧ Ty env W1 fun y W2 => Tx env W2 fun z W3 => ∃ k x d, y = .str k ∧ sV z = some x ∧ sD ((kvs.lookup k).getD x) = some d ∧ Q d W3
theorem i_kget {f : Addr} {kvs : List (Str × V)} : ∀ σ H Q, LE K φ (t2KGet f kvs Ta Tb Tc) σ H Q → tKGet f kvs (LE K φ Ta) (LE K φ Tb) (LE K φ Tc) σ H Q := fun σ H Q ⟨Z, env, W, Q2, R, t, co⟩ =>
  ⟨Z, env, W, _, R, t, fun a W1 x H1 ⟨ea, q1⟩ g1 ok1 s1 => by
    subst ea
    cases s1.sc rfl
    refine ⟨rfl, Z, env, W1, _, R.grow g1 ok1, q1, fun y W2 v2 H2 q2 g2 ok2 s2 => ⟨Z, env, W2, _, R.grow (g1.trans g2) ok2, q2, fun z W3 v3 H3 ⟨k, x, d, ey, ez, ed, q⟩ g3 ok3 s3 => ?_⟩⟩
    subst ey
    cases s2.sc rfl
    cases s3.sc ez
    exact ⟨k, rfl, (co.step ((g1.trans g2).trans g3)).now q ok3 (.ofS ed)⟩⟩
theorem z_kget {f : Addr} {kvs : List (Str × V)} {Q : DK} (h : Ta env W fun a W1 => a = .fn f ∧ Tb env W1 fun y W2 => Tc env W2 fun z W3 => ∃ k x d, y = .str k ∧ sV z = some x ∧ sD ((kvs.lookup k).getD x) = some d ∧ Q d W3) : t2KGet f kvs Ta Tb Tc env W Q := h
/-- methods of texts -/
abbrev R2M := Str → D → Wd → DK → Prop
def L2M (K : PySem.W.Frag) (r : V → List V → Hp → VK → Prop) (r2 : R2M) : Prop := ∀ Z s y b H W Q Q2, WOk K Z H W → Sv K Z H W y b → r2 s b W Q2 → Co K Z H W Q2 Q → r (.str s) [y] H Q
def t2M1 (r2 : R2M) (To Te : T2) : T2 := fun env W Q => To env W fun a W1 => ∃ s, a = .str s ∧ Te env W1 fun b W2 => r2 s b W2 Q
theorem i_m1 {r : V → List V → Hp → VK → Prop} {r2 : R2M} (l : L2M K r r2) : ∀ σ H Q, LE K φ (t2M1 r2 Ta Tb) σ H Q → tM1 r (LE K φ Ta) (LE K φ Tb) σ H Q := fun σ H Q ⟨Z, env, W, Q2, R, t, co⟩ =>
  ⟨Z, env, W, _, R, t, fun a W1 x H1 ⟨s, ea, q1⟩ g1 ok1 s1 => by
    subst ea
    cases s1.sc rfl
    exact ⟨⟨s, rfl⟩, Z, env, W1, _, R.grow g1 ok1, q1, fun b W2 y H2 q g2 ok2 s2 => l Z s y b H2 W2 Q _ ok2 s2 q (co.step (g1.trans g2))⟩⟩
theorem z_m1 {r2 : R2M} {Q : DK} (h : Ta env W fun a W1 => ∃ s, a = .str s ∧ Tb env W1 fun b W2 => r2 s b W2 Q) : t2M1 r2 Ta Tb env W Q := h
def r2Join : R2M := fun s b W Q => ∃ ys : List Str, vw W b = .lst (ys.map D.str) ∧ (ys.map (·.length)).sum + ys.length * s.length ≤ 16777216 ∧ Q (.str (Txt.join s ys)) W
theorem l_join : L2M K (fun x xs H Q => ∃ a p, ∃ ys : List Str, x = .str a ∧ xs = [.ref p] ∧ (SqL K H p (ys.map V.str) ∨ SqT K H p (ys.map V.str)) ∧ (ys.map (·.length)).sum + ys.length * a.length ≤ 16777216 ∧ Q (.str (Txt.join a ys)) H) r2Join := fun Z s y b H W Q Q2 ok s1 ⟨ys, e, hl, q⟩ co => by
  obtain ⟨p, vs, rfl, h1, l⟩ := s1.lst ok e
  cases atL_v l _ (sVs_strs ys)
  exact ⟨s, p, ys, rfl, rfl, .inl (SqL.of h1), hl, co.now q ok (.ofS rfl)⟩
/-- list(xs), tuple(xs) -/
def r2List : R2L := fun ds W Q => ∃ a es, ds = [a] ∧ (vw W a = .lst es ∨ a = .tup es) ∧ Q (.lst es) W
theorem l_list : L2L K (fun xs H Q => ∃ p ys, xs = [.ref p] ∧ (SqL K H p ys ∨ SqT K H p ys) ∧ ∀ l, H l = none → Q (.ref l) (upd H l (.lst ys))) r2List := fun Z vs ds H W Q Q2 ok l ⟨a, es, e, h, q⟩ co => by
  subst e
  cases l with
  | cons s l =>
    cases l
    rcases h with h | rfl
    · obtain ⟨p, vs, rfl, h1, l1⟩ := s.lst ok h
      exact ⟨p, vs, rfl, .inl (SqL.of h1), fun p2 hp => co.new q ok hp fun H' g e => .lst e (l1.grow g)⟩
    · obtain ⟨p, vs, rfl, h1, l1⟩ := s.tup
      exact ⟨p, vs, rfl, .inr h1, fun p2 hp => co.new q ok hp fun H' g e => .lst e (l1.grow g)⟩
def r2ListS : R2L := fun ds W Q => ∃ z, ds = [.str z] ∧ z.length ≤ 16777216 ∧ Q (.lst (sgD z)) W
theorem atL_sg {B0 : Hp} {z : Str} : AtL K B0 W (sgV z) (sgD z) := by
  unfold sgV sgD
  generalize tl z = l
  induction l with
  | nil => exact .nil
  | cons c l ih => exact .cons (.str _) ih
theorem l_listS : L2L K rListS r2ListS := fun Z vs ds H W Q Q2 ok l ⟨z, e, h, q⟩ co => by
  subst e
  cases svs l [.str z] rfl
  exact ⟨z, rfl, le_line h, fun p2 hp => co.new q ok hp fun H' g e => .lst e atL_sg⟩
/-- no argument -/
theorem i_meth0 {C : Addr} {m : Str} {F : Sp2} {sp : Sp} (l : SpIs K sp F) (hx : XOk K φ Ex E) : ∀ σ H Q, LE K φ (t2Meth C m F Ex T a2Nil) σ H Q → tMeth C m sp [] E (LE K φ T) tNil σ H Q := fun σ H Q h => by
  obtain ⟨Z, env, W, Q2, R, t, co⟩ := h
  refine ⟨Z, env, W, _, R, t, fun o W1 x H1 ⟨fs, e, hl, po, pl, f⟩ g ok s => ?_⟩
  obtain ⟨p, dx, vs, rfl, e1, e2⟩ := s.obj ok e
  refine ⟨p, dx, vs, rfl, e1, e2.none hl, ?_⟩
  show sp (.ref p :: ([] ++ [])) H1 Q E
  exact l _ _ _ _ ⟨Z, _, W1, _, _, ok, .cons (s.at po) .nil, f, (co.step g).a, hx Z H1 W1 (R.grow g ok).ph (R.grow g ok).dm⟩
theorem i_make0 {C : Addr} {F : Fi2} {sp : Sp} (l : SpIsI K C sp F) (hx : XOk K φ Ex E) : ∀ σ H Q, LE K φ (t2Make C F Ex a2Nil) σ H Q → StX.tMakeR C sp E tNil σ H Q := fun σ H Q ⟨Z, env, W, Q2, R, ⟨pl, f⟩, co⟩ => fun x dx h1 h2 n => make_go l (hx Z H W R.ph R.dm) R.ok .nil f co h1 h2 n
end
theorem vw_set {W : Wd} {a : D} {x : Addr} {f : Bool} {c : Cell} (hx : W x = none) (h : ∀ p, vw W a ≠ .own p ∧ vw W a ≠ .cel p) : vw (W.set x f c) a = vw W a := by
  cases a <;> first | rfl | skip
  · rename_i p
    have n : p ≠ x := fun e => by
      subst e
      refine (h p).2 ?_
      simp only [vw, hx]
    simp only [vw, Wd.ne n]
  · rename_i p
    have n : p ≠ x := fun e => by
      subst e
      refine (h p).1 ?_
      simp only [vw, hx]
    simp only [vw, Wd.ne n]
theorem TyD.set {K : PySem.W.Frag} {W : Wd} {a : D} {t : Value} {x : Addr} {f : Bool} {c : Cell} (h : TyD K W a t) (hx : W x = none) : TyD K (W.set x f c) a t := by
  cases h with
  | non => exact .non
  | bl b => exact .bl b
  | int b => exact .int b
  | str b => exact .str b
  | lst e => exact .lst (by rw [vw_set hx (by rw [e]; simp)]; exact e)
  | tup ds => exact .tup ds
  | dic e => exact .dic (by rw [vw_set hx (by rw [e]; simp)]; exact e)
  | obj e hc => exact .obj (by rw [vw_set hx (by rw [e]; simp)]; exact e) hc
end Fr
set_option Elab.async false
set_option linter.all false
set_option maxRecDepth 100000
set_option maxHeartbeats 4000000
namespace Fr
open PySem PySem.Spec PyProof.Rows L2
section
variable {K : PySem.W.Frag} {φ : Phi} {Z : List Addr} {W W1 : Wd} {H H1 : Hp} {T Ta Tb Tc : T2} {As Ks : A2} {σ : L2.St} {env : En} {v : V} {d a b : D} {i : Nat} {p : Addr} {E : XK} {Ex E2 : XK2} {Q : VK} {F : Sp2}
def t2ListVals (T : T2) : T2 := fun env W Q => T env W fun a W1 => ∃ kvs, vw W1 a = .dic kvs ∧ Q (.lst (kvs.map (·.2))) W1
theorem z_listVals {Q : DK} (h : T env W fun a W1 => ∃ kvs, vw W1 a = .dic kvs ∧ Q (.lst (kvs.map (·.2))) W1) : t2ListVals T env W Q := h
theorem spIs_star {m : Nat} : SpIs K (spStar m (spL K F)) (fun ds W Q E => m ≤ ds.length ∧ ds.length ≤ 1000000 ∧ F (ds.take m ++ [.tup (ds.drop m)]) W Q E) := fun vs H Q E ⟨Z, ds, W, Q2, E2, ok, a, ⟨hm, hl, f⟩, ca, cx⟩ => by
  refine ⟨vs.take m, vs.drop m, (List.take_append_drop m vs).symm, by rw [List.length_take, a.len]; omega, le_line (by rw [List.length_drop, a.len]; omega), fun p hp => ?_⟩
  obtain ⟨g, ok2⟩ := ok.new (o := .tup (vs.drop m)) hp
  refine ⟨Z, _, W, Q2, E2, ok2, ((a.takeT m).grow g).app (.cons (.tup (.inl (.inl ?_)) ((a.dropT m).grow g)) .nil), f, fun d W' v H' q g2 ok' s => ca d W' v H' q (g.trans g2) ok' s, fun C fs W' H' dd ws e g2 ok' h1 h2 => cx C fs W' H' dd ws e (g.trans g2) ok' h1 h2⟩
  rw [bs_new (ok.free hp) (ok.nz hp), upd_same]
theorem spIs_starCalm {m : Nat} : SpIs K (spCalm (spStar m (spL K F))) (fun ds W Q _ => m ≤ ds.length ∧ ds.length ≤ 1000000 ∧ F (ds.take m ++ [.tup (ds.drop m)]) W Q fun _ _ _ => False) := fun vs H Q E ⟨Z, ds, W, Q2, E2, ok, a, f, ca, cx⟩ =>
  spIs_star (F := F) (m := m) vs H Q _ ⟨Z, ds, W, Q2, _, ok, a, f, ca, fun _ _ _ _ _ _ e => e.elim⟩
end
section
variable {K : PySem.W.Frag} {φ : Phi} {Z : List Addr} {W W1 : Wd} {H H1 : Hp} {T Ta Tb Tc : T2} {As Ks : A2} {σ : L2.St} {env : En} {v : V} {d a b : D} {i : Nat} {p : Addr} {E : XK} {Ex E2 : XK2} {Q : VK} {F : Sp2}
def t2CMethS (C : Addr) (F : Sp2) (Ex : XK2) (T Te : T2) : T2 := fun env W Q => T env W fun o W1 => o = .fn C ∧ Te env W1 fun l W2 => ∃ es, vw W2 l = .lst es ∧ F (.fn C :: es) W2 Q Ex
theorem z_cmethS {C : Addr} {Q : DK} (h : Ta env W fun o W1 => o = .fn C ∧ Tb env W1 fun l W2 => ∃ es, vw W2 l = .lst es ∧ F (.fn C :: es) W2 Q Ex) : t2CMethS C F Ex Ta Tb env W Q := h
def t2MakeZ (C : Addr) (n m : Nat) (F : Fi2) (dd : List D) (idx : List Nat) (Ex : XK2) (As Ks : A2) : T2 := fun env W Q => As env W fun ds W1 => Ks env W1 fun es W2 => PlL ds ∧ PlL es ∧ ds.length = n ∧ es.length = m ∧ F (pick (idx.map (· - 1)) (ds ++ dd ++ es)) W2 (fun fs W3 => Q (.obj C fs) W3) Ex
theorem z_makeZ {C : Addr} {n m : Nat} {Fi : Fi2} {dd : List D} {idx : List Nat} {Q : DK} (h : As env W fun ds W1 => Ks env W1 fun es W2 => PlL ds ∧ PlL es ∧ ds.length = n ∧ es.length = m ∧ Fi (pick (idx.map (· - 1)) (ds ++ dd ++ es)) W2 (fun fs W3 => Q (.obj C fs) W3) Ex) : t2MakeZ C n m Fi dd idx Ex As Ks env W Q := h
end
end Fr
set_option Elab.async false
set_option linter.all false
set_option maxRecDepth 100000
set_option maxHeartbeats 4000000
namespace Fr
open PySem PySem.Spec PyProof.Rows L2
def plO : D → Prop
  | .otp _ => False
  | _ => True
def fldOf : D → D
  | .own p => .fn p
  | d => d
theorem Wd.comm {W : Wd} {x p : Addr} {f g : Bool} {c e : Cell} (n : p ≠ x) : (W.set x f c).set p g e = (W.set p g e).set x f c := by
  funext a
  unfold Wd.set
  by_cases h1 : a = p
  · have : ¬ a = x := fun z => n (h1.symm.trans z)
    rw [if_pos h1, if_neg this, if_pos h1]
  · rw [if_neg h1]
    by_cases h2 : a = x
    · rw [if_pos h2, if_pos h2]
    · rw [if_neg h2, if_neg h2, if_neg h1]
section
variable {K : PySem.W.Frag} {φ : Phi} {Z : List Addr} {W W1 : Wd} {H H1 : Hp} {T Ta Tb Tc : T2} {As Ks : A2} {σ : L2.St} {env : En} {v : V} {d a b : D} {i : Nat} {p : Addr} {E : XK} {Ex E2 : XK2} {Q : VK} {F : Sp2} {S : S2}
/-- o.f = e; a cell of the def that runs may be put there -/
def s2FldO (C : Addr) (f : Str) (To Tv : T2) : S2 := fun E env W => Tv env W fun d W1 => To env W1 fun o W2 => ∃ p fl fs, isCel o p ∧ W2 p = some (fl, .ins C fs) ∧ plO d ∧ fs.length < 1000 ∧ E.nx env (W2.set p fl (.ins C (putF2 f (fldOf d) fs)))
theorem z_sfldO {C : Addr} {f : Str} {E : Ends2} (h : Tb env W fun d W1 => Ta env W1 fun o W2 => ∃ p fl fs, isCel o p ∧ W2 p = some (fl, .ins C fs) ∧ plO d ∧ fs.length < 1000 ∧ E.nx env (W2.set p fl (.ins C (putF2 f (fldOf d) fs)))) : s2FldO C f Ta Tb E env W := h
def s2FldExt (C : Addr) (f : Str) (To Tv : T2) : S2 := fun E env W => To env W fun o W1 => ∃ p l, isCel o p ∧ (∃ fl fs, W1 p = some (fl, .ins C fs) ∧ fs.lookup f = some (.fn l)) ∧ Tv env W1 fun b W2 => ∃ fl fs g ds es, W2 p = some (fl, .ins C fs) ∧ fs.lookup f = some (.fn l) ∧ fs.length < 1000 ∧ W2 l = some (g, .lst ds) ∧ vw W2 b = .lst es ∧ ds.length + es.length ≤ 1000000 ∧ E.nx env (W2.set l g (.lst (ds ++ es)))
theorem z_fldExt {C : Addr} {f : Str} {E : Ends2} (h : Ta env W fun o W1 => ∃ p l, isCel o p ∧ (∃ fl fs, W1 p = some (fl, .ins C fs) ∧ fs.lookup f = some (.fn l)) ∧ Tb env W1 fun b W2 => ∃ fl fs g ds es, W2 p = some (fl, .ins C fs) ∧ fs.lookup f = some (.fn l) ∧ fs.length < 1000 ∧ W2 l = some (g, .lst ds) ∧ vw W2 b = .lst es ∧ ds.length + es.length ≤ 1000000 ∧ E.nx env (W2.set l g (.lst (ds ++ es)))) : s2FldExt C f Ta Tb E env W := h
end
end Fr
set_option Elab.async false
set_option linter.all false
set_option maxRecDepth 100000
set_option maxHeartbeats 4000000
namespace Fr
open PySem PySem.Spec PyProof.Rows L2
abbrev XS2 := En → XK2
section
variable {K : PySem.W.Frag} {φ : Phi} {Z : List Addr} {W W1 : Wd} {H H1 : Hp} {T Ta Tb Tc : T2} {As Ks : A2} {σ : L2.St} {env : En} {v : V} {d a b : D} {i : Nat} {p : Addr} {E : L2.St → XK} {Ex : XS2} {Q : VK} {F : Sp2} {S : S2}
def XOkS (K : PySem.W.Frag) (φ : Phi) (Ex : XS2) (E : L2.St → XK) : Prop := ∀ Z σ H env W, Rel K φ Z σ H env W → CoX K Z H W (Ex env) (E σ)
theorem XOk.s {Ex : XK2} {E : XK} (h : XOk K φ Ex E) : XOkS K φ (fun _ => Ex) (fun _ => E) := fun Z σ H env W R => h Z H W R.ph R.dm
def t2MethZ (C : Addr) (m : Str) (n nk : Nat) (F : Sp2) (dd : List D) (idx : List Nat) (Ex : XS2) (T : T2) (As Ks : A2) : T2 := fun env W Q => T env W fun o W1 => ∃ fs, vw W1 o = .obj C fs ∧ fs.lookup m = none ∧ As env W1 fun ds W2 => Ks env W2 fun es W3 => Pl o ∧ PlL ds ∧ PlL es ∧ ds.length = n ∧ es.length = nk ∧ F (pick idx (o :: ds ++ dd ++ es)) W3 Q (Ex env)
theorem z_methZ {C : Addr} {m : Str} {n nk : Nat} {dd : List D} {idx : List Nat} {Q : DK} (h : T env W fun o W1 => ∃ fs, vw W1 o = .obj C fs ∧ fs.lookup m = none ∧ As env W1 fun ds W2 => Ks env W2 fun es W3 => Pl o ∧ PlL ds ∧ PlL es ∧ ds.length = n ∧ es.length = nk ∧ F (pick idx (o :: ds ++ dd ++ es)) W3 Q (Ex env)) : t2MethZ C m n nk F dd idx Ex T As Ks env W Q := h
def t2CallZS (n m : Nat) (F : Sp2) (dd : List D) (idx : List Nat) (Ex : XS2) (As Ks : A2) : T2 := fun env W Q => As env W fun ds W1 => Ks env W1 fun es W2 => PlL ds ∧ PlL es ∧ ds.length = n ∧ es.length = m ∧ F (pick idx (ds ++ dd ++ es)) W2 Q (Ex env)
theorem z_callZS {n m : Nat} {dd : List D} {idx : List Nat} {Q : DK} (h : As env W fun ds W1 => Ks env W1 fun es W2 => PlL ds ∧ PlL es ∧ ds.length = n ∧ es.length = m ∧ F (pick idx (ds ++ dd ++ es)) W2 Q (Ex env)) : t2CallZS n m F dd idx Ex As Ks env W Q := h
def phiT (K : PySem.W.Frag) (φ : Phi) (x2 : XS2) (Wh : WX) : Phi where
  w0 := φ.w0
  p := fun Z H W => φ.p Z H W ∧ ∀ C fs W' H' dd vs σ' env', x2 env' C fs W' → Bx (bs Z H W) (bs Z H' W') → Dt W W' → (∀ a ∈ Z, H' a = H a) → Rel K φ Z σ' H' env' W' → bs Z H' W' dd = some (.xd vs) → AtF K (bs Z H' W') W' vs fs → Wh (.ref C) (some dd) σ' H'
  st := fun Z H W H' W' h bx dt hz dm => ⟨φ.st _ _ _ _ _ h.1 bx dt hz dm, fun C fs W2 H2 dd vs σ' env' e b t z r a l => h.2 C fs W2 H2 dd vs σ' env' e (bx.trans b) (dt.trans t) (fun x hx => (z x hx).trans (hz x hx)) r a l⟩
theorem Rel.unT {x2 : XS2} {Wh : WX} (r : Rel K (phiT K φ x2 Wh) Z σ H env W) : Rel K φ Z σ H env W := ⟨r.ok, r.len, r.sv, r.dm, r.ph.1⟩
theorem xok_t {x2 : XS2} {Wh : WX} : XOkS K (phiT K φ x2 Wh) x2 (WE Wh) := fun Z σ H env W R C fs W' H' dd vs e g ok a l => R.ph.2 C fs W' H' dd vs σ env e g.bx g.dm.dt g.hid (R.grow g ok).unT a l
/-- a suite: the exception's fields are known -/
def phiE (K : PySem.W.Frag) (φ : Phi) (fs : List (Str × D)) (d : Option Addr) : Phi where
  w0 := φ.w0
  p := fun Z H W => φ.p Z H W ∧ ∃ dd vs, d = some dd ∧ bs Z H W dd = some (.xd vs) ∧ AtF K (bs Z H W) W vs fs
  st := fun Z H W H' W' h bx dt hz dm => ⟨φ.st _ _ _ _ _ h.1 bx dt hz dm, let ⟨dd, vs, e, a, l⟩ := h.2; ⟨dd, vs, e, bx.eq _ _ rfl a, l.mono bx dt⟩⟩
theorem Rel.unE {fs : List (Str × D)} {dx : Option Addr} (r : Rel K (phiE K φ fs dx) Z σ H env W) : Rel K φ Z σ H env W := ⟨r.ok, r.len, r.sv, r.dm, r.ph.1⟩
abbrev Su2 := Addr → Addr → List (Str × D) → S2
def LSu (K : PySem.W.Frag) (φ : Phi) (S : Su2) : Su := fun a cls d D σ H => ∃ C fs, cls = .ref C ∧ LS K (phiE K φ fs d) (S a C fs) D σ H
inductive HP2 where
  | out
  | never
  | as (c : Value) (i : Nat) (S : Su2) (r : HP2)
  | only (c : Value) (S : Su2) (r : HP2)
def HP2.lay (K : PySem.W.Frag) (φ : Phi) : HP2 → HP
  | .out => .out
  | .never => .never
  | .as c i S r => .as c i (LSu K φ S) (r.lay K φ)
  | .only c S r => .only c (LSu K φ S) (r.lay K φ)
def gonE2 (i : Nat) (E : Ends2) : Ends2 := { nx := fun e W => E.nx (e.set i none) W, rt := E.rt, bk := fun e W => E.bk (e.set i none) W, ct := fun e W => E.ct (e.set i none) W }
/-- the clauses; Xo: what goes on behind them -/
def hp2 (K : PySem.W.Frag) (Xo : XS2) (E : Ends2) : HP2 → XS2
  | .out => Xo
  | .never => fun _ _ _ _ => False
  | .as c i S r => fun env C fs W => ∃ b, PySem.W.exmOne K (.ref C) c = some b ∧ (b = true → ∀ a, S a C fs (gonE2 i E) (env.set i (some (.fn a))) W) ∧ (b = false → hp2 K Xo E r env C fs W)
  | .only c S r => fun env C fs W => ∃ b, PySem.W.exmOne K (.ref C) c = some b ∧ (b = true → ∀ a, S a C fs E env W) ∧ (b = false → hp2 K Xo E r env C fs W)
theorem CoE.gon {φ' : Phi} {E2 : Ends2} {D : Ends} (hu : ∀ {σ : L2.St} {H : Hp} {env : En} {W : Wd}, Rel K φ' Z σ H env W → Rel K φ Z σ H env W) (hw : φ'.w0 = φ.w0) (c : CoE K φ Z H W E2 D) : CoE K φ' Z H W (gonE2 i E2) (gonE i D) :=
  ⟨fun e' W' σ' H' q b t z r => c.nx _ W' _ H' q b t z (hu r).wipe, fun e' W' σ' H' q b t z r => c.bk _ W' _ H' q b t z (hu r).wipe, fun e' W' σ' H' q b t z r => c.ct _ W' _ H' q b t z (hu r).wipe, fun d W' v H' q b t z m ok s => c.rt d W' v H' q b t z (hw ▸ m) ok s⟩
theorem CoE.un {φ' : Phi} {E2 : Ends2} {D : Ends} (hu : ∀ {σ : L2.St} {H : Hp} {env : En} {W : Wd}, Rel K φ' Z σ H env W → Rel K φ Z σ H env W) (hw : φ'.w0 = φ.w0) (c : CoE K φ Z H W E2 D) : CoE K φ' Z H W E2 D :=
  ⟨fun e' W' σ' H' q b t z r => c.nx _ W' _ H' q b t z (hu r), fun e' W' σ' H' q b t z r => c.bk _ W' _ H' q b t z (hu r), fun e' W' σ' H' q b t z r => c.ct _ W' _ H' q b t z (hu r), fun d W' v H' q b t z m ok s => c.rt d W' v H' q b t z (hw ▸ m) ok s⟩
theorem hp_go {Xo : XS2} {Wout : WX} {E2 : Ends2} {D : Ends} (hx : XOkS K φ Xo (WE Wout)) : ∀ (l : HP2) {C : Addr} {fs : List (Str × Fr.D)} {dd : Addr} {vs : List (Str × V)} {env : En} {W : Wd} {σ : L2.St} {H : Hp}, hp2 K Xo E2 l env C fs W → CoE K φ Z H W E2 D → Rel K φ Z σ H env W → bs Z H W dd = some (.xd vs) → AtF K (bs Z H W) W vs fs → wHP K Wout D (l.lay K φ) (.ref C) (some dd) σ H
  | .out, C, fs, dd, vs, env, W, σ, H, h, co, R, a, l => hx Z σ H env W R C fs W H dd vs h .refl R.ok a l
  | .never, C, fs, dd, vs, env, W, σ, H, h, co, R, a, l => h.elim
  | .as c i S r, C, fs, dd, vs, env, W, σ, H, ⟨b, hb, h1, h2⟩, co, R, a, l => by
    refine ⟨b, hb, fun e x hx2 => ?_, fun e => hp_go hx r (h2 e) co R a l⟩
    have R2 : Rel K (phiE K φ fs (some dd)) Z (σ.set i (some (.ref x))) H (env.set i (some (.fn x))) W := by
      have R3 := R.set (i := i) (v := .ref x) (d := .fn x) (At.fn x)
      exact ⟨R3.ok, R3.len, R3.sv, R3.dm, R3.ph, dd, vs, rfl, a, l⟩
    exact ⟨C, fs, rfl, Z, _, W, _, R2, h1 e x, co.gon (fun r => r.unE) rfl⟩
  | .only c S r, C, fs, dd, vs, env, W, σ, H, ⟨b, hb, h1, h2⟩, co, R, a, l => by
    refine ⟨b, hb, fun e x hx2 => ?_, fun e => hp_go hx r (h2 e) co R a l⟩
    have R2 : Rel K (phiE K φ fs (some dd)) Z σ H env W := ⟨R.ok, R.len, R.sv, R.dm, R.ph, dd, vs, rfl, a, l⟩
    exact ⟨C, fs, rfl, Z, _, W, _, R2, h1 e x, co.un (fun r => r.unE) rfl⟩
def s2Try (K : PySem.W.Frag) (Xo : XS2) (B : XS2 → S2) (l : HP2) : S2 := fun E env W => B (hp2 K Xo E l) E env W
def tTry2 (K : PySem.W.Frag) (φ : Phi) (B : XS2 → S2) : WX → TS := fun Wh D σ H => ∃ x2, LS K (phiT K φ x2 Wh) (B x2) D σ H
theorem pss_try2 {X : Cx} {ss : List Stmt} {B : XS2 → S2} {Wh : WX} (h : ∀ x2, PSs X ss (LS K (phiT K φ x2 Wh) (B x2))) : PSs X ss (tTry2 K φ B Wh) := ⟨fun pins s σ H D I ⟨x2, q⟩ => (h x2).run pins s σ H D I q⟩
theorem i_try {Xo : XS2} {Wout : WX} {B : XS2 → S2} {l : HP2} (hx : XOkS K φ Xo (WE Wout)) : ∀ D σ H, LS K φ (s2Try K Xo B l) D σ H → tTry2 K φ B (wHP K Wout D (l.lay K φ)) D σ H := fun D σ H ⟨Z, env, W, E2, R, t, co⟩ => by
  refine ⟨hp2 K Xo E2 l, Z, env, W, E2, ⟨R.ok, R.len, R.sv, R.dm, R.ph, fun C fs W' H' dd vs σ' env' h b t z r a al => ?_⟩, t, co.un (fun r => r.unT) rfl⟩
  exact hp_go hx l h (co.step b t z) r a al
theorem xokS_0 {E : L2.St → XK} : XOkS K φ (fun _ _ _ _ => False) E := fun Z σ H env W R C fs W' H' dd vs e g ok a l => e.elim
theorem suOk {X : Cx} {ss : List Stmt} {S : Su2} (h : ∀ (a C : Addr) (fs : List (Str × D)) (oe : Obj) (d : Option Addr) (pn : List (Addr × Obj)), Zc (.ref C) d oe → (∃ vs, oe.data = .fields vs) → PSs (X.suite a ((a, oe) :: pn)) ss (LS K (phiE K φ fs d) (S a C fs))) : SuOk X ss (LSu K φ S) := fun a oe cls d pn hz hf => ⟨fun pins s σ H D I ⟨C, fs, e, q⟩ => by
  subst e
  exact (h a C fs oe d pn hz hf).run pins s σ H D I q⟩
theorem z_try {Xo : XS2} {B : XS2 → S2} {l : HP2} {E : Ends2} (h : B (hp2 K Xo E l) E env W) : s2Try K Xo B l E env W := h
/-- e.f -/
def t2Xf (a C D : Addr) (fs : List (Str × Fr.D)) (f : Str) (T : T2) : T2 := fun env W Q => T env W fun o W1 => o = .fn a ∧ C = D ∧ ∃ d, fs.lookup f = some d ∧ Q d W1
theorem i_xf {a C D : Addr} {fs : List (Str × Fr.D)} {f : Str} {d : Option Addr} : ∀ σ H Q, LE K (phiE K φ fs d) (t2Xf a C D fs f T) σ H Q → tXf a (.ref C) d D f (LE K (phiE K φ fs d) T) σ H Q := fun σ H Q ⟨Z, env, W, Q2, R, t, co⟩ =>
  ⟨Z, env, W, _, R, t, fun o W1 x H1 ⟨eo, ec, y, hl, q⟩ g ok s => by
    subst eo ec
    cases s.sc rfl
    obtain ⟨dd, vs, e, h1, h2⟩ := (R.grow g ok).ph.2
    obtain ⟨u, h3, h4⟩ := h2.look y hl
    exact ⟨rfl, rfl, dd, vs, u, e, bs_le h1, h3, (co.step g).now q ok (.of h4)⟩⟩
theorem z_xf {a C : Addr} {fs : List (Str × Fr.D)} {f : Str} {Q : DK} (h : T env W fun o W1 => o = .fn a ∧ C = C ∧ ∃ d, fs.lookup f = some d ∧ Q d W1) : t2Xf a C C fs f T env W Q := h
def g2SetL (To Ti : T2) : G2 := fun d env W q => To env W fun a W1 => Ti env W1 fun b W2 => ∃ p f ds k j, isCel a p ∧ b = .int k ∧ W2 p = some (f, .lst ds) ∧ ixN ds.length k = some j ∧ Pl d ∧ q env (W2.set p f (.lst (ds.set j d)))
theorem AtL.setT {B : Hp} {v : V} {d : D} (h : At K B W v d) : ∀ {vs : List V} {ds : List D} (j : Nat), AtL K B W vs ds → AtL K B W (vs.set j v) (ds.set j d)
  | _, _, _, .nil => .nil
  | _, _, 0, .cons a l => .cons h l
  | _, _, j + 1, .cons a l => .cons a (AtL.setT h j l)
end
end Fr
set_option Elab.async false
set_option linter.all false
set_option maxRecDepth 100000
set_option maxHeartbeats 4000000
namespace Fr
open PySem PySem.Spec PyProof.Rows L2
section
variable {K : PySem.W.Frag} {φ : Phi} {Z : List Addr} {W W1 : Wd} {H H1 : Hp} {T Ta Tb Tc : T2} {As Ks : A2} {σ : L2.St} {env : En} {v : V} {d a b : D} {i : Nat} {p : Addr} {E : L2.St → XK} {Ex : XS2} {Q : VK} {F : Sp2} {S : S2}
/-- isinstance(e, (c, ..)) -/
def t2IsETu (K : PySem.W.Frag) (a C D : Addr) (T : T2) (As : A2) : T2 := fun env W Q => T env W fun o W1 => o = .fn a ∧ C = D ∧ As env W1 fun cs W2 => ∃ us b, PlL cs ∧ cs.length ≤ 1000000 ∧ cvDs cs = some us ∧ PySem.W.kitAny K (.ref D) us = some b ∧ Q (.bl b) W2
theorem i_isET {a C D : Addr} {fs : List (Str × Fr.D)} {d : Option Addr} : ∀ σ H Q, LE K (phiE K φ fs d) (t2IsETu K a C D T As) σ H Q → tCB (rIsEDT K a D (.ref C) d) (tCons (LE K (phiE K φ fs d) T) (tCons (tTup (LA K (phiE K φ fs d) As)) tNil)) σ H Q := fun σ H Q ⟨Z, env, W, Q2, R, t, co⟩ =>
  ⟨Z, env, W, _, R, t, fun o W1 x H1 ⟨eo, ec, q1⟩ g ok s => by
    subst eo ec
    cases s.sc rfl
    refine ⟨Z, env, W1, _, R.grow g ok, q1, fun cs W2 vs H2 ⟨us, b, pl, hl, hc, hk, q⟩ g2 ok2 l => ⟨le_line (by have := PySem.Paired.length l; omega), fun p hp => ?_⟩⟩
    have a2 := svL l pl
    obtain ⟨g3, ok3⟩ := ok2.new (o := .tup vs) hp
    have gg := (g.trans g2).trans g3
    obtain ⟨dd, ws, e, h1, h2⟩ := (R.grow gg ok3).ph.2
    exact ⟨p, vs, us, b, rfl, rfl, upd_same, ClsVs_of (a2.grow g3) hc, fun dd' z => by rw [e] at z; cases z; exact ⟨ws, bs_le h1⟩, hk, (co.step gg).now q ok3 (.ofS rfl)⟩⟩
theorem z_isET {a C : Addr} {Q : DK} (h : T env W fun o W1 => o = .fn a ∧ C = C ∧ As env W1 fun cs W2 => ∃ us b, PlL cs ∧ cs.length ≤ 1000000 ∧ cvDs cs = some us ∧ PySem.W.kitAny K (.ref C) us = some b ∧ Q (.bl b) W2) : t2IsETu K a C C T As env W Q := h
/-- isinstance(x, (c, ..)) -/
def t2IsiT (K : PySem.W.Frag) (T : T2) (As : A2) : T2 := fun env W Q => T env W fun o W1 => As env W1 fun cs W2 => ∃ t us b, PlL cs ∧ cs.length ≤ 1000000 ∧ TyD K W2 o t ∧ cvDs cs = some us ∧ PySem.W.kitAny K t us = some b ∧ Q (.bl b) W2
theorem z_isiT {Q : DK} (h : T env W fun o W1 => As env W1 fun cs W2 => ∃ t us b, PlL cs ∧ cs.length ≤ 1000000 ∧ TyD K W2 o t ∧ cvDs cs = some us ∧ PySem.W.kitAny K t us = some b ∧ Q (.bl b) W2) : t2IsiT K T As env W Q := h
theorem z_gsetL {q : En → Wd → Prop} (h : Ta env W fun a W1 => Tb env W1 fun b W2 => ∃ p f ds k j, isCel a p ∧ b = .int k ∧ W2 p = some (f, .lst ds) ∧ ixN ds.length k = some j ∧ Pl d ∧ q env (W2.set p f (.lst (ds.set j d)))) : g2SetL Ta Tb d env W q := h
/-- xs.index(y) -/
def t2LIndex (Ta Tb : T2) : T2 := fun env W Q => Ta env W fun a W1 => ∃ ds, a = .lst ds ∧ Tb env W1 fun b W2 => ∃ xs y j z, sVs ds = some xs ∧ sV b = some y ∧ flatV y = true ∧ xs.all flatV = true ∧ xs[j]? = some z ∧ eqV z y = true ∧ (∀ (m : Nat) (z' : V), m < j → xs[m]? = some z' → eqV z' y = false) ∧ Q (.int (j : Nat)) W2
theorem z_lindex {Q : DK} (h : Ta env W fun a W1 => ∃ ds, a = .lst ds ∧ Tb env W1 fun b W2 => ∃ xs y j z, sVs ds = some xs ∧ sV b = some y ∧ flatV y = true ∧ xs.all flatV = true ∧ xs[j]? = some z ∧ eqV z y = true ∧ (∀ (m : Nat) (z' : V), m < j → xs[m]? = some z' → eqV z' y = false) ∧ Q (.int (j : Nat)) W2) : t2LIndex Ta Tb env W Q := h
/-- {k: v, ..} -/
def pr2 : List (T2 × T2) → En → Wd → (List (D × D) → Wd → Prop) → Prop
  | [], env, W, Q => Q [] W
  | (k, v) :: r, env, W, Q => k env W fun x W1 => v env W1 fun y W2 => pr2 r env W2 fun ps W3 => Q ((x, y) :: ps) W3
def t2Disp (ps : List (T2 × T2)) : T2 := fun env W Q => pr2 ps env W fun kds W1 => ∃ kvs : List (Key × D), kds = kvs.map (fun kv => (keyD kv.1, kv.2)) ∧ kvs.length ≤ 15 ∧ PlL (kvs.map (·.2)) ∧ Q (.dic (mergeD [] kvs)) W1
def t2DispO (ps : List (T2 × T2)) : T2 := fun env W Q => pr2 ps env W fun kds W1 => ∃ kvs : List (Key × D), kds = kvs.map (fun kv => (keyD kv.1, kv.2)) ∧ kvs.length ≤ 15 ∧ PlL (kvs.map (·.2)) ∧ ∀ p, W1 p = none → Q (.own p) (W1.set p false (.dic (mergeD [] kvs)))
abbrev PP (K : PySem.W.Frag) (Z : List Addr) (H : Hp) (W : Wd) : V × V → D × D → Prop := fun v d => Sv K Z H W v.1 d.1 ∧ Sv K Z H W v.2 d.2
theorem pairs_go : ∀ (ps : List (T2 × T2)) {σ : L2.St} {H : Hp} {env : En} {W : Wd} {Q2 : List (D × D) → Wd → Prop} {Q : List (V × V) → Hp → Prop}, Rel K phi0 Z σ H env W → pr2 ps env W Q2 → (∀ ds W' vs H', Q2 ds W' → Grow Z H W H' W' → WOk K Z H' W' → Paired (PP K Z H' W') vs ds → Q vs H') → tPairs (ps.map fun p => (LE K phi0 p.1, LE K phi0 p.2)) σ H Q
  | [], σ, H, env, W, Q2, Q, R, t, co => co [] W [] H t .refl R.ok .nil
  | (k, v) :: r, σ, H, env, W, Q2, Q, R, t, co => ⟨Z, env, W, _, R, t, fun x W1 vx H1 q1 g1 ok1 s1 => ⟨Z, env, W1, _, R.grow g1 ok1, q1, fun y W2 vy H2 q2 g2 ok2 s2 => pairs_go r (R.grow (g1.trans g2) ok2) q2 fun ds W3 vs H3 q3 g3 ok3 l3 => co _ W3 _ H3 q3 ((g1.trans g2).trans g3) ok3 (.cons ⟨s1.grow (g2.trans g3), s2.grow g3⟩ l3)⟩⟩
theorem pp_kvs : ∀ {kvs : List (Key × D)} {vs : List (V × V)}, Paired (PP K Z H W) vs (kvs.map fun kv => (keyD kv.1, kv.2)) → PlL (kvs.map (·.2)) → ∃ ws : List (Key × V), vs = ws.map (fun kv => (kV kv.1, kv.2)) ∧ AtK K (bs Z H W) W ws kvs
  | [], vs, l, _ => by
    cases l
    exact ⟨[], rfl, .nil⟩
  | (k, d) :: kvs, vs, l, pl => by
    cases l with
    | @cons v _ vs _ a l =>
      obtain ⟨ws, rfl, h⟩ := pp_kvs l pl.2
      refine ⟨(k, v.2) :: ws, ?_, .cons (a.2.at pl.1) h⟩
      have := sv_key a.1
      rw [List.map_cons]
      congr 1
      exact Prod.ext this rfl
theorem disp_go {ps : List (T2 × T2)} {Qd : List (Key × D) → Wd → Prop} (R : Rel K φ Z σ H env W) (t : pr2 ps env W fun kds W1 => ∃ kvs : List (Key × D), kds = kvs.map (fun kv => (keyD kv.1, kv.2)) ∧ kvs.length ≤ 15 ∧ PlL (kvs.map (·.2)) ∧ Qd kvs W1)
    (fin : ∀ p kvs W1 H1 ws, H p = none → Qd kvs W1 → Bx (bs Z H W) (bs (p :: Z) H1 W1) → Dm W W1 → (∀ a ∈ Z, H1 a = H a) → WOk K (p :: Z) H1 W1 → H1 p = some (.dK []) → AtK K (bs (p :: Z) H1 W1) W1 ws kvs → Q (.ref p) (upd H1 p (.dK (mergeK [] ws)))) : tDisp (ps.map fun p => (LE K phi0 p.1, LE K phi0 p.2)) σ H Q := fun p hp => by
  have ok' := R.ok.hide (o := .dK []) hp
  have R' : Rel K phi0 (p :: Z) σ (upd H p (.dK [])) env W := R.to (by rw [bs_hide hp]; exact .refl) .refl ok'
  refine pairs_go ps R' t fun ds W1 vs H1 ⟨kvs, e, hl, pl, q⟩ g ok1 l => ?_
  subst e
  obtain ⟨ws, rfl, a⟩ := pp_kvs l pl
  have hp1 : H1 p = some (.dK []) := (g.hid p List.mem_cons_self).trans upd_same
  have hz : ∀ a ∈ Z, H1 a = H a := fun a m => (g.hid a (List.mem_cons_of_mem _ m)).trans (upd_ne fun z => R.ok.nz hp (z ▸ m))
  refine ⟨hp1, ws, rfl, by rw [a.len]; exact hl, fin p kvs W1 H1 ws hp q ?_ g.dm hz ok1 hp1 a⟩
  have := g.bx
  rw [bs_hide hp] at this
  exact this
theorem i_disp {ps : List (T2 × T2)} : ∀ σ H Q, LE K φ (t2Disp ps) σ H Q → tDisp (ps.map fun p => (LE K phi0 p.1, LE K phi0 p.2)) σ H Q := fun σ H Q ⟨Z, env, W, Q2, R, t, co⟩ =>
  disp_go R t fun p kvs W1 H1 ws hp q bx dm hz ok1 hp1 a => by
    have eD : p ∈ p :: Z := List.mem_cons_self
    have ok2 := ok1.hid (o := .dK (mergeK [] ws)) eD (ok1.zd eD hp1)
    obtain ⟨bu, ou⟩ := ok2.unhide (ok1.zd eD hp1)
    have hpz : p ∉ Z := R.ok.nz hp
    have bx2 : Bx (bs Z H W) (bs Z (upd H1 p (.dK (mergeK [] ws))) W1) := by
      rw [bs_hid eD] at bu
      exact bx.trans bu
    refine co (.dic (mergeD [] kvs)) W1 _ _ q ⟨bx2, dm, fun a m => by rw [upd_ne (show a ≠ p from fun z => hpz (by rw [← z]; exact m))]; exact hz a m⟩ ou (.of (.dic (.inl ?_) ((AtK.merge a .nil).mono ?_ .refl)))
    · unfold bs
      rw [if_neg (by simp [hpz, ok1.zd eD hp1])]
      exact upd_same
    · rw [bs_hid eD] at bu
      exact bu
theorem z_disp {ps : List (T2 × T2)} {Q : DK} (h : pr2 ps env W fun kds W1 => ∃ kvs : List (Key × D), kds = kvs.map (fun kv => (keyD kv.1, kv.2)) ∧ kvs.length ≤ 15 ∧ PlL (kvs.map (·.2)) ∧ Q (.dic (mergeD [] kvs)) W1) : t2Disp ps env W Q := h
theorem z_dispO {ps : List (T2 × T2)} {Q : DK} (h : pr2 ps env W fun kds W1 => ∃ kvs : List (Key × D), kds = kvs.map (fun kv => (keyD kv.1, kv.2)) ∧ kvs.length ≤ 15 ∧ PlL (kvs.map (·.2)) ∧ ∀ p, W1 p = none → Q (.own p) (W1.set p false (.dic (mergeD [] kvs)))) : t2DispO ps env W Q := h
theorem z_pr {Qp : List (D × D) → Wd → Prop} {r : List (T2 × T2)} (h : Ta env W fun x W1 => Tb env W1 fun y W2 => pr2 r env W2 fun ps W3 => Qp ((x, y) :: ps) W3) : pr2 ((Ta, Tb) :: r) env W Qp := h
theorem z_pr0 {Qp : List (D × D) → Wd → Prop} (h : Qp [] W) : pr2 [] env W Qp := h
end
section
variable {K : PySem.W.Frag} {φ : Phi} {W : Wd} {env : En} {E : Ends2}
/-- x, y, z = a, b, c -/
def s2Par3 (i j l : Nat) (As : A2) : S2 := fun E env W => As env W fun ds W1 => ∃ a b c, ds = [a, b, c] ∧ E.nx (((env.set i (some a)).set j (some b)).set l (some c)) W1
theorem z_par3 {i j l : Nat} {As : A2} (h : As env W fun ds W1 => ∃ a b c, ds = [a, b, c] ∧ E.nx (((env.set i (some a)).set j (some b)).set l (some c)) W1) : s2Par3 i j l As E env W := h
end
section
variable {K : PySem.W.Frag} {Z : List Addr} {W W1 : Wd} {H H1 : Hp} {b : Addr}
theorem keep_bag (ok : WOk K Z H W) {n m : Nat} {f : Bool} (hb : W b = some (f, .bag n)) (k : Keep [b] H H1) (hB : Bag H1 b m) : Grow Z H W H1 (W.set b f (.bag m)) ∧ WOk K Z H1 (W.set b f (.bag m)) := by
  have dm : Dm W (W.set b f (.bag m)) := dm_put hb
  have bx : Bx (bs Z H W) (bs Z H1 (W.set b f (.bag m))) := by
    have le : ∀ {a : Addr} {o : HO}, bs Z H W a = some o → bs Z H1 (W.set b f (.bag m)) a = some o := fun {a o} h => by
      have na : a ≠ b := fun z => by
        unfold bs at h
        rw [z, hb] at h
        simp at h
      have := (k a o (bs_le h)).2 (by simp [na])
      unfold bs at h ⊢
      rw [Wd.ne na]
      split at h
      · cases h
      · rename_i n
        rw [if_neg n]
        exact this
    exact ⟨fun a o _ h => le h, fun a kvs h => h.imp le fun ⟨o, e⟩ => ⟨o, le e⟩⟩
  have nz : ∀ a ∈ Z, a ≠ b := fun a m => (ok.z a m).1.ne hb trivial
  have hz : ∀ a ∈ Z, H1 a = H a := fun a m => by
    obtain ⟨o, e⟩ := (ok.z a m).2
    rw [(k a o e).2 (by simp [nz a m]), e]
  refine ⟨⟨bx, dm, hz⟩, fun a g c h => ?_, fun a m => ⟨?_, by rw [hz a m]; exact (ok.z a m).2⟩, fun P q kt => ?_, lk_set trivial ok.l⟩
  · by_cases e : a = b
    · subst e
      rw [Wd.same] at h
      cases h
      exact hB
    · rw [Wd.ne e] at h
      obtain ⟨o, e2⟩ := (ok.c a g c h).has
      exact (ok.c a g c h).to bx dm.dt (by rw [(k a o e2).2 (by simp [e]), e2])
  · unfold NoC
    rw [Wd.ne (nz a m)]
    exact (ok.z a m).1
  · have y := ok.t P q kt
    rw [Wd.ne (fun z => by rw [z, hb] at y; cases y)]
    exact y
def F_take : Sp2 := fun ds W Q _ => ∃ (b : Addr) (m : Int) (n : Nat) (f : Bool), ds = [.cel b, .int m] ∧ 0 < m ∧ m < 1073741824 ∧ W b = some (f, .bag n) ∧ n < 1073741824 ∧ ∀ r : Int, 0 ≤ r → r < m → Q (.int r) (W.set b f (.bag (n + 1)))
theorem is_take : SpIs K spTake F_take := fun vs H Q E ⟨Z, ds, W, Q2, E2, ok, a, ⟨b, m, n, f, e, h1, h2, h3, h4, q⟩, ca, cx⟩ => by
  subst e
  cases a with
  | cons a1 a =>
    cases a with
    | cons a2 a =>
      cases a
      cases a1
      cases a2
      refine ⟨b, m, n, rfl, h1, h2, ok.c _ _ _ h3, h4, fun r H' r0 rm k hB => ?_⟩
      obtain ⟨g, ok2⟩ := keep_bag ok h3 k hB
      exact ca _ _ _ _ (q r r0 rm) g ok2 (.int r)
def F_bag : Sp2 := fun ds W Q _ => ∃ n : Int, ds = [.int n] ∧ ∀ p, W p = none → Q (.cel p) (W.set p true (.bag 0))
theorem is_bag : SpIs K spBag F_bag := fun vs H Q E ⟨Z, ds, W, Q2, E2, ok, a, ⟨n, e, q⟩, ca, cx⟩ => by
  subst e
  cases a with
  | cons a1 a =>
    cases a
    cases a1
    refine ⟨n, rfl, fun p o hp hB => ?_⟩
    obtain ⟨g, ok2⟩ := ok.cell (o := o) (f := true) (c := .bag 0) hp hB
    exact ca _ _ _ _ (q p (ok.free hp)) g ok2 (.of (.cel Wd.same))
def F_cell : Sp2 := fun ds W Q _ => ∃ (ns : List Int) (k : Nat), ds = [.scr ns, .int (k : Nat)] ∧ k < 1000 ∧ ∀ r : Int, Q (.int r) W
theorem is_cell : SpIs K (spCell K) F_cell := fun vs H Q E ⟨Z, ds, W, Q2, E2, ok, a, ⟨ns, k, e, hk, q⟩, ca, cx⟩ => by
  subst e
  cases a with
  | cons a1 a =>
    cases a with
    | cons a2 a =>
      cases a
      cases a2
      cases a1 with
      | @scr p _ s => exact ⟨p, ns, k, rfl, sqL_up s, hk, fun r => ca _ _ _ _ (q r) .refl ok (.int r)⟩
end
def spLaw2 (K : PySem.W.Frag) : Sp := fun vs H Q _ => ∃ (a : Addr) (ns : List Int), vs = [.ref a] ∧ SqL K H a (ns.map V.int) ∧ ns.length ≤ 63 ∧ (∀ P q, KT K P q → H P = some (.tbl #[])) ∧ ∀ H', Q (.bl true) H'
def F_law : Sp2 := fun ds W Q _ => ∃ ns : List Int, ds = [.scr ns] ∧ ns.length ≤ 63 ∧ ∀ W', Q (.bl true) W'
/-- the world at the start: the tables -/
def wTabs (K : PySem.W.Frag) : Wd := fun P => ((lamTabs K).lookup P).map fun q => (true, .tbl q)
theorem wTabs_of {K : PySem.W.Frag} {a : Addr} {f : Bool} {c : Cell} (e : wTabs K a = some (f, c)) : ∃ q, KT K a q ∧ c = .tbl q ∧ f = true := by
  unfold wTabs at e
  cases h : (lamTabs K).lookup a with
  | none =>
    rw [h] at e
    cases e
  | some q =>
    rw [h] at e
    cases e
    exact ⟨q, h, rfl, rfl⟩
theorem law_is {K : PySem.W.Frag} {vs : List V} {H : Hp} {Q : VK} {E : XK} (h : spLaw2 K vs H Q E) : ∃ Z ds Q2 E2, WOk K Z H (wTabs K) ∧ AtL K (bs Z H (wTabs K)) (wTabs K) vs ds ∧ F_law ds (wTabs K) Q2 E2 ∧ CoA K Z H (wTabs K) Q2 Q ∧ CoX K Z H (wTabs K) E2 E := by
  obtain ⟨a, ns, rfl, hs, hl, ht, q⟩ := h
  refine ⟨[], [.scr ns], fun d _ => d = .bl true, fun _ _ _ => False, ⟨fun a f c e => ?_, fun a m => absurd m List.not_mem_nil, fun P q k => ?_, fun a f k e => ?_⟩, .cons (.scr ?_) .nil, ⟨ns, rfl, hl, fun _ => rfl⟩, fun d W' v H' e g ok s => ?_, fun _ _ _ _ _ _ e => e.elim⟩
  · obtain ⟨q, k, rfl, _⟩ := wTabs_of e
    exact TabCell.nil (ht _ _ k)
  · unfold wTabs
    rw [show (lamTabs K).lookup P = some q from k]
    rfl
  · obtain ⟨q, k, z, _⟩ := wTabs_of e
    cases z
  · have up : ∀ {o : HO}, (∀ ps, o ≠ .tbl ps) → H a = some o → bs [] H (wTabs K) a = some o := fun {o} n e => by
      unfold bs
      rw [if_neg ?_]
      · exact e
      · rintro (z | z)
        · cases z
        · cases h : wTabs K a with
          | none => rw [h] at z; cases z
          | some fc =>
            obtain ⟨q, k, _⟩ := wTabs_of (f := fc.1) (c := fc.2) h
            rw [ht _ _ k] at e
            exact n _ (Option.some.inj e).symm
    exact hs.imp (fun h => h.imp (up fun ps z => by cases z) fun ⟨o, e⟩ => ⟨o, up (fun ps z => by cases z) e⟩) id
  · subst e
    cases s
    exact q H'
theorem z_ip {W : Wd} {Q : DK} {x y : Int} {f : Int → Int → Int} (k : Q (.int (f x y)) W) : r2s (ipI f) (.int x) (.int y) W Q := ⟨_, _, rfl, rfl, fun H Q' hq => ⟨_, _, rfl, rfl, hq _ _ rfl k⟩⟩
section
variable {K : PySem.W.Frag} {φ : Phi} {W : Wd} {env : En} {As : A2} {T : T2}
def ownsOf : List D → Option (List Addr)
  | [] => some []
  | .own p :: r => (ownsOf r).map (p :: ·)
  | _ :: _ => none
def t2TupO (As : A2) : T2 := fun env W Q => As env W fun ds W1 => ∃ ps, ownsOf ds = some ps ∧ ds.length ≤ 1000000 ∧ Q (.otp ps) W1
theorem z_tupO {Q : DK} (h : As env W fun ds W1 => ∃ ps, ownsOf ds = some ps ∧ ds.length ≤ 1000000 ∧ Q (.otp ps) W1) : t2TupO As env W Q := h
/-- x, y, .. = t, names alone -/
def g2Otp (is : List Nat) : G2 := fun d env W q => ∃ ps, d = .otp ps ∧ ps.length = is.length ∧ q ((is.zip ps).foldl (fun e ip => e.set ip.1 (some (.own ip.2))) env) W
theorem z_gotp {is : List Nat} {ps : List Addr} {q : En → Wd → Prop} (hl : ps.length = is.length) (h : q ((is.zip ps).foldl (fun e ip => e.set ip.1 (some (.own ip.2))) env) W) : g2Otp is (.otp ps) env W q := ⟨ps, rfl, hl, h⟩
end
theorem Passes.at {X : Cx} {CX : CXT} {E : XK} (h : Passes CX X E) (σ : L2.St) : PassesAt CX X σ ((fun _ => E) σ) := fun pins H s e s' I c => h pins σ H s e s' I c
theorem _root_.L2.FnOk.to {P : Program} {w : World} {K : PySem.W.Frag} {mg : Str → Option Value} {base : Heap} {CX : CXT} {k : Nat} {f : Addr} {fd : FuncData} {ps : List Str} {sp sp' : Sp} (F : FnOk P w K mg base CX k f fd ps sp) (h : ∀ vs H Q E, sp' vs H Q E → sp vs H Q E) : FnOk P w K mg base CX k f fd ps sp' :=
  ⟨fun vs H Q E q => F.len vs H Q E (h _ _ _ _ q), fun A outer s H args us vs Q E hr e0 hb hv q => F.run A outer s H args us vs Q E hr e0 hb hv (h _ _ _ _ q)⟩
end Fr
set_option Elab.async false
set_option linter.all false
set_option maxRecDepth 100000
set_option maxHeartbeats 4000000
namespace Fr
open PySem PySem.Spec PyProof.Rows L2
section
variable {W W1 : Wd} {env : En} {Q : DK} {a b d : D} {s z : Str} {c : Nat}
theorem z_lenS (h : z.length ≤ 1000000) (k : Q (.int (z.length : Nat)) W) : rLs (fun xs H Q => ∃ z, xs = [V.str z] ∧ z.length ≤ sizeLine ∧ Q (.int z.length) H) [.str z] W Q := ⟨_, rfl, fun H Q' hq => ⟨z, rfl, le_line (by omega), hq _ _ rfl k⟩⟩
theorem z_inSign (k : Q (.bl (decide (c ∈ z.cps.toList))) W) : r2s (fun x y H Q => ∃ c z, x = V.str { cps := #[c] } ∧ y = .str z ∧ Q (.bl (decide (c ∈ z.cps.toList))) H) (.str (mkS [c])) (.str z) W Q := ⟨_, _, rfl, rfl, fun H Q' hq => ⟨c, z, rfl, rfl, hq _ _ rfl k⟩⟩
end
end Fr
set_option Elab.async false
set_option linter.all false
set_option maxRecDepth 100000
set_option maxHeartbeats 4000000
set_option Elab.async false
set_option linter.all false
set_option maxRecDepth 100000
set_option maxHeartbeats 4000000
namespace Fr
open PySem PySem.Spec PyProof.Rows L2
inductive E where
  | non | bl (b : Bool) | int (i : Int) | str (s : Str) | ty (n : String) | fn (n : String)
  | lst (ds : List E) | tup (ds : List E) | dic (kvs : List (Key × E)) | scr (ns : List Int)
  | obj (C : String) (fs : List (Str × E))
  | cel (a : Addr)
  | ety (a : Addr)
inductive CellE where
  | lst (ds : List E) | dic (kvs : List (Key × E)) | ins (C : String) (fs : List (Str × E)) | bag (n : Nat) | ldic (kvs : List (Key × E))
abbrev WE := Addr → Option CellE
def WE.set (W : WE) (a : Addr) (c : CellE) : WE := fun b => if b = a then some c else W b
theorem WE.same {W : WE} {a : Addr} {c : CellE} : (W.set a c) a = some c := if_pos rfl
theorem WE.ne {W : WE} {a b : Addr} {c : CellE} (h : b ≠ a) : (W.set a c) b = W b := if_neg h
theorem WE.setSet {W : WE} {a : Addr} {c e : CellE} : (W.set a c).set a e = W.set a e := by
  funext b
  unfold WE.set
  split <;> rfl
theorem WE.comm {W : WE} {a b : Addr} {c e : CellE} (n : a ≠ b) : (W.set a c).set b e = (W.set b e).set a c := by
  funext x
  unfold WE.set
  by_cases h1 : x = b
  · rw [if_pos h1, if_neg (fun z => n (z.symm.trans h1)), if_pos h1]
  · rw [if_neg h1]
    by_cases h2 : x = a
    · rw [if_pos h2, if_pos h2]
    · rw [if_neg h2, if_neg h2, if_neg h1]
mutual
def tD (K : PySem.W.Frag) : E → D
  | .non => .non | .bl b => .bl b | .int i => .int i | .str s => .str s | .ty n => .ty n | .fn n => .fn (He.ga K n)
  | .lst ds => .lst (tDs K ds) | .tup ds => .tup (tDs K ds) | .dic kvs => .dic (tDk K kvs) | .scr ns => .scr ns
  | .obj C fs => .obj (He.ga K C) (tDf K fs) | .cel a => .cel a | .ety a => .fn a
def tDs (K : PySem.W.Frag) : List E → List D
  | [] => []
  | d :: ds => tD K d :: tDs K ds
def tDk (K : PySem.W.Frag) : List (Key × E) → List (Key × D)
  | [] => []
  | (k, d) :: ds => (k, tD K d) :: tDk K ds
def tDf (K : PySem.W.Frag) : List (Str × E) → List (Str × D)
  | [] => []
  | (k, d) :: ds => (k, tD K d) :: tDf K ds
end
def tC (K : PySem.W.Frag) : CellE → Cell
  | .lst ds => .lst (tDs K ds) | .dic kvs => .dic (tDk K kvs) | .ins C fs => .ins (He.ga K C) (tDf K fs) | .bag n => .bag n | .ldic kvs => .ldic (tDk K kvs)
section
variable {K : PySem.W.Frag}
theorem tDs_map : ∀ ds : List E, tDs K ds = ds.map (tD K)
  | [] => by simp [tDs]
  | d :: ds => by simp [tDs, tDs_map ds]
theorem tDk_map : ∀ ds : List (Key × E), tDk K ds = ds.map fun kv => (kv.1, tD K kv.2)
  | [] => by simp [tDk]
  | (k, d) :: ds => by simp [tDk, tDk_map ds]
theorem tDf_map : ∀ ds : List (Str × E), tDf K ds = ds.map fun kv => (kv.1, tD K kv.2)
  | [] => by simp [tDf]
  | (k, d) :: ds => by simp [tDf, tDf_map ds]
theorem pl_tD (e : E) : Pl (tD K e) := by cases e <;> (unfold tD; trivial)
theorem plL_tDs : ∀ ds : List E, PlL (tDs K ds)
  | [] => by simp [tDs, PlL]
  | d :: ds => by simp [tDs, PlL, pl_tD d, plL_tDs ds]
theorem plL_map (ds : List E) : PlL (ds.map (tD K)) := by rw [← tDs_map]; exact plL_tDs ds
end
inductive Tr (α : Type) where
  | ret (a : α) (W : WE)
  | exc (C : String) (fs : List (Str × E)) (W : WE)
  | stuck
  | pick (n : Nat) (k : Nat → Tr α)
  | new (W : WE) (k : Addr → Tr α)
  | any (k : Int → Tr α)
namespace Tr
variable {α β γ : Type}
def bind : Tr α → (α → WE → Tr β) → Tr β
  | .ret a W, f => f a W
  | .exc C fs W, _ => .exc C fs W
  | .stuck, _ => .stuck
  | .pick n k, f => .pick n fun i => (k i).bind f
  | .new W k, f => .new W fun p => (k p).bind f
  | .any k, f => .any fun i => (k i).bind f
end Tr
abbrev XE := String → List (Str × E) → WE → Prop
def Sat {α : Type} : Tr α → (α → WE → Prop) → XE → Prop
  | .ret a W, Q, _ => Q a W
  | .exc C fs W, _, X => X C fs W
  | .stuck, _, _ => False
  | .pick n k, Q, X => ∀ i, i < n → Sat (k i) Q X
  | .new W k, Q, X => ∀ p, W p = none → Sat (k p) Q X
  | .any k, Q, X => ∀ i, Sat (k i) Q X
section
variable {α β : Type} {Q Q' : α → WE → Prop} {X X' : XE}
theorem Sat.mono : ∀ {t : Tr α}, Sat t Q X → (∀ a W, Q a W → Q' a W) → (∀ C fs W, X C fs W → X' C fs W) → Sat t Q' X'
  | .ret a W, h, f, g => f _ _ h
  | .exc C fs W, h, f, g => g _ _ _ h
  | .stuck, h, f, g => h
  | .pick n k, h, f, g => fun i hi => Sat.mono (h i hi) f g
  | .new W k, h, f, g => fun p hp => Sat.mono (h p hp) f g
  | .any k, h, f, g => fun p => Sat.mono (h p) f g
theorem sat_bind {f : α → WE → Tr β} {Q : β → WE → Prop} : ∀ {t : Tr α}, Sat (t.bind f) Q X ↔ Sat t (fun a W => Sat (f a W) Q X) X
  | .ret a W => Iff.rfl
  | .exc C fs W => Iff.rfl
  | .stuck => Iff.rfl
  | .pick n k => forall_congr' fun i => forall_congr' fun _ => sat_bind
  | .new W k => forall_congr' fun p => forall_congr' fun _ => sat_bind
  | .any k => forall_congr' fun p => sat_bind
end
def Shr (K : PySem.W.Frag) (W3 : WE) (W : Wd) : Prop := ∀ a c, W3 a = some c → W a = some (true, tC K c)
structure Kp (W W' : Wd) : Prop where
  f : ∀ a c, W a = some (false, c) → W' a = some (false, c)
  n : ∀ a, W' a = none → W a = none
theorem Kp.refl {W : Wd} : Kp W W := ⟨fun _ _ h => h, fun _ h => h⟩
theorem Kp.trans {W W1 W2 : Wd} (x : Kp W W1) (y : Kp W1 W2) : Kp W W2 := ⟨fun a c h => y.f a c (x.f a c h), fun a h => x.n a (y.n a h)⟩
section
variable {K : PySem.W.Frag} {W : Wd} {W3 : WE}
theorem Shr.set (h : Shr K W3 W) {a : Addr} {c : CellE} : Shr K (W3.set a c) (W.set a true (tC K c)) := fun b x hb => by
  unfold WE.set at hb
  unfold Wd.set
  by_cases e : b = a
  · rw [if_pos e] at hb ⊢
    cases hb
    rfl
  · rw [if_neg e] at hb ⊢
    exact h b x hb
theorem Shr.setF (h : Shr K W3 W) {a : Addr} {c : Cell} (hn : ∀ x, W a ≠ some (true, x)) : Shr K W3 (W.set a false c) := fun b x hb => by
  unfold Wd.set
  by_cases e : b = a
  · subst e
    exact absurd (h b x hb) (hn _)
  · rw [if_neg e]
    exact h b x hb
theorem Shr.del (h : Shr K W3 W) {a : Addr} (hn : ∀ x, W a ≠ some (true, x)) : Shr K W3 (W.del a) := fun b x hb => by
  unfold Wd.del
  by_cases e : b = a
  · subst e
    exact absurd (h b x hb) (hn _)
  · rw [if_neg e]
    exact h b x hb
theorem Kp.setT {a : Addr} {c : Cell} (hn : ∀ x, W a ≠ some (false, x)) : Kp W (W.set a true c) := ⟨fun b x hb => by
  unfold Wd.set
  by_cases e : b = a
  · subst e
    exact absurd hb (hn _)
  · rw [if_neg e]
    exact hb, fun b hb => by
  unfold Wd.set at hb
  by_cases e : b = a
  · rw [if_pos e] at hb
    cases hb
  · rw [if_neg e] at hb
    exact hb⟩
theorem Kp.setN {a : Addr} {f : Bool} {c : Cell} (hn : W a = none) : Kp W (W.set a f c) := ⟨fun b x hb => by
  unfold Wd.set
  by_cases e : b = a
  · subst e
    rw [hn] at hb
    cases hb
  · rw [if_neg e]
    exact hb, fun b hb => by
  unfold Wd.set at hb
  by_cases e : b = a
  · rw [if_pos e] at hb
    cases hb
  · rw [if_neg e] at hb
    exact hb⟩
/-- a cell that was not there at first -/
theorem Kp.set0 {kb : Wd} (k : Kp kb W) {a : Addr} {f : Bool} {c : Cell} (hn : kb a = none) : Kp kb (W.set a f c) := ⟨fun b x hb => by
  unfold Wd.set
  by_cases e : b = a
  · subst e
    rw [hn] at hb
    cases hb
  · rw [if_neg e]
    exact k.f b x hb, fun b hb => by
  unfold Wd.set at hb
  by_cases e : b = a
  · rw [if_pos e] at hb
    cases hb
  · rw [if_neg e] at hb
    exact k.n b hb⟩
theorem Kp.del {kb : Wd} (k : Kp kb W) {a : Addr} (hn : kb a = none) : Kp kb (W.del a) := ⟨fun b x hb => by
  unfold Wd.del
  by_cases e : b = a
  · subst e
    rw [hn] at hb
    cases hb
  · rw [if_neg e]
    exact k.f b x hb, fun b hb => by
  unfold Wd.del at hb
  by_cases e : b = a
  · rw [e]
    exact hn
  · rw [if_neg e] at hb
    exact k.n b hb⟩
end
/-- what is seen of a value: a cell that is shared is looked up -/
def vE (W : WE) : E → E
  | .cel p => match W p with
    | some (.lst ds) => .lst ds
    | some (.dic ds) => .dic ds
    | some (.ldic ds) => .dic ds
    | some (.ins C fs) => .obj C fs
    | _ => .cel p
  | e => e
/-- a value or a cell of the def that runs -/
def RV (K : PySem.W.Frag) (W : Wd) (e : E) (d : D) : Prop := d = tD K e ∨ ∃ p c, d = .own p ∧ W p = some (false, c) ∧ frzC c = some (tD K e)
section
variable {K : PySem.W.Frag} {W : Wd} {W3 : WE} {e : E} {d : D}
theorem RV.mono (h : RV K W e d) {W' : Wd} (k : Kp W W') : RV K W' e d := h.imp id fun ⟨p, c, h1, h2, h3⟩ => ⟨p, c, h1, k.f _ _ h2, h3⟩
theorem frz_vw {p : Addr} {f : Bool} {c : Cell} (h : W p = some (f, c)) (h2 : frzC c = some d) : vw W (.own p) = d := by
  unfold vw
  dsimp only
  rw [h]
  cases c <;> cases h2 <;> rfl
theorem RV.vw (h : RV K W e d) (sh : Shr K W3 W) (hc : ∀ a, vE W3 e ≠ .cel a) : vw W d = tD K (vE W3 e) := by
  rcases h with rfl | ⟨p, c, rfl, h2, h3⟩
  · cases e <;> first | (simp only [tD, vE, Fr.vw]; done) | skip
    rename_i a
    unfold vE at hc ⊢
    dsimp only at hc ⊢
    cases h : W3 a with
    | none => rw [h] at hc; exact absurd rfl (hc a)
    | some c =>
      rw [h] at hc
      have := sh a c h
      cases c with
      | bag n => exact absurd rfl (hc a)
      | lst ds => simp only [tD, Fr.vw, this, tC]
      | dic ds => simp only [tD, Fr.vw, this, tC]
      | ldic ds => simp only [tD, Fr.vw, this, tC]
      | ins C ds => simp only [tD, Fr.vw, this, tC]
  · have e2 := frz_vw h2 h3
    rw [e2]
    cases e <;> first | rfl | (exfalso; unfold tD at h3; cases c <;> cases h3)
theorem RV.sc (h : RV K W e d) {v : V} (hs : sV (tD K e) = some v) : d = tD K e := by
  rcases h with rfl | ⟨p, c, rfl, h2, h3⟩
  · rfl
  · exfalso
    cases c <;> first | (cases h3; done) | (injection h3 with h3; rw [← h3] at hs; cases hs)
end
inductive Sl where
  | no | pl (e : E) | ow (e : E) | sf (e : E) | sg (e : E) (f : Str) (x : E) | un
def plno : Sl → Prop
  | .no => True
  | .pl _ => True
  | _ => False
abbrev En3 := List Sl
structure Rn (K : PySem.W.Frag) (w0 kb : Wd) (env3 : En3) (env : En) (W : Wd) : Prop where
  len : env.length = env3.length
  pl : ∀ (i : Nat) (e : E), env3[i]? = some (.pl e) → env[i]? = some (some (tD K e))
  ow : ∀ (i : Nat) (e : E), env3[i]? = some (.ow e) → ∃ p c, env[i]? = some (some (.own p)) ∧ W p = some (false, c) ∧ frzC c = some (tD K e) ∧ w0 p = none
  sf : ∀ (i : Nat) (e : E), env3[i]? = some (.sf e) → ∃ p c, env[i]? = some (some (.own p)) ∧ W p = some (false, c) ∧ frzC c = some (tD K e) ∧ kb p = none ∧ w0 p ≠ none
  inj : ∀ (i j : Nat) (e e' : E) (p : Addr), (env3[i]? = some (.ow e) ∨ env3[i]? = some (.sf e)) → (env3[j]? = some (.ow e') ∨ env3[j]? = some (.sf e')) → env[i]? = some (some (.own p)) → env[j]? = some (some (.own p)) → i = j
  kp : Kp kb W
  dm : ∀ a, W a = none → w0 a = none
  kw : ∀ a, w0 a = none → kb a = none
  fl : ∀ a c, w0 a = some (false, c) → ∃ c', W a = some (false, c')
  no : ∀ (i : Nat), env3[i]? = some Sl.no → env[i]? = some none
  sg : ∀ (i : Nat) (e : E) (f : Str) (x : E), env3[i]? = some (.sg e f x) → (∃ p l C fs c, e = .obj C fs ∧ env[i]? = some (some (.own p)) ∧ W p = some (false, .ins (He.ga K C) (putF2 f (.fn l) (tDf K fs))) ∧ W l = some (false, c) ∧ frzC c = some (tD K x) ∧ kb p = none ∧ w0 p ≠ none ∧ w0 l = none ∧ fs.lookup f = none) ∧ ∀ j s, env3[j]? = some s → j ≠ i → plno s
abbrev E3 := En3 → WE → Tr E
abbrev A3 := En3 → WE → Tr (List E)
abbrev B3 := En3 → WE → Tr Bool
abbrev O3 := En3 → WE → Tr (Option Int)
inductive Out where
  | nx (e : En3) | rt (d : E) | bk (e : En3) | ct (e : En3)
abbrev S3 := En3 → WE → Tr Out
def XT (K : PySem.W.Frag) (Ex : XK2) (W : Wd) : XE := fun C fs W3 => ∀ W', Kp W W' → Shr K W3 W' → Ex (He.ga K C) (tDf K fs) W'
theorem XT.step {K : PySem.W.Frag} {Ex : XK2} {W W1 : Wd} {C : String} {fs : List (Str × E)} {W3 : WE} (k : Kp W W1) (h : XT K Ex W C fs W3) : XT K Ex W1 C fs W3 := fun W' k' sh => h W' (k.trans k') sh
def XS (K : PySem.W.Frag) (Ex : XK2) (w0 kb : Wd) : XE := fun C fs W3 => ∀ W', Kp kb W' → (∀ a c, w0 a = some (false, c) → ∃ c', W' a = some (false, c')) → Shr K W3 W' → Ex (He.ga K C) (tDf K fs) W'
def EvP (K : PySem.W.Frag) (w0 kb : Wd) (Ex : XS2) (T : T2) (m : E3) : Prop := ∀ env W env3 W3 Q, Rn K w0 kb env3 env W → Shr K W3 W → Sat (m env3 W3) (fun e W3' => ∀ W', Kp W W' → Shr K W3' W' → Q (tD K e) W') (XT K (Ex env) W) → T env W Q
def EvV (K : PySem.W.Frag) (w0 kb : Wd) (Ex : XS2) (T : T2) (m : E3) : Prop := ∀ env W env3 W3 Q, Rn K w0 kb env3 env W → Shr K W3 W → Sat (m env3 W3) (fun e W3' => ∀ d W', Kp W W' → Shr K W3' W' → RV K W' e d → Q d W') (XT K (Ex env) W) → T env W Q
inductive RVL (K : PySem.W.Frag) (W : Wd) : List E → List D → Prop
  | nil : RVL K W [] []
  | cons {e : E} {d : D} {es : List E} {ds : List D} : RV K W e d → RVL K W es ds → RVL K W (e :: es) (d :: ds)
theorem RVL.mono {K : PySem.W.Frag} {W W' : Wd} (k : Kp W W') {es : List E} {ds : List D} (h : RVL K W es ds) : RVL K W' es ds := by
  induction h with
  | nil => exact .nil
  | cons a l ih => exact .cons (a.mono k) ih
def EvA (K : PySem.W.Frag) (w0 kb : Wd) (Ex : XS2) (T : A2) (m : A3) : Prop := ∀ env W env3 W3 Q, Rn K w0 kb env3 env W → Shr K W3 W → Sat (m env3 W3) (fun e W3' => ∀ W', Kp W W' → Shr K W3' W' → Q (tDs K e) W') (XT K (Ex env) W) → T env W Q
def EvAV (K : PySem.W.Frag) (w0 kb : Wd) (Ex : XS2) (T : A2) (m : A3) : Prop := ∀ env W env3 W3 Q, Rn K w0 kb env3 env W → Shr K W3 W → Sat (m env3 W3) (fun e W3' => ∀ d W', Kp W W' → Shr K W3' W' → RVL K W' e d → Q d W') (XT K (Ex env) W) → T env W Q
def EvB (K : PySem.W.Frag) (w0 kb : Wd) (Ex : XS2) (T : B2) (m : B3) : Prop := ∀ env W env3 W3 Q, Rn K w0 kb env3 env W → Shr K W3 W → Sat (m env3 W3) (fun b W3' => ∀ W', Kp W W' → Shr K W3' W' → Q b W') (XT K (Ex env) W) → T env W Q
/-- what may be given back: a cell of the def that runs stays as it is from then on -/
def RtOk (w0 : Wd) (rt : DK) : Prop := ∀ p c d W, W p = some (false, c) → w0 p = none → frzC c = some d → rt d (W.del p) → rt (.own p) W
inductive OwnL (K : PySem.W.Frag) (w0 W : Wd) : List Addr → List E → Prop
  | nil : OwnL K w0 W [] []
  | cons {p : Addr} {ps : List Addr} {e : E} {es : List E} {c : Cell} : W p = some (false, c) → frzC c = some (tD K e) → w0 p = none → p ∉ ps → OwnL K w0 W ps es → OwnL K w0 W (p :: ps) (e :: es)
/-- what is given back: 0 what stays as it is, 1 a cell of the def, 2 a tuple of such cells -/
def RtP (md : Nat) (K : PySem.W.Frag) (w0 kb : Wd) (rt : DK) (x : E) (W3 : WE) : Prop := match md with
  | 0 => ∀ W', Kp kb W' → Shr K W3 W' → rt (tD K x) W'
  | 1 => ∀ p c W', Kp kb W' → Shr K W3 W' → w0 p = none → W' p = some (false, c) → frzC c = some (tD K x) → rt (.own p) W'
  | _ => ∃ es, x = .tup es ∧ ∀ ps W', Kp kb W' → Shr K W3 W' → OwnL K w0 W' ps es → rt (.otp ps) W'
def OutOk (md : Nat) (K : PySem.W.Frag) (w0 kb : Wd) (E2 : Ends2) : Out → WE → Prop
  | .nx e3, W3 => ∀ e' W', Rn K w0 kb e3 e' W' → Shr K W3 W' → E2.nx e' W'
  | .bk e3, W3 => ∀ e' W', Rn K w0 kb e3 e' W' → Shr K W3 W' → E2.bk e' W'
  | .ct e3, W3 => ∀ e' W', Rn K w0 kb e3 e' W' → Shr K W3 W' → E2.ct e' W'
  | .rt x, W3 => RtP md K w0 kb E2.rt x W3
def EvS (md : Nat) (K : PySem.W.Frag) (w0 kb : Wd) (Ex : XK2) (S : S2) (s : S3) : Prop := ∀ env W env3 W3 E2, RtOk w0 E2.rt → Rn K w0 kb env3 env W → Shr K W3 W → Sat (s env3 W3) (OutOk md K w0 kb E2) (XS K Ex w0 kb) → S E2 env W
section
variable {K : PySem.W.Frag} {md : Nat} {w0 kb : Wd} {Ex : XS2} {T Ta Tb Tc : T2} {m ma mb mc : E3} {As : A2} {as_ : A3} {Ba Bb : B2} {ba bb : B3} {S U : S2} {s u : S3} {env : En} {W W1 : Wd} {env3 : En3} {W3 : WE}
theorem EvP.v (h : EvP K w0 kb Ex T m) : EvV K w0 kb Ex T m := fun env W env3 W3 Q R sh st => h env W env3 W3 Q R sh (st.mono (fun e W3' q W' k s => q (tD K e) W' k s (.inl rfl)) fun _ _ _ x => x)
theorem rvl_map : ∀ (es : List E), RVL K W es (tDs K es)
  | [] => by unfold tDs; exact .nil
  | e :: es => by unfold tDs; exact .cons (.inl rfl) (rvl_map es)
theorem EvA.v (h : EvA K w0 kb Ex As as_) : EvAV K w0 kb Ex As as_ := fun env W env3 W3 Q R sh st => h env W env3 W3 Q R sh (st.mono (fun e W3' q W' k s => q (tDs K e) W' k s (rvl_map e)) fun _ _ _ x => x)
theorem Rn.step (r : Rn K w0 kb env3 env W) (k : Kp W W1) : Rn K w0 kb env3 env W1 :=
  ⟨r.len, r.pl, fun i e h => let ⟨p, c, h1, h2, h3, h4⟩ := r.ow i e h; ⟨p, c, h1, k.f _ _ h2, h3, h4⟩, fun i e h => let ⟨p, c, h1, h2, h3, h4⟩ := r.sf i e h; ⟨p, c, h1, k.f _ _ h2, h3, h4⟩, r.inj, r.kp.trans k, fun a h => r.dm a (k.n a h), r.kw, fun a c h => let ⟨c', h'⟩ := r.fl a c h; ⟨c', k.f _ _ h'⟩, r.no, fun i e f x h => let ⟨⟨p, l, C, fs, c, h1, h2, h3, h4, h5, h6⟩, ho⟩ := r.sg i e f x h; ⟨⟨p, l, C, fs, c, h1, h2, k.f _ _ h3, k.f _ _ h4, h5, h6⟩, ho⟩⟩
theorem xt_kb {Ex : XK2} (r : Rn K w0 kb env3 env W) {C : String} {fs : List (Str × E)} {W3' : WE} (h : XS K Ex w0 kb C fs W3') : XT K Ex W C fs W3' := fun W' k sh => h W' (r.kp.trans k) (fun a c e => let ⟨c', e'⟩ := r.fl a c e; ⟨c', k.f _ _ e'⟩) sh
end
end Fr
set_option Elab.async false
set_option linter.all false
set_option maxRecDepth 100000
set_option maxHeartbeats 4000000
namespace Fr
open PySem PySem.Spec PyProof.Rows L2
def ofO {α : Type} : Option α → WE → Tr α
  | some a, W => .ret a W
  | none, _ => .stuck
def e3Var (i : Nat) : E3 := fun env W => match env[i]? with
  | some (.pl e) => .ret e W
  | _ => .stuck
def e3C (e : E) : E3 := fun _ W => .ret e W
def a3Nil : A3 := fun _ W => .ret [] W
def a3Cons (m : E3) (as_ : A3) : A3 := fun env W => (m env W).bind fun e W1 => (as_ env W1).bind fun es W2 => .ret (e :: es) W2
def e3Lst (as_ : A3) : E3 := fun env W => (as_ env W).bind fun es W1 => if es.length ≤ 1000000 then .ret (.lst es) W1 else .stuck
def e3Tup (as_ : A3) : E3 := fun env W => (as_ env W).bind fun es W1 => if es.length ≤ 1000000 then .ret (.tup es) W1 else .stuck
abbrev OE2 := E → E → WE → Option E
abbrev OE1 := E → WE → Option E
abbrev OEL := List E → WE → Option E
def e3Op (o : OE2) (a b : E3) : E3 := fun env W => (a env W).bind fun x W1 => (b env W1).bind fun y W2 => ofO (o x y W2) W2
def e3Un (o : OE1) (a : E3) : E3 := fun env W => (a env W).bind fun x W1 => ofO (o x W1) W1
def e3CB (o : OEL) (as_ : A3) : E3 := fun env W => (as_ env W).bind fun xs W1 => ofO (o xs W1) W1
def isBlE : E → Option Bool
  | .bl b => some b
  | _ => none
def b3T (m : E3) : B3 := fun env W => (m env W).bind fun e W1 => ofO (isBlE e) W1
def b3And (a b : B3) : B3 := fun env W => (a env W).bind fun c W1 => if c = true then b env W1 else .ret false W1
def b3Or (a b : B3) : B3 := fun env W => (a env W).bind fun c W1 => if c = true then .ret true W1 else b env W1
def b3Not (a : B3) : B3 := fun env W => (a env W).bind fun c W1 => .ret (!c) W1
def b3Yes : B3 := fun _ W => .ret true W
def e3AndV (a b : E3) : E3 := fun env W => (b3T a env W).bind fun c W1 => if c = true then b env W1 else .ret (.bl false) W1
def e3NotV (a : E3) : E3 := fun env W => (b3T a env W).bind fun c W1 => .ret (.bl (!c)) W1
def e3If (c : B3) (a b : E3) : E3 := fun env W => (c env W).bind fun k W1 => if k = true then a env W1 else b env W1
def e3Chain (o o' : OE2) (a b c : E3) : E3 := fun env W => (a env W).bind fun x W1 => (b env W1).bind fun y W2 => (ofO (o x y W2) W2).bind fun z W3 => (ofO (isBlE z) W3).bind fun k W4 => if k = true then (c env W4).bind fun u W5 => ofO (o' y u W5) W5 else .ret (.bl false) W4
def isIntE : E → Option Int
  | .int i => some i
  | _ => none
section
variable {K : PySem.W.Frag} {w0 kb : Wd} {Ex : XS2} {T Ta Tb Tc : T2} {m ma mb mc : E3} {As : A2} {as_ : A3} {Ba Bb : B2} {ba bb : B3} {Ol Oh : O2} {ol oh : O3} {r2 r2' : R22} {o o' : OE2} {i : Nat}
theorem v_var : EvP K w0 kb Ex (t2Var i) (e3Var i) := fun env W env3 W3 Q R sh st => by
  unfold e3Var at st
  split at st
  · rename_i e h
    exact ⟨_, R.pl i e h, st W .refl sh⟩
  · exact st.elim
theorem v_c {e : E} {d : D} (h : d = tD K e) : EvP K w0 kb Ex (t2C d) (e3C e) := fun env W env3 W3 Q R sh st => by
  subst h
  exact st W .refl sh
theorem v_nil : EvA K w0 kb Ex a2Nil a3Nil := fun env W env3 W3 Q R sh st => by
  have := st W .refl sh
  simp only [tDs] at this
  exact this
theorem v_cons (h : EvP K w0 kb Ex T m) (h2 : EvA K w0 kb Ex As as_) : EvA K w0 kb Ex (a2Cons T As) (a3Cons m as_) := fun env W env3 W3 Q R sh st =>
  h env W env3 W3 _ R sh ((sat_bind.mp st).mono (fun e W4 q W1 k1 sh1 => h2 env W1 env3 W4 _ (R.step k1) sh1 ((sat_bind.mp q).mono (fun es W5 q2 W2 k2 sh2 => by
    have := q2 W2 (k1.trans k2) sh2
    simpa only [tDs] using this) fun C fs W5 x => x.step k1)) fun _ _ _ x => x)
theorem v_nilV : EvAV K w0 kb Ex a2Nil a3Nil := v_nil.v
theorem v_consV (h : EvV K w0 kb Ex T m) (h2 : EvAV K w0 kb Ex As as_) : EvAV K w0 kb Ex (a2Cons T As) (a3Cons m as_) := fun env W env3 W3 Q R sh st =>
  h env W env3 W3 _ R sh ((sat_bind.mp st).mono (fun e W4 q d W1 k1 sh1 rv => h2 env W1 env3 W4 _ (R.step k1) sh1 ((sat_bind.mp q).mono (fun es W5 q2 ds W2 k2 sh2 rvl => q2 _ W2 (k1.trans k2) sh2 (.cons (rv.mono k2) rvl)) fun C fs W5 x => x.step k1)) fun _ _ _ x => x)
theorem v_lst (h : EvA K w0 kb Ex As as_) : EvP K w0 kb Ex (t2Lst As) (e3Lst as_) := fun env W env3 W3 Q R sh st =>
  h env W env3 W3 _ R sh ((sat_bind.mp st).mono (fun es W4 q W1 k1 sh1 => by
    split at q
    · rename_i hl
      have := q W1 k1 sh1
      simp only [tD] at this
      exact ⟨plL_tDs es, by rw [tDs_map, List.length_map]; exact hl, this⟩
    · exact q.elim) fun _ _ _ x => x)
theorem v_tup (h : EvA K w0 kb Ex As as_) : EvP K w0 kb Ex (t2Tup As) (e3Tup as_) := fun env W env3 W3 Q R sh st =>
  h env W env3 W3 _ R sh ((sat_bind.mp st).mono (fun es W4 q W1 k1 sh1 => by
    split at q
    · rename_i hl
      have := q W1 k1 sh1
      simp only [tD] at this
      exact ⟨plL_tDs es, by rw [tDs_map, List.length_map]; exact hl, this⟩
    · exact q.elim) fun _ _ _ x => x)
def Lk2 (K : PySem.W.Frag) (r2 : R22) (o : OE2) : Prop := ∀ W W3 a b a' b' d (Q : DK), Shr K W3 W → RV K W a a' → RV K W b b' → o a b W3 = some d → Q (tD K d) W → r2 a' b' W Q
def Lk1 (K : PySem.W.Frag) (r1 : R21) (o : OE1) : Prop := ∀ W W3 a a' d (Q : DK), Shr K W3 W → RV K W a a' → o a W3 = some d → Q (tD K d) W → r1 a' W Q
def LkL (K : PySem.W.Frag) (rl : R2L) (o : OEL) : Prop := ∀ W W3 a a' d (Q : DK), Shr K W3 W → RVL K W a a' → o a W3 = some d → Q (tD K d) W → rl a' W Q
theorem sat_ofO {α : Type} {x : Option α} {W : WE} {Q : α → WE → Prop} {X : XE} (h : Sat (ofO x W) Q X) : ∃ a, x = some a ∧ Q a W := by
  cases x with
  | none => exact h.elim
  | some a => exact ⟨a, rfl, h⟩
theorem v_op (l : Lk2 K r2 o) (h : EvV K w0 kb Ex Ta ma) (h2 : EvV K w0 kb Ex Tb mb) : EvP K w0 kb Ex (t2Op r2 Ta Tb) (e3Op o ma mb) := fun env W env3 W3 Q R sh st =>
  h env W env3 W3 _ R sh ((sat_bind.mp st).mono (fun x W4 q a W1 k1 sh1 rv => h2 env W1 env3 W4 _ (R.step k1) sh1 ((sat_bind.mp q).mono (fun y W5 q2 b W2 k2 sh2 rv2 => by
    obtain ⟨d, e, q3⟩ := sat_ofO q2
    exact l W2 W5 x y a b d _ sh2 (rv.mono k2) rv2 e (q3 W2 (k1.trans k2) sh2)) fun C fs W5 x => x.step k1)) fun _ _ _ x => x)
theorem v_un {r1 : R21} {o : OE1} (l : Lk1 K r1 o) (h : EvV K w0 kb Ex Ta ma) : EvP K w0 kb Ex (t2Un r1 Ta) (e3Un o ma) := fun env W env3 W3 Q R sh st =>
  h env W env3 W3 _ R sh ((sat_bind.mp st).mono (fun x W4 q a W1 k1 sh1 rv => by
    obtain ⟨d, e, q3⟩ := sat_ofO q
    exact l W1 W4 x a d _ sh1 rv e (q3 W1 k1 sh1)) fun _ _ _ x => x)
theorem v_cb {rl : R2L} {o : OEL} (l : LkL K rl o) (h : EvAV K w0 kb Ex As as_) : EvP K w0 kb Ex (t2CB rl As) (e3CB o as_) := fun env W env3 W3 Q R sh st =>
  h env W env3 W3 _ R sh ((sat_bind.mp st).mono (fun x W4 q a W1 k1 sh1 rv => by
    obtain ⟨d, e, q3⟩ := sat_ofO q
    exact l W1 W4 x a d _ sh1 rv e (q3 W1 k1 sh1)) fun _ _ _ x => x)
theorem isBl_some {e : E} {b : Bool} (h : isBlE e = some b) : e = .bl b := by cases e <;> cases h <;> rfl
theorem isInt_some {e : E} {b : Int} (h : isIntE e = some b) : e = .int b := by cases e <;> cases h <;> rfl
theorem v_T (h : EvP K w0 kb Ex T m) : EvB K w0 kb Ex (b2T T) (b3T m) := fun env W env3 W3 Q R sh st =>
  h env W env3 W3 _ R sh ((sat_bind.mp st).mono (fun x W4 q W1 k1 sh1 => by
    obtain ⟨b, e, q3⟩ := sat_ofO q
    cases isBl_some e
    exact ⟨b, by simp only [tD], q3 W1 k1 sh1⟩) fun _ _ _ x => x)
theorem v_and (h : EvB K w0 kb Ex Ba ba) (h2 : EvB K w0 kb Ex Bb bb) : EvB K w0 kb Ex (b2And Ba Bb) (b3And ba bb) := fun env W env3 W3 Q R sh st =>
  h env W env3 W3 _ R sh ((sat_bind.mp st).mono (fun c W4 q W1 k1 sh1 => by
    cases c with
    | false => exact (if_neg (by decide)).mpr (q W1 k1 sh1)
    | true => exact (if_pos rfl).mpr (h2 env W1 env3 W4 _ (R.step k1) sh1 (Sat.mono q (fun b W5 q2 W2 k2 sh2 => q2 W2 (k1.trans k2) sh2) fun C fs W5 x => x.step k1))) fun _ _ _ x => x)
theorem v_or (h : EvB K w0 kb Ex Ba ba) (h2 : EvB K w0 kb Ex Bb bb) : EvB K w0 kb Ex (b2Or Ba Bb) (b3Or ba bb) := fun env W env3 W3 Q R sh st =>
  h env W env3 W3 _ R sh ((sat_bind.mp st).mono (fun c W4 q W1 k1 sh1 => by
    cases c with
    | true => exact (if_pos rfl).mpr (q W1 k1 sh1)
    | false => exact (if_neg (by decide)).mpr (h2 env W1 env3 W4 _ (R.step k1) sh1 (Sat.mono q (fun b W5 q2 W2 k2 sh2 => q2 W2 (k1.trans k2) sh2) fun C fs W5 x => x.step k1))) fun _ _ _ x => x)
theorem v_not (h : EvB K w0 kb Ex Ba ba) : EvB K w0 kb Ex (b2Not Ba) (b3Not ba) := fun env W env3 W3 Q R sh st =>
  h env W env3 W3 _ R sh ((sat_bind.mp st).mono (fun c W4 q W1 k1 sh1 => q W1 k1 sh1) fun _ _ _ x => x)
theorem v_yes : EvB K w0 kb Ex b2Yes b3Yes := fun env W env3 W3 Q R sh st => st W .refl sh
theorem v_bv {Tq : En → Wd → (Bool → Wd → Prop) → Prop} (h : EvP K w0 kb Ex Ta ma) {env : En} {W : Wd} {env3 : En3} {W3 : WE} {α : Type} {f : Bool → WE → Tr α} {Q2 : DK} {Q : α → WE → Prop} (R : Rn K w0 kb env3 env W) (sh : Shr K W3 W) (st : Sat ((b3T ma env3 W3).bind f) Q (XT K (Ex env) W))
    (k : ∀ c W4 W1, Kp W W1 → Shr K W4 W1 → Sat (f c W4) Q (XT K (Ex env) W) → Q2 (.bl c) W1) : Ta env W Q2 :=
  h env W env3 W3 _ R sh ((sat_bind.mp (sat_bind.mp st)).mono (fun x W4 q W1 k1 sh1 => by
    obtain ⟨b, e, q3⟩ := sat_ofO q
    cases isBl_some e
    simp only [tD]
    exact k b W4 W1 k1 sh1 q3) fun _ _ _ x => x)
theorem v_andV (h : EvP K w0 kb Ex Ta ma) (h2 : EvP K w0 kb Ex Tb mb) : EvP K w0 kb Ex (t2AndV Ta Tb) (e3AndV ma mb) := fun env W env3 W3 Q R sh st =>
  v_bv (Tq := fun _ _ _ => True) h R sh st fun c W4 W1 k1 sh1 q => by
    refine ⟨c, rfl, ?_⟩
    cases c with
    | false => exact (if_neg (by decide)).mpr (by have := q W1 k1 sh1; simpa only [tD] using this)
    | true => exact (if_pos rfl).mpr (h2 env W1 env3 W4 _ (R.step k1) sh1 (Sat.mono q (fun b W5 q2 W2 k2 sh2 => q2 W2 (k1.trans k2) sh2) fun C fs W5 x => x.step k1))
theorem v_notV (h : EvP K w0 kb Ex Ta ma) : EvP K w0 kb Ex (t2NotV Ta) (e3NotV ma) := fun env W env3 W3 Q R sh st =>
  v_bv (Tq := fun _ _ _ => True) h R sh st fun c W4 W1 k1 sh1 q => ⟨c, rfl, by have := q W1 k1 sh1; simpa only [tD] using this⟩
theorem v_if (h : EvB K w0 kb Ex Ba ba) (h1 : EvP K w0 kb Ex Ta ma) (h2 : EvP K w0 kb Ex Tb mb) : EvP K w0 kb Ex (t2If Ba Ta Tb) (e3If ba ma mb) := fun env W env3 W3 Q R sh st =>
  h env W env3 W3 _ R sh ((sat_bind.mp st).mono (fun c W4 q W1 k1 sh1 => by
    cases c with
    | true => exact (if_pos rfl).mpr (h1 env W1 env3 W4 _ (R.step k1) sh1 (Sat.mono q (fun b W5 q2 W2 k2 sh2 => q2 W2 (k1.trans k2) sh2) fun C fs W5 x => x.step k1))
    | false => exact (if_neg (by decide)).mpr (h2 env W1 env3 W4 _ (R.step k1) sh1 (Sat.mono q (fun b W5 q2 W2 k2 sh2 => q2 W2 (k1.trans k2) sh2) fun C fs W5 x => x.step k1))) fun _ _ _ x => x)
theorem v_chain (l : Lk2 K r2 o) (l' : Lk2 K r2' o') (ha : EvV K w0 kb Ex Ta ma) (hb : EvV K w0 kb Ex Tb mb) (hc : EvV K w0 kb Ex Tc mc) : EvP K w0 kb Ex (t2Chain r2 r2' Ta Tb Tc) (e3Chain o o' ma mb mc) := fun env W env3 W3 Q R sh st =>
  ha env W env3 W3 _ R sh ((sat_bind.mp st).mono (fun x W4 q a W1 k1 sh1 rv => hb env W1 env3 W4 _ (R.step k1) sh1 ((sat_bind.mp q).mono (fun y W5 q2 b W2 k2 sh2 rv2 => by
    obtain ⟨d, e, q3⟩ := sat_ofO (sat_bind.mp q2)
    obtain ⟨k, e2, q4⟩ := sat_ofO (sat_bind.mp q3)
    cases isBl_some e2
    refine l W2 W5 x y a b _ _ sh2 (rv.mono k2) rv2 e ⟨k, by simp only [tD], ?_⟩
    have k12 := k1.trans k2
    cases k with
    | false => exact (if_neg (by decide)).mpr (by have := q4 W2 k12 sh2; simpa only [tD] using this)
    | true => exact (if_pos rfl).mpr (hc env W2 env3 W5 _ (R.step k12) sh2 ((sat_bind.mp q4).mono (fun z W6 q5 c W3 k3 sh3 rv3 => by
        obtain ⟨d, e, q6⟩ := sat_ofO q5
        exact l' W3 W6 y z b c d _ sh3 (rv2.mono k3) rv3 e (q6 W3 (k12.trans k3) sh3)) fun C fs W5 x => x.step k12))) fun C fs W5 x => x.step k1)) fun _ _ _ x => x)
end
end Fr
set_option Elab.async false
set_option linter.all false
set_option maxRecDepth 100000
set_option maxHeartbeats 4000000
namespace Fr
open PySem PySem.Spec PyProof.Rows L2
def s3Seq (s u : S3) : S3 := fun env W => (s env W).bind fun o W1 => match o with
  | .nx e => u e W1
  | o => .ret o W1
def s3Nx : S3 := fun env W => .ret (.nx env) W
def s3Ret (m : E3) : S3 := fun env W => (m env W).bind fun e W1 => .ret (.rt e) W1
def s3If (b : B3) (s u : S3) : S3 := fun env W => (b env W).bind fun c W1 => if c = true then s env W1 else u env W1
def s3Raise (C : String) (f : Str) (m : E3) : S3 := fun env W => (m env W).bind fun e W1 => .exc C [(f, e)] W1
abbrev G3 := E → En3 → WE → Tr En3
abbrev G3s := List E → En3 → WE → Tr En3
def g3Name (i : Nat) : G3 := fun e env W => .ret (env.set i (.pl e)) W
def isTupE : E → Option (List E)
  | .tup es => some es
  | _ => none
def g3Tup (n : Nat) (g : G3s) : G3 := fun e env W => (ofO (isTupE e) W).bind fun es W1 => if es.length = n then g es env W1 else .stuck
def g3Cons (g : G3) (gs : G3s) : G3s := fun es env W => match es with
  | e :: es => (g e env W).bind fun env1 W1 => gs es env1 W1
  | [] => .stuck
def g3Nil : G3s := fun es env W => match es with
  | [] => .ret env W
  | _ :: _ => .stuck
def s3Asg (m : E3) (g : G3) : S3 := fun env W => (m env W).bind fun e W1 => (g e env W1).bind fun env1 W2 => .ret (.nx env1) W2
def s3Par (i j : Nat) (as_ : A3) : S3 := fun env W => (as_ env W).bind fun es W1 => match es with
  | [a, b] => .ret (.nx ((env.set i (.pl a)).set j (.pl b))) W1
  | _ => .stuck
def s3Aug (i : Nat) (m : E3) (o : OE2) : S3 := fun env W => match env[i]? with
  | some (.pl a) => (m env W).bind fun b W1 => (ofO (o a b W1) W1).bind fun d W2 => .ret (.nx (env.set i (.pl d))) W2
  | _ => .stuck
section
variable {K : PySem.W.Frag} {md : Nat} {w0 kb : Wd} {Ex : XK2} {T Ta Tb Tc : T2} {m ma mb mc : E3} {As : A2} {as_ : A3} {Ba Bb : B2} {ba bb : B3} {S U : S2} {s u : S3} {r2 : R22} {o : OE2} {i j l : Nat} {env : En} {W W1 : Wd} {env3 : En3} {W3 : WE}
theorem Rn.setP (r : Rn K w0 kb env3 env W) (e : E) : Rn K w0 kb (env3.set i (.pl e)) (env.set i (some (tD K e))) W := by
  have look : ∀ (j : Nat) (x : Sl), (env3.set i (.pl e))[j]? = some x → x = .pl e ∧ i = j ∧ j < env3.length ∨ i ≠ j ∧ env3[j]? = some x := fun j x h => by
    rw [List.getElem?_set] at h
    by_cases n : i = j
    · rw [if_pos n] at h
      split at h
      · rename_i hl
        cases h
        exact .inl ⟨rfl, n, n ▸ hl⟩
      · cases h
    · rw [if_neg n] at h
      exact .inr ⟨n, h⟩
  have ne : ∀ (j : Nat), i ≠ j → (env.set i (some (tD K e)))[j]? = env[j]? := fun j n => by rw [List.getElem?_set, if_neg n]
  refine ⟨by rw [List.length_set, List.length_set]; exact r.len, fun j x h => ?_, fun j x h => ?_, fun j x h => ?_, fun a b x y p h1 h2 h3 h4 => ?_, r.kp, r.dm, r.kw, r.fl, fun j h => ?_, fun j e' f x h => ?_⟩
  · rcases look j _ h with ⟨e1, e2, hl⟩ | ⟨n, h⟩
    · cases e1
      subst e2
      rw [List.getElem?_set, if_pos rfl, if_pos (by rw [r.len]; exact hl)]
    · rw [ne j n]
      exact r.pl j x h
  · rcases look j _ h with ⟨e1, _⟩ | ⟨n, h⟩
    · cases e1
    · rw [ne j n]
      exact r.ow j x h
  · rcases look j _ h with ⟨e1, _⟩ | ⟨n, h⟩
    · cases e1
    · rw [ne j n]
      exact r.sf j x h
  · have go : ∀ (j : Nat) (x : E), ((env3.set i (.pl e))[j]? = some (.ow x) ∨ (env3.set i (.pl e))[j]? = some (.sf x)) → i ≠ j ∧ (env3[j]? = some (.ow x) ∨ env3[j]? = some (.sf x)) := fun j x h => by
      rcases h with h | h
      · rcases look j _ h with ⟨e1, _⟩ | ⟨n, h⟩
        · cases e1
        · exact ⟨n, .inl h⟩
      · rcases look j _ h with ⟨e1, _⟩ | ⟨n, h⟩
        · cases e1
        · exact ⟨n, .inr h⟩
    obtain ⟨n1, h1⟩ := go a x h1
    obtain ⟨n2, h2⟩ := go b y h2
    rw [ne a n1] at h3
    rw [ne b n2] at h4
    exact r.inj a b x y p h1 h2 h3 h4
  · rcases look j _ h with ⟨e1, _⟩ | ⟨n, h⟩
    · cases e1
    · rw [ne j n]
      exact r.no j h
  · rcases look j _ h with ⟨e1, _⟩ | ⟨n, h⟩
    · cases e1
    · obtain ⟨⟨p, l, C, fs, c, h1, h2, h3⟩, ho⟩ := r.sg j e' f x h
      refine ⟨⟨p, l, C, fs, c, h1, by rw [ne j n]; exact h2, h3⟩, fun k s hs hk => ?_⟩
      rcases look k _ hs with ⟨rfl, _⟩ | ⟨_, hs⟩
      · trivial
      · exact ho k s hs hk
theorem Rn.fresh (r : Rn K w0 kb env3 env W) {p : Addr} (hp : W p = none) (j : Nat) (x : E) (h : env3[j]? = some (.ow x) ∨ env3[j]? = some (.sf x)) : env[j]? ≠ some (some (.own p)) := fun z => by
  rcases h with h | h
  · obtain ⟨q, c, h1, h2, _⟩ := r.ow j x h
    rw [z] at h1
    cases h1
    rw [hp] at h2
    cases h2
  · obtain ⟨q, c, h1, h2, _⟩ := r.sf j x h
    rw [z] at h1
    cases h1
    rw [hp] at h2
    cases h2
theorem v_seq (h : EvS md K w0 kb Ex S s) (h2 : EvS md K w0 kb Ex U u) : EvS md K w0 kb Ex (s2Seq S U) (s3Seq s u) := fun env W env3 W3 E2 ro R sh st =>
  h env W env3 W3 _ ro R sh ((sat_bind.mp st).mono (fun o W4 q => by
    cases o with
    | nx e => exact fun e' W' R' sh' => h2 e' W' e W4 E2 ro R' sh' q
    | rt d => exact q
    | bk e => exact q
    | ct e => exact q) fun _ _ _ x => x)
theorem v_cut (h : EvS md K w0 kb Ex S s) (h2 : EvS md K w0 kb Ex U u) : EvS md K w0 kb Ex (s2Cut S U) (s3Seq s u) := fun env W env3 W3 E2 ro R sh st => ⟨fun e w => U E2 e w, v_seq h h2 env W env3 W3 E2 ro R sh st, fun e w z => z⟩
theorem v_next : EvS md K w0 kb Ex s2Nx s3Nx := fun env W env3 W3 E2 ro R sh st => st env W R sh
theorem v_ret (h : EvP K w0 kb (fun _ => Ex) T m) : EvS 0 K w0 kb Ex (s2Ret T) (s3Ret m) := fun env W env3 W3 E2 ro R sh st =>
  h env W env3 W3 _ R sh ((sat_bind.mp st).mono (fun e W4 q W1 k1 sh1 => q W1 (R.kp.trans k1) sh1) fun _ _ _ x => xt_kb R x)
theorem v_ifS (h : EvB K w0 kb (fun _ => Ex) Ba ba) (h1 : EvS md K w0 kb Ex S s) (h2 : EvS md K w0 kb Ex U u) : EvS md K w0 kb Ex (s2If Ba S U) (s3If ba s u) := fun env W env3 W3 E2 ro R sh st =>
  h env W env3 W3 _ R sh ((sat_bind.mp st).mono (fun c W4 q W1 k1 sh1 => by
    cases c with
    | true => exact (if_pos rfl).mpr (h1 env W1 env3 W4 E2 ro (R.step k1) sh1 q)
    | false => exact (if_neg (by decide)).mpr (h2 env W1 env3 W4 E2 ro (R.step k1) sh1 q)) fun _ _ _ x => xt_kb R x)
theorem v_raise {C : String} {f : Str} (h : EvP K w0 kb (fun _ => Ex) T m) : EvS md K w0 kb Ex (s2Raise (He.ga K C) f T Ex) (s3Raise C f m) := fun env W env3 W3 E2 ro R sh st =>
  h env W env3 W3 _ R sh ((sat_bind.mp st).mono (fun e W4 q W1 k1 sh1 => ⟨pl_tD e, by
    have := q W1 (R.kp.trans k1) (fun a c e => let ⟨c', e'⟩ := R.fl a c e; ⟨c', k1.f _ _ e'⟩) sh1
    simp only [tDf] at this
    exact this⟩) fun _ _ _ x => xt_kb R x)
def EvG (K : PySem.W.Frag) (w0 kb : Wd) (g2 : G2) (g3 : G3) : Prop := ∀ e env W env3 W3 q, Rn K w0 kb env3 env W → Shr K W3 W → Sat (g3 e env3 W3) (fun e3' W3' => ∀ env' W', Rn K w0 kb e3' env' W' → Shr K W3' W' → Kp W W' → q env' W') (fun _ _ _ => False) → g2 (tD K e) env W q
def EvGs (K : PySem.W.Frag) (w0 kb : Wd) (g2 : G2s) (g3 : G3s) : Prop := ∀ es env W env3 W3 q, Rn K w0 kb env3 env W → Shr K W3 W → Sat (g3 es env3 W3) (fun e3' W3' => ∀ env' W', Rn K w0 kb e3' env' W' → Shr K W3' W' → Kp W W' → q env' W') (fun _ _ _ => False) → g2 (tDs K es) env W q
theorem v_gname : EvG K w0 kb (g2Name i) (g3Name i) := fun e env W env3 W3 q R sh st => st _ W (R.setP e) sh .refl
theorem v_gnil : EvGs K w0 kb g2Nil g3Nil := fun es env W env3 W3 q R sh st => by
  cases es with
  | nil => exact ⟨by simp only [tDs], st env W R sh .refl⟩
  | cons e es => exact st.elim
theorem v_gcons {g2 : G2} {g3 : G3} {gs2 : G2s} {gs3 : G3s} (h : EvG K w0 kb g2 g3) (h2 : EvGs K w0 kb gs2 gs3) : EvGs K w0 kb (g2Cons g2 gs2) (g3Cons g3 gs3) := fun es env W env3 W3 q R sh st => by
  cases es with
  | nil => exact st.elim
  | cons e es =>
    refine ⟨tD K e, tDs K es, by simp only [tDs], h e env W env3 W3 _ R sh ((sat_bind.mp st).mono (fun e3 W4 q env1 W1 R1 sh1 k1 => h2 es env1 W1 e3 W4 _ R1 sh1 (Sat.mono q (fun e5 W5 q2 env2 W2 R2 sh2 k2 => q2 env2 W2 R2 sh2 (k1.trans k2)) fun _ _ _ x => x)) fun _ _ _ x => x)⟩
theorem v_gtup {n : Nat} {gs2 : G2s} {gs3 : G3s} (h : EvGs K w0 kb gs2 gs3) : EvG K w0 kb (g2Tup n gs2) (g3Tup n gs3) := fun e env W env3 W3 q R sh st => by
  obtain ⟨es, he, st2⟩ := sat_ofO (sat_bind.mp st)
  cases e <;> first | (cases he; done) | skip
  cases he
  split at st2
  · rename_i hl
    exact ⟨tDs K es, by simp only [tD], by rw [tDs_map, List.length_map]; exact hl, h es env W env3 W3 q R sh st2⟩
  · exact st2.elim
/-- .. -/
def XF (g3 : G3) : Prop := ∀ e env W (Q : En3 → WE → Prop) X, Sat (g3 e env W) Q X → Sat (g3 e env W) Q (fun _ _ _ => False)
def XFs (g3 : G3s) : Prop := ∀ e env W (Q : En3 → WE → Prop) X, Sat (g3 e env W) Q X → Sat (g3 e env W) Q (fun _ _ _ => False)
theorem xf_name : XF (g3Name i) := fun e env W Q X h => h
theorem xf_nil : XFs g3Nil := fun es env W Q X h => by cases es <;> exact h
theorem xf_cons {g3 : G3} {gs3 : G3s} (h : XF g3) (h2 : XFs gs3) : XFs (g3Cons g3 gs3) := fun es env W Q X st => by
  cases es with
  | nil => exact st
  | cons e es => exact sat_bind.mpr (h _ _ _ _ _ ((sat_bind.mp st).mono (fun a W1 q => h2 _ _ _ _ _ q) fun _ _ _ x => x))
theorem xf_tup {n : Nat} {gs3 : G3s} (h : XFs gs3) : XF (g3Tup n gs3) := fun e env W Q X st => by
  unfold g3Tup at st ⊢
  cases e <;> first | exact st | skip
  simp only [isTupE, ofO, Tr.bind] at st ⊢
  split at st
  · rename_i hl
    rw [if_pos hl]
    exact h _ _ _ _ _ st
  · exact st.elim
theorem v_asg {g2 : G2} {g3 : G3} (h : EvP K w0 kb (fun _ => Ex) T m) (h2 : EvG K w0 kb g2 g3) (hx : XF g3) : EvS md K w0 kb Ex (s2Asg T g2) (s3Asg m g3) := fun env W env3 W3 E2 ro R sh st =>
  h env W env3 W3 _ R sh ((sat_bind.mp st).mono (fun e W4 q W1 k1 sh1 => h2 e env W1 env3 W4 _ (R.step k1) sh1 (hx _ _ _ _ _ ((sat_bind.mp q).mono (fun e3 W5 q2 env2 W2 R2 sh2 _ => q2 env2 W2 R2 sh2) fun _ _ _ x => x))) fun _ _ _ x => xt_kb R x)
/-- an expression that makes a cell of the def that runs -/
def EvW (K : PySem.W.Frag) (w0 kb : Wd) (Ex : XK2) (T : T2) (m : E3) : Prop := ∀ env W env3 W3 Q, Rn K w0 kb env3 env W → Shr K W3 W → Sat (m env3 W3) (fun e W3' => ∀ p c W1 W', Kp W W1 → W1 p = none → w0 p = none → W' = W1.set p false c → frzC c = some (tD K e) → Shr K W3' W1 → Q (.own p) W') (XT K Ex W) → T env W Q
theorem Rn.frz (R : Rn K w0 kb env3 env W) {e : E} {p : Addr} {c : Cell} (h : env3[i]? = some (.ow e)) (h1 : env[i]? = some (some (.own p))) (h2 : W p = some (false, c)) (h3 : frzC c = some (tD K e)) (h4 : w0 p = none) : Rn K w0 kb (env3.set i (.pl e)) (env.map (subO p (tD K e))) (W.del p) := by
  have look : ∀ (j : Nat) (x : Sl), (env3.set i (.pl e))[j]? = some x → x = .pl e ∧ i = j ∨ i ≠ j ∧ env3[j]? = some x := fun j x h => by
    rw [List.getElem?_set] at h
    by_cases n : i = j
    · rw [if_pos n] at h
      split at h
      · cases h
        exact .inl ⟨rfl, n⟩
      · cases h
    · rw [if_neg n] at h
      exact .inr ⟨n, h⟩
  have mp : ∀ (j : Nat), (env.map (subO p (tD K e)))[j]? = (env[j]?).map (subO p (tD K e)) := fun j => List.getElem?_map
  have old : ∀ (j : Nat) (x : E) (q : Addr), (env3[j]? = some (.ow x) ∨ env3[j]? = some (.sf x)) → i ≠ j → env[j]? = some (some (.own q)) → q ≠ p := fun j x q hj n hq z => by
    subst z
    exact n (R.inj i j e x q (.inl h) hj h1 hq)
  have keep : ∀ (j : Nat) (x : E) (q : Addr), q ≠ p → env[j]? = some (some (.own q)) → (env.map (subO p (tD K e)))[j]? = some (some (.own q)) := fun j x q n hq => by
    rw [mp, hq]
    show some (if q = p then some (tD K e) else some (.own q)) = _
    rw [if_neg n]
  refine ⟨by rw [List.length_map, List.length_set]; exact R.len, fun j x hx => ?_, fun j x hx => ?_, fun j x hx => ?_, fun a b x y q ha hb hqa hqb => ?_, R.kp.del (R.kw p h4), fun a ha => ?_, R.kw, fun a cc ha => ?_, fun j hj => ?_, fun j e' f x hj => ?_⟩
  · rcases look j _ hx with ⟨e1, rfl⟩ | ⟨n, hx⟩
    · cases e1
      rw [mp, h1]
      show some (if p = p then some (tD K e) else some (.own p)) = _
      rw [if_pos rfl]
    · rw [mp, R.pl j x hx]
      show some (subO p (tD K e) (some (tD K x))) = _
      congr 1
      cases x <;> (simp only [tD, subO])
  · rcases look j _ hx with ⟨e1, _⟩ | ⟨n, hx⟩
    · cases e1
    · obtain ⟨q, cq, g1, g2, g3, g4⟩ := R.ow j x hx
      have nq := old j x q (.inl hx) n g1
      exact ⟨q, cq, keep j x q nq g1, by rw [Wd.delNe nq]; exact g2, g3, g4⟩
  · rcases look j _ hx with ⟨e1, _⟩ | ⟨n, hx⟩
    · cases e1
    · obtain ⟨q, cq, g1, g2, g3, g4⟩ := R.sf j x hx
      have nq := old j x q (.inr hx) n g1
      exact ⟨q, cq, keep j x q nq g1, by rw [Wd.delNe nq]; exact g2, g3, g4⟩
  · have go : ∀ (j : Nat) (x : E), ((env3.set i (.pl e))[j]? = some (.ow x) ∨ (env3.set i (.pl e))[j]? = some (.sf x)) → i ≠ j ∧ (env3[j]? = some (.ow x) ∨ env3[j]? = some (.sf x)) := fun j x h => by
      rcases h with h | h
      · rcases look j _ h with ⟨e1, _⟩ | ⟨n, h⟩
        · cases e1
        · exact ⟨n, .inl h⟩
      · rcases look j _ h with ⟨e1, _⟩ | ⟨n, h⟩
        · cases e1
        · exact ⟨n, .inr h⟩
    have own : ∀ (j : Nat) (x : E), i ≠ j → (env3[j]? = some (.ow x) ∨ env3[j]? = some (.sf x)) → (env.map (subO p (tD K e)))[j]? = some (some (.own q)) → env[j]? = some (some (.own q)) := fun j x n hj hq => by
      rcases hj with hj | hj
      · obtain ⟨r, cr, g1, _⟩ := R.ow j x hj
        have nr := old j x r (.inl hj) n g1
        rw [keep j x r nr g1] at hq
        cases hq
        exact g1
      · obtain ⟨r, cr, g1, _⟩ := R.sf j x hj
        have nr := old j x r (.inr hj) n g1
        rw [keep j x r nr g1] at hq
        cases hq
        exact g1
    obtain ⟨n1, g1⟩ := go a x ha
    obtain ⟨n2, g2⟩ := go b y hb
    exact R.inj a b x y q g1 g2 (own a x n1 g1 hqa) (own b y n2 g2 hqb)
  · by_cases z : a = p
    · rw [z]
      exact h4
    · rw [Wd.delNe z] at ha
      exact R.dm a ha
  · have z : a ≠ p := fun z => by
      rw [z, h4] at ha
      cases ha
    rw [Wd.delNe z]
    exact R.fl a cc ha
  · rcases look j _ hj with ⟨e1, _⟩ | ⟨n, hj⟩
    · cases e1
    · rw [mp, R.no j hj]
      rfl
  · rcases look j _ hj with ⟨e1, _⟩ | ⟨n, hj⟩
    · cases e1
    · exact ((R.sg j e' f x hj).2 i _ h n).elim
theorem v_par (h : EvA K w0 kb (fun _ => Ex) As as_) : EvS md K w0 kb Ex (s2Par i j As) (s3Par i j as_) := fun env W env3 W3 E2 ro R sh st =>
  h env W env3 W3 _ R sh ((sat_bind.mp st).mono (fun es W4 q W1 k1 sh1 => by
    split at q
    · rename_i a b
      exact ⟨tD K a, tD K b, by simp only [tDs], q _ W1 (((R.step k1).setP a).setP b) sh1⟩
    · exact q.elim) fun _ _ _ x => xt_kb R x)
theorem v_aug (l : Lk2 K r2 o) (h : EvV K w0 kb (fun _ => Ex) T m) : EvS md K w0 kb Ex (s2Aug i T r2) (s3Aug i m o) := fun env W env3 W3 E2 ro R sh st => by
  unfold s3Aug at st
  split at st
  · rename_i a ha
    refine ⟨_, R.pl i a ha, h env W env3 W3 _ R sh ((sat_bind.mp st).mono (fun y W4 q b W1 k1 sh1 rv => ?_) fun _ _ _ x => xt_kb R x)⟩
    obtain ⟨d, e, q3⟩ := sat_ofO (sat_bind.mp q)
    exact l W1 W4 a y _ b d _ sh1 (.inl rfl) rv e (q3 _ W1 ((R.step k1).setP d) sh1)
  · exact st.elim
end
end Fr
set_option Elab.async false
set_option linter.all false
set_option maxRecDepth 100000
set_option maxHeartbeats 4000000
namespace Fr
open PySem PySem.Spec PyProof.Rows L2
def isKey : E → Option Key
  | .int i => some (.inl i)
  | .str s => some (.inr s)
  | _ => none
def keyE : Key → E
  | .inl i => .int i
  | .inr s => .str s
def lkE (kvs : List (Key × E)) (k : Key) : Option E := (kvs.find? fun kv => decide (kv.1 = k)).map (·.2)
def putE (kvs : List (Key × E)) (k : Key) (v : E) : List (Key × E) := if (kvs.any fun kv => decide (kv.1 = k)) = true then kvs.map (fun kv => if kv.1 = k then (kv.1, v) else kv) else kvs ++ [(k, v)]
def mergeE (kvs more : List (Key × E)) : List (Key × E) := more.foldl (fun acc kv => putE acc kv.1 kv.2) kvs
def putFE (f : Str) (v : E) : List (Str × E) → List (Str × E)
  | [] => [(f, v)]
  | (g, x) :: r => if g = f then (g, v) :: r else (g, x) :: putFE f v r
section
variable {K : PySem.W.Frag}
theorem key_some {e : E} {k : Key} (h : isKey e = some k) : e = keyE k := by cases e <;> cases h <;> rfl
theorem tD_key (k : Key) : tD K (keyE k) = keyD k := by cases k <;> simp only [keyE, keyD, tD]
theorem put_t {kvs : List (Key × E)} {k : Key} {v : E} : tDk K (putE kvs k v) = putD (tDk K kvs) k (tD K v) := by
  rw [tDk_map, tDk_map]
  unfold putE putD
  rw [List.any_map]
  have e : ((fun kv : Key × D => decide (kv.1 = k)) ∘ fun kv : Key × E => (kv.1, tD K kv.2)) = fun kv : Key × E => decide (kv.1 = k) := rfl
  rw [e]
  split
  · rw [List.map_map, List.map_map]
    refine List.map_congr_left fun kv _ => ?_
    show (((if kv.1 = k then (kv.1, v) else kv) : Key × E).1, tD K ((if kv.1 = k then (kv.1, v) else kv) : Key × E).2) = if kv.1 = k then (kv.1, tD K v) else (kv.1, tD K kv.2)
    split <;> rfl
  · rw [List.map_append]
    rfl
theorem merge_t : ∀ {more kvs : List (Key × E)}, tDk K (mergeE kvs more) = mergeD (tDk K kvs) (tDk K more)
  | [], kvs => by simp [mergeE, mergeD, tDk]
  | (k, v) :: more, kvs => by
    have ih := merge_t (more := more) (kvs := putE kvs k v)
    rw [put_t] at ih
    simp only [tDk]
    exact ih
theorem putF_t {f : Str} {v : E} : ∀ {fs : List (Str × E)}, tDf K (putFE f v fs) = putF2 f (tD K v) (tDf K fs)
  | [] => by simp [putFE, putF2, tDf]
  | (g, x) :: r => by
    unfold putFE
    simp only [tDf, putF2]
    split
    · simp only [tDf]
    · simp only [tDf, putF_t]
theorem lookF_t {f : Str} : ∀ {fs : List (Str × E)}, (tDf K fs).lookup f = (fs.lookup f).map (tD K)
  | [] => by simp [tDf]
  | (g, x) :: r => by
    simp only [tDf, List.lookup_cons]
    cases e : (f == g) with
    | true => rfl
    | false => exact lookF_t
theorem len_f {fs : List (Str × E)} : (tDf K fs).length = fs.length := by rw [tDf_map, List.length_map]
theorem len_k {fs : List (Key × E)} : (tDk K fs).length = fs.length := by rw [tDk_map, List.length_map]
theorem len_s {fs : List E} : (tDs K fs).length = fs.length := by rw [tDs_map, List.length_map]
theorem app_s {xs ys : List E} : tDs K (xs ++ ys) = tDs K xs ++ tDs K ys := by rw [tDs_map, tDs_map, tDs_map, List.map_append]
end
section
variable {K : PySem.W.Frag} {md : Nat} {w0 kb : Wd} {Ex : XK2} {T Ta Tb Tc : T2} {m ma mb mc : E3} {As : A2} {as_ : A3} {Ba Bb : B2} {ba bb : B3} {S U : S2} {s u : S3} {r2 : R22} {o : OE2} {i j l : Nat} {env : En} {W W1 : Wd} {env3 : En3} {W3 : WE}
theorem Rn.put (R : Rn K w0 kb env3 env W) {e e' : E} {x : Sl} {p : Addr} {c c' : Cell} (h1 : env[i]? = some (some (.own p))) (hk : (env3[i]? = some (.ow e) ∧ x = .ow e' ∧ w0 p = none) ∨ (env3[i]? = some (.sf e) ∧ x = .sf e')) (h2 : W p = some (false, c)) (h3 : frzC c' = some (tD K e')) (h4 : kb p = none) : Rn K w0 kb (env3.set i x) env (W.set p false c') := by
  have look : ∀ (j : Nat) (y : Sl), (env3.set i x)[j]? = some y → y = x ∧ i = j ∨ i ≠ j ∧ env3[j]? = some y := fun j y h => by
    rw [List.getElem?_set] at h
    by_cases n : i = j
    · rw [if_pos n] at h
      split at h
      · cases h
        exact .inl ⟨rfl, n⟩
      · cases h
    · rw [if_neg n] at h
      exact .inr ⟨n, h⟩
  have hi : env3[i]? = some (.ow e) ∨ env3[i]? = some (.sf e) := hk.imp (·.1) (·.1)
  have old : ∀ (j : Nat) (y : E) (q : Addr), (env3[j]? = some (.ow y) ∨ env3[j]? = some (.sf y)) → i ≠ j → env[j]? = some (some (.own q)) → q ≠ p := fun j y q hj n hq z => by
    subst z
    exact n (R.inj i j e y q hi hj h1 hq)
  have xpl : ∀ y, Sl.pl y ≠ x := fun y z => by
    rcases hk with ⟨_, rfl, _⟩ | ⟨_, rfl⟩ <;> cases z
  refine ⟨by rw [List.length_set]; exact R.len, fun j y hy => ?_, fun j y hy => ?_, fun j y hy => ?_, fun a b y z q ha hb hqa hqb => ?_, R.kp.set0 h4, fun a ha => ?_, R.kw, fun a cc ha => ?_, fun j hj => ?_, fun j e' f x' hj => ?_⟩
  · rcases look j _ hy with ⟨e1, _⟩ | ⟨n, hy⟩
    · exact absurd e1 (xpl y)
    · exact R.pl j y hy
  · rcases look j _ hy with ⟨e1, rfl⟩ | ⟨n, hy⟩
    · rcases hk with ⟨g1, rfl, g3⟩ | ⟨g1, rfl⟩
      · cases e1
        exact ⟨p, c', h1, Wd.same, h3, g3⟩
      · cases e1
    · obtain ⟨q, cq, g1, g2, g3, g4⟩ := R.ow j y hy
      exact ⟨q, cq, g1, by rw [Wd.ne (old j y q (.inl hy) n g1)]; exact g2, g3, g4⟩
  · rcases look j _ hy with ⟨e1, rfl⟩ | ⟨n, hy⟩
    · rcases hk with ⟨g1, rfl, g3⟩ | ⟨g1, rfl⟩
      · cases e1
      · cases e1
        obtain ⟨q, cq, g1', _, _, _, g5⟩ := R.sf i _ g1
        rw [h1] at g1'
        cases g1'
        exact ⟨p, c', h1, Wd.same, h3, h4, g5⟩
    · obtain ⟨q, cq, g1, g2, g3, g4⟩ := R.sf j y hy
      exact ⟨q, cq, g1, by rw [Wd.ne (old j y q (.inr hy) n g1)]; exact g2, g3, g4⟩
  · have go : ∀ (j : Nat) (y : E), ((env3.set i x)[j]? = some (.ow y) ∨ (env3.set i x)[j]? = some (.sf y)) → ∃ y', env3[j]? = some (.ow y') ∨ env3[j]? = some (.sf y') := fun j y h => by
      rcases h with h | h
      · rcases look j _ h with ⟨_, rfl⟩ | ⟨n, h⟩
        · exact ⟨e, hi⟩
        · exact ⟨y, .inl h⟩
      · rcases look j _ h with ⟨_, rfl⟩ | ⟨n, h⟩
        · exact ⟨e, hi⟩
        · exact ⟨y, .inr h⟩
    obtain ⟨y', g1⟩ := go a y ha
    obtain ⟨z', g2⟩ := go b z hb
    exact R.inj a b y' z' q g1 g2 hqa hqb
  · by_cases z : a = p
    · subst z
      rw [Wd.same] at ha
      cases ha
    · rw [Wd.ne z] at ha
      exact R.dm a ha
  · by_cases z : a = p
    · subst z
      exact ⟨c', Wd.same⟩
    · rw [Wd.ne z]
      exact R.fl a cc ha
  · rcases look j _ hj with ⟨e1, _⟩ | ⟨n, hj⟩
    · rcases hk with ⟨_, rfl, _⟩ | ⟨_, rfl⟩ <;> cases e1
    · exact R.no j hj
  · rcases look j _ hj with ⟨e1, _⟩ | ⟨n, hj⟩
    · rcases hk with ⟨_, rfl, _⟩ | ⟨_, rfl⟩ <;> cases e1
    · exact absurd ((R.sg j e' f x' hj).2 i) fun z => by
        rcases hi with hi | hi <;> exact (z _ hi n)
theorem shr_own (sh : Shr K W3 W) {p : Addr} {c c' : Cell} (h : W p = some (false, c)) : Shr K W3 (W.set p false c') := sh.setF fun x z => by
  rw [h] at z
  cases z
theorem frz_ins {c : Cell} {C : String} {es : List (Str × E)} (h : frzC c = some (tD K (.obj C es))) : c = .ins (He.ga K C) (tDf K es) := by
  cases c <;> simp [frzC, tD] at h
  rw [h.1, h.2]
/-- self.f = e -/
def s3Fld (C : String) (f : Str) (i : Nat) (m : E3) : S3 := fun env W => (m env W).bind fun e W1 => match env[i]? with
  | some (.sf (.obj C' fs)) => if C' = C ∧ fs.length < 1000 then .ret (.nx (env.set i (.sf (.obj C (putFE f e fs))))) W1 else .stuck
  | _ => .stuck
theorem v_sfld {C : String} {f : Str} (h : EvP K w0 kb (fun _ => Ex) T m) : EvS md K w0 kb Ex (s2Fld (He.ga K C) f (t2Var i) T) (s3Fld C f i m) := fun env W env3 W3 E2 ro R sh st =>
  h env W env3 W3 _ R sh ((sat_bind.mp st).mono (fun e W4 q W1 k1 sh1 => by
    split at q
    · rename_i C' fs he
      split at q
      · rename_i hc
        obtain ⟨rfl, hl⟩ := hc
        have R1 := R.step k1
        obtain ⟨p, c, h1, h2, h3, h4⟩ := R1.sf i _ he
        cases frz_ins h3
        refine ⟨_, h1, p, false, _, .inl rfl, h2, pl_tD e, by rw [len_f]; exact hl, q env _ (R1.put (e := .obj C' fs) h1 (.inr ⟨he, rfl⟩) h2 ?_ h4.1) (shr_own sh1 h2)⟩
        simp only [frzC, tD, putF_t]
      · exact q.elim
    · exact q.elim) fun _ _ _ x => xt_kb R x)
end
end Fr
set_option Elab.async false
set_option linter.all false
set_option maxRecDepth 100000
set_option maxHeartbeats 4000000
namespace Fr
open PySem PySem.Spec PyProof.Rows L2
def isLstE : E → Option (List E)
  | .lst es => some es
  | _ => none
def isStrE : E → Option Str
  | .str es => some es
  | _ => none
def sgE (z : Str) : List E := (tl z).map fun c => .str (mkS [c])
def rgE (lo : Int) (n : Nat) : List E := (List.range n).map fun i => .int (lo + (i : Nat))
def a3List (m : E3) : A3 := fun env W => (m env W).bind fun e W1 => ofO (isLstE e) W1
def a3TupI (m : E3) : A3 := fun env W => (m env W).bind fun e W1 => ofO (isTupE e) W1
def a3Str (m : E3) : A3 := fun env W => (m env W).bind fun e W1 => (ofO (isStrE e) W1).bind fun z W2 => .ret (sgE z) W2
def a3Rng1 (as_ : A3) : A3 := fun env W => (as_ env W).bind fun es W1 => match es with
  | [.int j] => if -(2 ^ 62) ≤ j ∧ j < 2 ^ 62 then .ret (rgE 0 j.toNat) W1 else .stuck
  | _ => .stuck
section
variable {K : PySem.W.Frag} {md : Nat} {w0 kb : Wd} {Ex : XK2} {T Ta Tb Tc : T2} {m ma mb mc : E3} {As Ks : A2} {as_ ks_ : A3} {Ba Bb : B2} {ba bb : B3} {S U : S2} {s u : S3} {r2 : R22} {o : OE2} {i j l : Nat} {env : En} {W W1 : Wd} {env3 : En3} {W3 : WE}
theorem sg_t {z : Str} : tDs K (sgE z) = sgD z := by
  rw [tDs_map]
  unfold sgE sgD
  rw [List.map_map]
  refine List.map_congr_left fun c _ => ?_
  simp only [Function.comp, tD]
theorem rg_t {lo : Int} {n : Nat} : tDs K (rgE lo n) = rgD lo n := by
  rw [tDs_map]
  unfold rgE rgD
  rw [List.map_map]
  refine List.map_congr_left fun c _ => ?_
  simp only [Function.comp, tD]
theorem v_iList {Ex : XS2} (h : EvP K w0 kb Ex T m) : EvA K w0 kb Ex (a2List T) (a3List m) := fun env W env3 W3 Q R sh st =>
  h env W env3 W3 _ R sh ((sat_bind.mp st).mono (fun e W4 q W1 k1 sh1 => by
    obtain ⟨es, he, q2⟩ := sat_ofO q
    cases e <;> first | (cases he; done) | skip
    cases he
    exact ⟨tDs K es, by simp only [tD], q2 W1 k1 sh1⟩) fun _ _ _ x => x)
theorem v_iTup {Ex : XS2} (h : EvP K w0 kb Ex T m) : EvA K w0 kb Ex (a2Tup T) (a3TupI m) := fun env W env3 W3 Q R sh st =>
  h env W env3 W3 _ R sh ((sat_bind.mp st).mono (fun e W4 q W1 k1 sh1 => by
    obtain ⟨es, he, q2⟩ := sat_ofO q
    cases e <;> first | (cases he; done) | skip
    cases he
    exact ⟨tDs K es, by simp only [tD], q2 W1 k1 sh1⟩) fun _ _ _ x => x)
theorem v_iStr {Ex : XS2} (h : EvP K w0 kb Ex T m) : EvA K w0 kb Ex (a2Str T) (a3Str m) := fun env W env3 W3 Q R sh st =>
  h env W env3 W3 _ R sh ((sat_bind.mp st).mono (fun e W4 q W1 k1 sh1 => by
    obtain ⟨z, he, q2⟩ := sat_ofO (sat_bind.mp q)
    cases e <;> first | (cases he; done) | skip
    cases he
    have := q2 W1 k1 sh1
    rw [sg_t] at this
    exact ⟨z, by simp only [tD], this⟩) fun _ _ _ x => x)
theorem v_iRng1 {Ex : XS2} (h : EvA K w0 kb Ex As as_) : EvA K w0 kb Ex (a2Rng1 As) (a3Rng1 as_) := fun env W env3 W3 Q R sh st =>
  h env W env3 W3 _ R sh ((sat_bind.mp st).mono (fun es W4 q W1 k1 sh1 => by
    split at q
    · rename_i j
      split at q
      · rename_i hj
        have := q W1 k1 sh1
        rw [rg_t] at this
        exact ⟨j, by simp only [tD, tDs], hj.1, hj.2, this⟩
      · exact q.elim
    · exact q.elim) fun _ _ _ x => x)
end
def forT (g : G3) (s : S3) : List E → S3
  | [], env, W => .ret (.nx env) W
  | e :: es, env, W => (g e env W).bind fun env1 W1 => (s env1 W1).bind fun o W2 => match o with
    | .nx e1 => forT g s es e1 W2
    | .ct e1 => forT g s es e1 W2
    | .bk e1 => .ret (.nx e1) W2
    | .rt d => .ret (.rt d) W2
def s3For (ti : A3) (g : G3) (s : S3) : S3 := fun env W => (ti env W).bind fun es W1 => forT g s es env W1
def wipeE (env : En3) : List Nat → En3
  | [] => env
  | v :: vs => (wipeE env vs).set v .no
def lcT (g : G3) (b : B3) (m : E3) (env0 : En3) : List E → WE → Tr (List E)
  | [], W => .ret [] W
  | e :: es, W => (g e env0 W).bind fun env1 W1 => (b env1 W1).bind fun c W2 => if c = true then (m env1 W2).bind fun y W3 => (lcT g b m env0 es W3).bind fun ys W4 => .ret (y :: ys) W4 else lcT g b m env0 es W2
def e3Lc (ti : A3) (g : G3) (b : B3) (m : E3) (vs : List Nat) : E3 := fun env W => (ti env W).bind fun es W1 => if es.length ≤ 1000000 then (lcT g b m (wipeE env vs) es W1).bind fun ys W2 => .ret (.lst ys) W2 else .stuck
section
variable {K : PySem.W.Frag} {md : Nat} {w0 kb : Wd} {Ex : XK2} {T Ta Tb Tc : T2} {m ma mb mc : E3} {As Ks Ti : A2} {as_ ks_ ti : A3} {Ba Bb B : B2} {ba bb b : B3} {S U : S2} {s u : S3} {r2 : R22} {o : OE2} {i j l : Nat} {env : En} {W W1 : Wd} {env3 : En3} {W3 : WE} {g2 : G2} {g3 : G3}
theorem forT_ok (hg : EvG K w0 kb g2 g3) (hx : XF g3) (hs : EvS md K w0 kb Ex S s) {E2 : Ends2} (ro : RtOk w0 E2.rt) : ∀ {es : List E} {env : En} {W : Wd} {env3 : En3} {W3 : WE}, Rn K w0 kb env3 env W → Shr K W3 W → Sat (forT g3 s es env3 W3) (OutOk md K w0 kb E2) (XS K Ex w0 kb) → forW g2 S E2 (tDs K es) env W
  | [], env, W, env3, W3, R, sh, st => by
    simp only [tDs]
    exact st env W R sh
  | e :: es, env, W, env3, W3, R, sh, st => by
    simp only [tDs]
    refine hg e env W env3 W3 _ R sh (Sat.mono (α := En3) (X := fun _ _ _ => False) (hx _ _ _ _ (XS K Ex w0 kb) (sat_bind.mp st)) (fun e3 W4 q env1 W1 R1 sh1 _ => ?_) fun _ _ _ x => x)
    refine hs env1 W1 e3 W4 _ ro R1 sh1 ((sat_bind.mp q).mono (fun o W5 q2 => ?_) fun _ _ _ x => x)
    cases o with
    | nx e4 => exact fun e' W' R' sh' => forT_ok hg hx hs ro R' sh' q2
    | ct e4 => exact fun e' W' R' sh' => forT_ok hg hx hs ro R' sh' q2
    | bk e4 => exact q2
    | rt d => exact q2
theorem v_for (ht : EvA K w0 kb (fun _ => Ex) Ti ti) (hg : EvG K w0 kb g2 g3) (hx : XF g3) (hs : EvS md K w0 kb Ex S s) : EvS md K w0 kb Ex (s2For Ti g2 S) (s3For ti g3 s) := fun env W env3 W3 E2 ro R sh st =>
  ht env W env3 W3 _ R sh ((sat_bind.mp st).mono (fun es W4 q W1 k1 sh1 => forW_I (forT_ok hg hx hs ro (R.step k1) sh1 q)) fun _ _ _ x => xt_kb R x)
def lcW (g : G2) (B : B2) (T : T2) (env0 : En) (k : List D → Wd → Prop) : List D → List D → Wd → Prop
  | [], acc, W => k acc W
  | d :: ds, acc, W => g d env0 W fun env1 W1 => B env1 W1 fun b W2 => if b = true then T env1 W2 fun y W3 => Pl y ∧ lcW g B T env0 k ds (acc ++ [y]) W3 else lcW g B T env0 k ds acc W2
theorem lcW_I {g : G2} {env0 : En} {ds : List D} {k : List D → Wd → Prop} (h : lcW g B T env0 k ds [] W) : LcI g B T env0 ds W k := by
  refine ⟨fun i acc W => lcW g B T env0 k (ds.drop i) acc W, h, fun i acc d W hd h => ?_, fun ys W h => ?_⟩
  · have e : ds.drop i = d :: ds.drop (i + 1) := by
      obtain ⟨h1, h2⟩ := List.getElem?_eq_some_iff.mp hd
      rw [← h2]
      exact List.drop_eq_getElem_cons h1
    dsimp only at h
    rw [e] at h
    exact h
  · dsimp only at h
    rw [List.drop_length] at h
    exact h
theorem Rn.wipe1 (R : Rn K w0 kb env3 env W) (v : Nat) : Rn K w0 kb (env3.set v .no) (env.set v none) W := by
  have look : ∀ (j : Nat) (y : Sl), y ≠ .no → (env3.set v .no)[j]? = some y → v ≠ j ∧ env3[j]? = some y := fun j y ny h => by
    rw [List.getElem?_set] at h
    by_cases n : v = j
    · rw [if_pos n] at h
      split at h
      · cases h
        exact absurd rfl ny
      · cases h
    · rw [if_neg n] at h
      exact ⟨n, h⟩
  have ne : ∀ (j : Nat), v ≠ j → (env.set v none)[j]? = env[j]? := fun j n => by rw [List.getElem?_set, if_neg n]
  refine ⟨by rw [List.length_set, List.length_set]; exact R.len, fun j y hy => ?_, fun j y hy => ?_, fun j y hy => ?_, fun a b y z q ha hb hqa hqb => ?_, R.kp, R.dm, R.kw, R.fl, fun j hj => ?_, fun j e' f x hj => ?_⟩
  · obtain ⟨n, hy⟩ := look j _ (by simp) hy
    rw [ne j n]
    exact R.pl j y hy
  · obtain ⟨n, hy⟩ := look j _ (by simp) hy
    rw [ne j n]
    exact R.ow j y hy
  · obtain ⟨n, hy⟩ := look j _ (by simp) hy
    rw [ne j n]
    exact R.sf j y hy
  · have go : ∀ (j : Nat) (y : E), ((env3.set v .no)[j]? = some (.ow y) ∨ (env3.set v .no)[j]? = some (.sf y)) → v ≠ j ∧ (env3[j]? = some (.ow y) ∨ env3[j]? = some (.sf y)) := fun j y h => by
      rcases h with h | h
      · obtain ⟨n, h⟩ := look j _ (by simp) h
        exact ⟨n, .inl h⟩
      · obtain ⟨n, h⟩ := look j _ (by simp) h
        exact ⟨n, .inr h⟩
    obtain ⟨n1, g1⟩ := go a y ha
    obtain ⟨n2, g2⟩ := go b z hb
    rw [ne a n1] at hqa
    rw [ne b n2] at hqb
    exact R.inj a b y z q g1 g2 hqa hqb
  · rw [List.getElem?_set] at hj ⊢
    by_cases n : v = j
    · rw [if_pos n] at hj ⊢
      split at hj
      · rename_i hl
        rw [if_pos (by rw [R.len]; exact hl)]
      · cases hj
    · rw [if_neg n] at hj ⊢
      exact R.no j hj
  · obtain ⟨n, hj⟩ := look j _ (by simp) hj
    obtain ⟨⟨p, l, C, fs, c, h1, h2, h3⟩, ho⟩ := R.sg j e' f x hj
    refine ⟨⟨p, l, C, fs, c, h1, by rw [ne j n]; exact h2, h3⟩, fun k s hs hk => ?_⟩
    cases s with
    | no => trivial
    | pl e => trivial
    | ow e => exact ho k _ (look k _ (by simp) hs).2 hk
    | sf e => exact ho k _ (look k _ (by simp) hs).2 hk
    | sg e f x => exact ho k _ (look k _ (by simp) hs).2 hk
    | un => exact ho k _ (look k _ (by simp) hs).2 hk
theorem Rn.wipes (R : Rn K w0 kb env3 env W) : ∀ vs : List Nat, Rn K w0 kb (wipeE env3 vs) (wipe2 env vs) W
  | [] => R
  | v :: vs => (R.wipes vs).wipe1 v
theorem lcT_ok {Ex : XK2} (hg : EvG K w0 kb g2 g3) (hx : XF g3) (hb : EvB K w0 kb (fun _ => Ex) B b) (hm : EvP K w0 kb (fun _ => Ex) T m) {env0 : En} {env03 : En3} {k : List D → Wd → Prop} {Wk : Wd} : ∀ {es : List E} {acc : List E} {W : Wd} {W3 : WE}, Rn K w0 kb env03 env0 W → Kp Wk W → Shr K W3 W →
    Sat (lcT g3 b m env03 es W3) (fun ys W3' => ∀ W', Kp Wk W' → Shr K W3' W' → k (tDs K (acc ++ ys)) W') (XT K Ex Wk) → lcW g2 B T env0 k (tDs K es) (tDs K acc) W
  | [], acc, W, W3, R, kw, sh, st => by
    have := st W kw sh
    rw [List.append_nil] at this
    simp only [tDs]
    exact this
  | e :: es, acc, W, W3, R, kw, sh, st => by
    simp only [tDs]
    refine hg e env0 W env03 W3 _ R sh (Sat.mono (α := En3) (X := fun _ _ _ => False) (hx _ _ _ _ (XT K Ex Wk) (sat_bind.mp st)) (fun e3 W4 q env1 W1 R1 sh1 k1 => ?_) fun _ _ _ x => x)
    refine hb env1 W1 e3 W4 _ R1 sh1 ((sat_bind.mp q).mono (fun c W5 q2 W2 k2 sh2 => ?_) fun _ _ _ x => x.step (kw.trans k1))
    have k12 := k1.trans k2
    cases c with
    | false => exact (if_neg (by decide)).mpr (lcT_ok (Ex := Ex) hg hx hb hm (R.step k12) (kw.trans k12) sh2 q2)
    | true =>
      refine (if_pos rfl).mpr (hm env1 W2 e3 W5 _ (R1.step k2) sh2 ((sat_bind.mp q2).mono (fun y W6 q3 W3 k3 sh3 => ⟨pl_tD y, ?_⟩) fun _ _ _ x => x.step (kw.trans k12)))
      have k13 := k12.trans k3
      have e1 : tDs K acc ++ [tD K y] = tDs K (acc ++ [y]) := by simp only [app_s, tDs]
      rw [e1]
      refine lcT_ok (Ex := Ex) hg hx hb hm (R.step k13) (kw.trans k13) sh3 ((sat_bind.mp q3).mono (fun ys W7 q4 W' kp sh' => ?_) fun _ _ _ x => x)
      have := q4 W' kp sh'
      rw [List.append_assoc]
      exact this
theorem v_lc {Ex : XS2} {vs : List Nat} (ht : EvA K w0 kb Ex Ti ti) (hg : EvG K w0 kb g2 g3) (hx : XF g3) (hb : ∀ X : XK2, EvB K w0 kb (fun _ => X) B b) (hm : ∀ X : XK2, EvP K w0 kb (fun _ => X) T m) : EvP K w0 kb Ex (t2Lc Ti g2 B T vs) (e3Lc ti g3 b m vs) := fun env W env3 W3 Q R sh st =>
  ht env W env3 W3 _ R sh ((sat_bind.mp st).mono (fun es W4 q W1 k1 sh1 => by
    split at q
    · rename_i hl
      refine ⟨by rw [len_s]; exact hl, lcW_I ?_⟩
      have := lcT_ok (Ex := Ex env) (acc := []) (k := fun ys W2 => Q (.lst ys) W2) hg hx (hb _) (hm _) ((R.step k1).wipes vs) (Kp.refl (W := W1)) sh1 ((sat_bind.mp q).mono (fun ys W5 q2 W' k2 sh2 => by
        have := q2 W' (k1.trans k2) sh2
        simp only [tD] at this
        exact this) fun _ _ _ x => x.step k1)
      simp only [tDs] at this
      exact this
    · exact q.elim) fun _ _ _ x => x)
end
end Fr
set_option Elab.async false
set_option linter.all false
set_option maxRecDepth 100000
set_option maxHeartbeats 4000000
namespace Fr
open PySem PySem.Spec PyProof.Rows L2
abbrev F3 := List E → WE → Tr E
abbrev Fi3 := List E → WE → Tr (List (Str × E))
def FnE (K : PySem.W.Frag) (F : Sp2) (f : F3) : Prop := ∀ es W W3 Q Ex, Shr K W3 W → Sat (f es W3) (fun e W3' => ∀ W', Kp W W' → Shr K W3' W' → Q (tD K e) W') (XT K Ex W) → F (tDs K es) W Q Ex
def FiE (K : PySem.W.Frag) (F : Fi2) (f : Fi3) : Prop := ∀ es W W3 Q Ex, Shr K W3 W → Sat (f es W3) (fun fs W3' => ∀ W', Kp W W' → Shr K W3' W' → Q (tDf K fs) W') (XT K Ex W) → F (tDs K es) W Q Ex
def spF (K : PySem.W.Frag) (f : F3) : Sp2 := fun ds W Q Ex => ∃ es W3, ds = tDs K es ∧ Shr K W3 W ∧ Sat (f es W3) (fun e W3' => ∀ W', Kp W W' → Shr K W3' W' → Q (tD K e) W') (XT K Ex W)
def spFi (K : PySem.W.Frag) (f : Fi3) : Fi2 := fun ds W Q Ex => ∃ es W3, ds = tDs K es ∧ Shr K W3 W ∧ Sat (f es W3) (fun fs W3' => ∀ W', Kp W W' → Shr K W3' W' → Q (tDf K fs) W') (XT K Ex W)
def Tr.calm {α : Type} : Tr α → Tr α
  | .ret a W => .ret a W
  | .exc _ _ _ => .stuck
  | .stuck => .stuck
  | .pick n k => .pick n fun i => (k i).calm
  | .new W k => .new W fun p => (k p).calm
  | .any k => .any fun p => (k p).calm
theorem sat_calm {α : Type} {Q : α → WE → Prop} {X X' : XE} : ∀ {t : Tr α}, Sat t.calm Q X → Sat t Q X'
  | .ret a W, h => h
  | .exc _ _ _, h => h.elim
  | .stuck, h => h
  | .pick n k, h => fun i hi => sat_calm (h i hi)
  | .new W k, h => fun p hp => sat_calm (h p hp)
  | .any k, h => fun p => sat_calm (h p)
def calmF (f : F3) : F3 := fun es W => (f es W).calm
def calmFi (f : Fi3) : Fi3 := fun es W => (f es W).calm
def dflF (dd : List E) (f : F3) : F3 := fun es W => f (es ++ dd) W
def dflFi (dd : List E) (f : Fi3) : Fi3 := fun es W => f (es ++ dd) W
def starF (m : Nat) (f : F3) : F3 := fun es W => if m ≤ es.length ∧ es.length ≤ 1000000 then f (es.take m ++ [.tup (es.drop m)]) W else .stuck
section
variable {K : PySem.W.Frag} {F : Sp2} {Fi : Fi2} {f : F3} {fi : Fi3}
theorem fne : FnE K (spF K f) f := fun es W W3 Q Ex sh st => ⟨es, W3, rfl, sh, st⟩
theorem fie : FiE K (spFi K fi) fi := fun es W W3 Q Ex sh st => ⟨es, W3, rfl, sh, st⟩
theorem FnE.calm (h : FnE K F f) : FnE K (fun ds W Q _ => F ds W Q fun _ _ _ => False) (calmF f) := fun es W W3 Q Ex sh st => h es W W3 Q _ sh (sat_calm st)
theorem FiE.calm (h : FiE K Fi fi) : FiE K (fun ds W Q _ => Fi ds W Q fun _ _ _ => False) (calmFi fi) := fun es W W3 Q Ex sh st => h es W W3 Q _ sh (sat_calm st)
theorem FnE.dfl {dd : List E} {d2 : List D} (h : FnE K F f) (e : tDs K dd = d2) : FnE K (fun ds W Q Ex => F (ds ++ d2) W Q Ex) (dflF dd f) := fun es W W3 Q Ex sh st => by
  have := h _ W W3 Q Ex sh st
  rw [app_s, e] at this
  exact this
theorem FiE.dfl {dd : List E} {d2 : List D} (h : FiE K Fi fi) (e : tDs K dd = d2) : FiE K (fun ds W Q Ex => Fi (ds ++ d2) W Q Ex) (dflFi dd fi) := fun es W W3 Q Ex sh st => by
  have := h _ W W3 Q Ex sh st
  rw [app_s, e] at this
  exact this
theorem FnE.dflC {dd : List E} {d2 : List D} (h : FnE K F f) (e : tDs K dd = d2) : FnE K (fun ds W Q _ => F (ds ++ d2) W Q fun _ _ _ => False) (calmF (dflF dd f)) := (h.dfl e).calm
theorem FiE.dflC {dd : List E} {d2 : List D} (h : FiE K Fi fi) (e : tDs K dd = d2) : FiE K (fun ds W Q _ => Fi (ds ++ d2) W Q fun _ _ _ => False) (calmFi (dflFi dd fi)) := (h.dfl e).calm
theorem FnE.star {m : Nat} (h : FnE K F f) : FnE K (fun ds W Q Ex => m ≤ ds.length ∧ ds.length ≤ 1000000 ∧ F (ds.take m ++ [.tup (ds.drop m)]) W Q Ex) (starF m f) := fun es W W3 Q Ex sh st => by
  unfold starF at st
  split at st
  · rename_i hl
    refine ⟨by rw [len_s]; exact hl.1, by rw [len_s]; exact hl.2, ?_⟩
    have := h _ W W3 Q Ex sh st
    rw [app_s] at this
    simp only [tDs, tD] at this
    rw [tDs_map, tDs_map] at this
    rw [tDs_map, ← List.map_take, ← List.map_drop]
    exact this
  · exact st.elim
theorem FnE.starC {m : Nat} (h : FnE K F f) : FnE K (fun ds W Q _ => m ≤ ds.length ∧ ds.length ≤ 1000000 ∧ F (ds.take m ++ [.tup (ds.drop m)]) W Q fun _ _ _ => False) (calmF (starF m f)) := h.star.calm
end
def e3Call (f : F3) (as_ : A3) : E3 := fun env W => (as_ env W).bind fun es W1 => f es W1
def isObjE (C : String) : E → Option (List (Str × E))
  | .obj C' fs => if C' = C then some fs else none
  | _ => none
def e3Fld (C : String) (f : Str) (m : E3) : E3 := fun env W => (m env W).bind fun o W1 => (ofO (isObjE C (vE W1 o)) W1).bind fun fs W1 => ofO (fs.lookup f) W1
def e3Meth (C : String) (mt : Str) (f : F3) (mo : E3) (as_ : A3) : E3 := fun env W => (mo env W).bind fun o W1 => (ofO (isObjE C (vE W1 o)) W1).bind fun fs W1 => if fs.lookup mt = none then (as_ env W1).bind fun es W2 => f (o :: es) W2 else .stuck
def e3Prop (C : String) (f : F3) (mo : E3) : E3 := fun env W => (mo env W).bind fun o W1 => (ofO (isObjE C (vE W1 o)) W1).bind fun _ W1 => f [o] W1
def isFnE (C : String) : E → Option Unit
  | .fn n => if n = C then some () else none
  | _ => none
def e3CMeth (C : String) (f : F3) (mo : E3) (as_ : A3) : E3 := fun env W => (mo env W).bind fun o W1 => (ofO (isFnE C o) W1).bind fun _ W1 => (as_ env W1).bind fun es W2 => f (.fn C :: es) W2
def e3Make (C : String) (f : Fi3) (as_ : A3) : E3 := fun env W => (as_ env W).bind fun es W1 => (f es W1).bind fun fs W2 => .ret (.obj C fs) W2
def e3MakeV (i : Nat) (C : String) (f : Fi3) (as_ : A3) : E3 := fun env W => match env[i]? with
  | some (.pl e) => (ofO (isFnE C e) W).bind fun _ W => e3Make C f as_ env W
  | _ => .stuck
section
variable {K : PySem.W.Frag} {md : Nat} {w0 kb : Wd} {Ex : XS2} {Ec : XK2} {T Ta Tb Tc : T2} {m ma mb mc : E3} {As Ks : A2} {as_ ks_ : A3} {F : Sp2} {Fi : Fi2} {f : F3} {fi : Fi3} {i : Nat} {env : En} {W W1 : Wd} {env3 : En3} {W3 : WE} {C : String} {mt : Str}
theorem fne_go {Ec : XK2} {W2 : Wd} {W4 : WE} {es : List E} {Q : DK} (hf : FnE K F f) (k : Kp W W2) (sh : Shr K W4 W2) (st : Sat (f es W4) (fun e W3' => ∀ W', Kp W W' → Shr K W3' W' → Q (tD K e) W') (XT K Ec W)) : F (tDs K es) W2 Q Ec := hf es W2 W4 Q Ec sh (st.mono (fun e W5 q W' k' sh' => q W' (k.trans k') sh') fun _ _ _ x => x.step k)
theorem v_call (hf : FnE K F f) (h : EvA K w0 kb (fun _ => Ec) As as_) : EvP K w0 kb (fun _ => Ec) (t2Call F Ec As) (e3Call f as_) := fun env W env3 W3 Q R sh st =>
  h env W env3 W3 _ R sh ((sat_bind.mp st).mono (fun es W4 q W1 k1 sh1 => ⟨plL_tDs es, fne_go hf k1 sh1 q⟩) fun _ _ _ x => x)
def NoX : XK2 := fun _ _ _ => False
theorem calm_calm {α : Type} : ∀ t : Tr α, t.calm.calm = t.calm
  | .ret a W => rfl
  | .exc _ _ _ => rfl
  | .stuck => rfl
  | .pick n k => congrArg (Tr.pick n) (funext fun i => calm_calm (k i))
  | .new W k => congrArg (Tr.new W) (funext fun i => calm_calm (k i))
  | .any k => congrArg Tr.any (funext fun i => calm_calm (k i))
theorem Sat.calmX {α : Type} {t : Tr α} {Q : α → WE → Prop} {X X' : XE} (h : Sat t.calm Q X) : Sat t.calm Q X' := sat_calm (t := t.calm) (by
  rw [calm_calm]
  exact h)
theorem fne_goC {Ec Ed : XK2} {W2 : Wd} {W4 : WE} {es : List E} {Q : DK} (hf : FnE K F (calmF f)) (k : Kp W W2) (sh : Shr K W4 W2) (st : Sat (calmF f es W4) (fun e W3' => ∀ W', Kp W W' → Shr K W3' W' → Q (tD K e) W') (XT K Ec W)) : F (tDs K es) W2 Q Ed := fne_go hf k sh st.calmX
theorem v_callC (hf : FnE K F (calmF f)) (h : EvA K w0 kb Ex As as_) : EvP K w0 kb Ex (t2Call F Ec As) (e3Call (calmF f) as_) := fun env W env3 W3 Q R sh st =>
  h env W env3 W3 _ R sh ((sat_bind.mp st).mono (fun es W4 q W1 k1 sh1 => ⟨plL_tDs es, fne_goC hf k1 sh1 q⟩) fun _ _ _ x => x)
theorem isObj_some {C : String} {e : E} {fs : List (Str × E)} (h : isObjE C e = some fs) : e = .obj C fs := by
  unfold isObjE at h
  split at h
  · split at h
    · rename_i e
      injection h with h
      rw [e, h]
    · exact absurd h (by simp)
  · exact absurd h (by simp)
theorem isFn_some {C : String} {e : E} {u : Unit} (h : isFnE C e = some u) : e = .fn C := by
  unfold isFnE at h
  split at h
  · split at h
    · rename_i e
      rw [e]
    · exact absurd h (by simp)
  · exact absurd h (by simp)
theorem rv_obj {C : String} {e : E} {d : D} {fs : List (Str × E)} (rv : RV K W e d) (sh : Shr K W3 W) (h : isObjE C (vE W3 e) = some fs) : vw W d = .obj (He.ga K C) (tDf K fs) := by
  have := isObj_some h
  rw [rv.vw sh (by rw [this]; simp), this]
  simp only [tD]
theorem v_fld {f : Str} (h : EvV K w0 kb Ex T m) : EvP K w0 kb Ex (t2Fld (He.ga K C) f T) (e3Fld C f m) := fun env W env3 W3 Q R sh st =>
  h env W env3 W3 _ R sh ((sat_bind.mp st).mono (fun o W4 q d W1 k1 sh1 rv => by
    obtain ⟨fs, he, q2⟩ := sat_ofO (sat_bind.mp q)
    obtain ⟨x, hx, q3⟩ := sat_ofO q2
    exact ⟨tDf K fs, tD K x, rv_obj rv sh1 he, by rw [lookF_t, hx]; rfl, q3 W1 k1 sh1⟩) fun _ _ _ x => x)
theorem vp (e : E) : RV K W e (tD K e) := .inl rfl
theorem v_meth (hf : FnE K F f) (ho : EvP K w0 kb (fun _ => Ec) T m) (h : EvA K w0 kb (fun _ => Ec) As as_) : EvP K w0 kb (fun _ => Ec) (t2Meth (He.ga K C) mt F Ec T As) (e3Meth C mt f m as_) := fun env W env3 W3 Q R sh st =>
  ho env W env3 W3 _ R sh ((sat_bind.mp st).mono (fun o W4 q W1 k1 sh1 => by
    obtain ⟨fs, he, q2⟩ := sat_ofO (sat_bind.mp q)
    split at q2
    · rename_i hl
      refine ⟨tDf K fs, rv_obj (vp o) sh1 he, by rw [lookF_t, hl]; rfl, h env W1 env3 W4 _ (R.step k1) sh1 ((sat_bind.mp q2).mono (fun es W5 q3 W2 k2 sh2 => ⟨pl_tD o, plL_tDs es, ?_⟩) fun _ _ _ x => x.step k1)⟩
      have := fne_go hf (k1.trans k2) sh2 q3
      simp only [tDs] at this
      exact this
    · exact q2.elim) fun _ _ _ x => x)
theorem v_methC (hf : FnE K F (calmF f)) (ho : EvP K w0 kb Ex T m) (h : EvA K w0 kb Ex As as_) : EvP K w0 kb Ex (t2Meth (He.ga K C) mt F Ec T As) (e3Meth C mt (calmF f) m as_) := fun env W env3 W3 Q R sh st =>
  ho env W env3 W3 _ R sh ((sat_bind.mp st).mono (fun o W4 q W1 k1 sh1 => by
    obtain ⟨fs, he, q2⟩ := sat_ofO (sat_bind.mp q)
    split at q2
    · rename_i hl
      refine ⟨tDf K fs, rv_obj (vp o) sh1 he, by rw [lookF_t, hl]; rfl, h env W1 env3 W4 _ (R.step k1) sh1 ((sat_bind.mp q2).mono (fun es W5 q3 W2 k2 sh2 => ⟨pl_tD o, plL_tDs es, ?_⟩) fun _ _ _ x => x.step k1)⟩
      have := fne_goC (Ed := Ec) hf (k1.trans k2) sh2 q3
      simp only [tDs] at this
      exact this
    · exact q2.elim) fun _ _ _ x => x)
theorem v_propC (hf : FnE K F (calmF f)) (ho : EvP K w0 kb Ex T m) : EvP K w0 kb Ex (t2Prop (He.ga K C) F Ec T) (e3Prop C (calmF f) m) := fun env W env3 W3 Q R sh st =>
  ho env W env3 W3 _ R sh ((sat_bind.mp st).mono (fun o W4 q W1 k1 sh1 => by
    obtain ⟨fs, he, q2⟩ := sat_ofO (sat_bind.mp q)
    refine ⟨tDf K fs, rv_obj (vp o) sh1 he, pl_tD o, ?_⟩
    have := fne_goC (Ed := Ec) hf k1 sh1 q2
    simp only [tDs] at this
    exact this) fun _ _ _ x => x)
theorem v_cmeth (hf : FnE K F f) (ho : EvP K w0 kb (fun _ => Ec) T m) (h : EvA K w0 kb (fun _ => Ec) As as_) : EvP K w0 kb (fun _ => Ec) (t2CMeth (He.ga K C) F Ec T As) (e3CMeth C f m as_) := fun env W env3 W3 Q R sh st =>
  ho env W env3 W3 _ R sh ((sat_bind.mp st).mono (fun o W4 q W1 k1 sh1 => by
    obtain ⟨u, he, q2⟩ := sat_ofO (sat_bind.mp q)
    cases isFn_some he
    refine ⟨by simp only [tD], h env W1 env3 W4 _ (R.step k1) sh1 ((sat_bind.mp q2).mono (fun es W5 q3 W2 k2 sh2 => ⟨plL_tDs es, ?_⟩) fun _ _ _ x => x.step k1)⟩
    have := fne_go hf (k1.trans k2) sh2 q3
    simp only [tDs, tD] at this
    exact this) fun _ _ _ x => x)
theorem v_cmethC (hf : FnE K F (calmF f)) (ho : EvP K w0 kb Ex T m) (h : EvA K w0 kb Ex As as_) : EvP K w0 kb Ex (t2CMeth (He.ga K C) F Ec T As) (e3CMeth C (calmF f) m as_) := fun env W env3 W3 Q R sh st =>
  ho env W env3 W3 _ R sh ((sat_bind.mp st).mono (fun o W4 q W1 k1 sh1 => by
    obtain ⟨u, he, q2⟩ := sat_ofO (sat_bind.mp q)
    cases isFn_some he
    refine ⟨by simp only [tD], h env W1 env3 W4 _ (R.step k1) sh1 ((sat_bind.mp q2).mono (fun es W5 q3 W2 k2 sh2 => ⟨plL_tDs es, ?_⟩) fun _ _ _ x => x.step k1)⟩
    have := fne_goC (Ed := Ec) hf (k1.trans k2) sh2 q3
    simp only [tDs, tD] at this
    exact this) fun _ _ _ x => x)
theorem rv_lst {e : E} {d : D} {es : List E} (rv : RV K W e d) (sh : Shr K W3 W) (h : isLstE (vE W3 e) = some es) : vw W d = .lst (tDs K es) := by
  have : vE W3 e = .lst es := by
    revert h
    cases vE W3 e <;> intro h <;> cases h
    rfl
  rw [rv.vw sh (by rw [this]; simp), this]
  simp only [tD]
theorem fie_go {Ec : XK2} {W2 : Wd} {W4 : WE} {es : List E} {Q : DK} (hf : FiE K Fi fi) (k : Kp W W2) (sh : Shr K W4 W2) (st : Sat ((fi es W4).bind fun fs W2 => .ret (E.obj C fs) W2) (fun e W3' => ∀ W', Kp W W' → Shr K W3' W' → Q (tD K e) W') (XT K Ec W)) : Fi (tDs K es) W2 (fun fs W2 => Q (.obj (He.ga K C) fs) W2) Ec := hf es W2 W4 _ Ec sh ((sat_bind.mp st).mono (fun fs W5 q W' k' sh' => by
  have := q W' (k.trans k') sh'
  simp only [tD] at this
  exact this) fun _ _ _ x => x.step k)
theorem v_make (hf : FiE K Fi fi) (h : EvA K w0 kb (fun _ => Ec) As as_) : EvP K w0 kb (fun _ => Ec) (t2Make (He.ga K C) Fi Ec As) (e3Make C fi as_) := fun env W env3 W3 Q R sh st =>
  h env W env3 W3 _ R sh ((sat_bind.mp st).mono (fun es W4 q W1 k1 sh1 => ⟨plL_tDs es, fie_go hf k1 sh1 q⟩) fun _ _ _ x => x)
theorem fie_goC {Ec Ed : XK2} {W2 : Wd} {W4 : WE} {es : List E} {Q : DK} (hf : FiE K Fi (calmFi fi)) (k : Kp W W2) (sh : Shr K W4 W2) (st : Sat ((calmFi fi es W4).bind fun fs W2 => .ret (E.obj C fs) W2) (fun e W3' => ∀ W', Kp W W' → Shr K W3' W' → Q (tD K e) W') (XT K Ec W)) : Fi (tDs K es) W2 (fun fs W2 => Q (.obj (He.ga K C) fs) W2) Ed := fie_go hf k sh (sat_bind.mpr (Sat.calmX (X := XT K Ec W) ((sat_bind.mp st).mono (fun _ _ q => q) fun _ _ _ x => x)))
theorem v_makeC (hf : FiE K Fi (calmFi fi)) (h : EvA K w0 kb Ex As as_) : EvP K w0 kb Ex (t2Make (He.ga K C) Fi Ec As) (e3Make C (calmFi fi) as_) := fun env W env3 W3 Q R sh st =>
  h env W env3 W3 _ R sh ((sat_bind.mp st).mono (fun es W4 q W1 k1 sh1 => ⟨plL_tDs es, fie_goC hf k1 sh1 q⟩) fun _ _ _ x => x)
theorem v_makeV (h : EvP K w0 kb Ex (t2Make (He.ga K C) Fi Ec As) (e3Make C fi as_)) : EvP K w0 kb Ex (fun env W Q => env[i]? = some (some (.fn (He.ga K C))) ∧ t2Make (He.ga K C) Fi Ec As env W Q) (e3MakeV i C fi as_) := fun env W env3 W3 Q R sh st => by
  unfold e3MakeV at st
  split at st
  · rename_i e he
    obtain ⟨u, hu, q⟩ := sat_ofO (sat_bind.mp st)
    cases isFn_some hu
    have := R.pl i _ he
    simp only [tD] at this
    exact ⟨this, h env W env3 W3 Q R sh q⟩
  · exact st.elim
end
def start3 (N : Nat) (es : List E) : En3 := es.map .pl ++ List.replicate (N - es.length) .no
def runF (N n : Nat) (s : S3) : F3 := fun es W => if es.length = n then (s (start3 N es) W).bind fun o W1 => match o with
  | .nx _ => .ret .non W1
  | .rt e => .ret e W1
  | _ => .stuck else .stuck
def selfOf (C : String) : En3 → Option (List (Str × E))
  | .sf (.obj C' fs) :: _ => if C' = C then some fs else none
  | _ => none
def runI (C : String) (N n : Nat) (s : S3) : Fi3 := fun es W => if es.length = n then (s (.sf (.obj C []) :: start3 (N - 1) es) W).bind fun o W1 => match o with
  | .nx env => (ofO (selfOf C env) W1).bind fun fs W1 => .ret fs W1
  | _ => .stuck else .stuck
section
variable {K : PySem.W.Frag} {Ex : XK2} {S : S2} {s : S3} {n : Nat} {N : List Str} {W : Wd} {Q2 : DK} {E2 : XK2} {ds : List D}
theorem start3_sg {N : Nat} {es : List E} {j : Nat} {e x : E} {f : Str} (h : (start3 N es)[j]? = some (.sg e f x)) : False := by
  unfold start3 at h
  by_cases hj : j < es.length
  · rw [List.getElem?_append_left (by rw [List.length_map]; exact hj), List.getElem?_map] at h
    cases e : es[j]? with
    | none => rw [e] at h; cases h
    | some x => rw [e] at h; cases h
  · rw [List.getElem?_append_right (by rw [List.length_map]; omega), List.getElem?_replicate] at h
    split at h <;> cases h
theorem rn_start {es : List E} {w0 kb : Wd} (hf : ∀ a c, w0 a = some (false, c) → ∃ c', W a = some (false, c')) (hk : ∀ a, w0 a = none → kb a = none) (hd : ∀ a, W a = none → w0 a = none) (kp : Kp kb W) : Rn K w0 kb (start3 N.length es) (start2 N (tDs K es)) W := by
  have look : ∀ (j : Nat) (y : Sl), y ≠ .no → (start3 N.length es)[j]? = some y → ∃ e, es[j]? = some e ∧ y = .pl e := fun j y ny h => by
    unfold start3 at h
    by_cases hj : j < es.length
    · rw [List.getElem?_append_left (by rw [List.length_map]; exact hj), List.getElem?_map] at h
      cases e : es[j]? with
      | none => rw [e] at h; cases h
      | some x => rw [e] at h; cases h; exact ⟨x, rfl, rfl⟩
    · rw [List.getElem?_append_right (by rw [List.length_map]; omega), List.getElem?_replicate] at h
      split at h
      · cases h
        exact absurd rfl ny
      · cases h
  refine ⟨?_, fun j e h => ?_, fun j e h => ?_, fun j e h => ?_, fun a b x y p h1 _ _ _ => ?_, kp, hd, hk, hf, fun j h => ?_, fun j e f x h => ?_⟩
  · unfold start2 start3
    simp [len_s]
  · obtain ⟨x, hx, e1⟩ := look j _ (by simp) h
    cases e1
    unfold start2
    have hj := (List.getElem?_eq_some_iff.mp hx).1
    rw [List.getElem?_append_left (by rw [List.length_map, len_s]; exact hj), List.getElem?_map, tDs_map, List.getElem?_map, hx]
    rfl
  · obtain ⟨x, hx, e1⟩ := look j _ (by simp) h
    cases e1
  · obtain ⟨x, hx, e1⟩ := look j _ (by simp) h
    cases e1
  · rcases h1 with h1 | h1 <;> (obtain ⟨x, hx, e1⟩ := look _ _ (by simp) h1; cases e1)
  · unfold start3 at h
    unfold start2
    by_cases hj : j < es.length
    · rw [List.getElem?_append_left (by rw [List.length_map]; exact hj), List.getElem?_map] at h
      cases e : es[j]? with
      | none => rw [e] at h; cases h
      | some x => rw [e] at h; cases h
    · rw [List.getElem?_append_right (by rw [List.length_map]; omega), List.getElem?_replicate, List.length_map] at h
      rw [List.getElem?_append_right (by rw [List.length_map, len_s]; omega), List.getElem?_replicate, List.length_map, len_s]
      split at h
      · rename_i hl
        rw [if_pos hl]
      · cases h
  · obtain ⟨x, hx, e1⟩ := look j _ (by simp) h
    cases e1
theorem rtok {w0 : Wd} {Q : DK} : RtOk w0 (rtf w0 Q) := fun p c d W h1 h2 h3 h4 => by
  refine .inl ⟨c, d, h1, h2, h3, ?_⟩
  cases d <;> first | exact h4 | skip
  · cases c <;> cases h3
theorem rt_of {w0 : Wd} {Q : DK} {e : E} {W : Wd} (h : Q (tD K e) W) : rtf w0 Q (tD K e) W := by
  cases e <;> (simp only [tD, rtf] at h ⊢; exact h)
theorem ev_body {Nn : Nat} (hN : Nn = N.length) (ev : EvS 0 K W W E2 S s) (h : spF K (runF Nn n s) ds W Q2 E2) : S { nx := fun _ W' => Q2 .non W', rt := rtf W Q2 } (start2 N ds) W := by
  subst hN
  obtain ⟨es, W3, rfl, sh, st⟩ := h
  unfold runF at st
  split at st
  · refine ev _ W _ W3 _ rtok (rn_start (fun a c h => ⟨c, h⟩) (fun _ h => h) (fun _ h => h) .refl) sh ((sat_bind.mp st).mono (fun o W4 q => ?_) fun _ _ _ x W' k _ sh' => x W' k sh')
    cases o with
    | nx e =>
      intro e' W' R sh'
      have := q W' R.kp sh'
      simp only [tD] at this
      exact this
    | rt e => exact fun W' k sh' => rt_of (q W' k sh')
    | bk e => exact q.elim
    | ct e => exact q.elim
  · exact st.elim
theorem spF_len {Nn : Nat} {vs : List V} {H : Hp} {Q : VK} {E : XK} (h : spL K (spF K (runF Nn n s)) vs H Q E) : vs.length = n := by
  obtain ⟨Z, ds, W, Q2, E2, ok, a, ⟨es, W3, rfl, sh, st⟩, _⟩ := h
  unfold runF at st
  split at st
  · rename_i hl
    rw [a.len, len_s, hl]
  · exact st.elim
theorem ev_init {Nn : Nat} {C : String} {x : Addr} {Qi : List (Str × D) → Wd → Prop} {E2 : XK2} (hN : Nn = N.length) (hN2 : 0 < Nn) (hx : W x = none) (ev : EvS 0 K (W.set x false (.ins (He.ga K C) [])) W (fun Ce fs W' => E2 Ce fs (W'.del x)) S s) (h : spFi K (runI C Nn n s) ds W Qi E2) :
    S { nx := fun _ W2 => ∃ fs W', W2 = W'.set x false (.ins (He.ga K C) fs) ∧ W' x = none ∧ Qi fs W', rt := fun d W2 => d = .non ∧ ∃ fs W', W2 = W'.set x false (.ins (He.ga K C) fs) ∧ W' x = none ∧ Qi fs W' } (start2 N (.own x :: ds)) (W.set x false (.ins (He.ga K C) [])) := by
  subst hN
  obtain ⟨es, W3, rfl, sh, st⟩ := h
  unfold runI at st
  split at st
  · have kx : Kp W (W.set x false (.ins (He.ga K C) [])) := Kp.setN hx
    have k0 : ∀ a, (W.set x false (.ins (He.ga K C) [])) a = none → W a = none := fun a h => kx.n a h
    have shx : Shr K W3 (W.set x false (.ins (He.ga K C) [])) := sh.setF fun y z => by rw [hx] at z; cases z
    have R0 : Rn K (W.set x false (.ins (He.ga K C) [])) W (.sf (.obj C []) :: start3 (N.length - 1) es) (start2 N (.own x :: tDs K es)) (W.set x false (.ins (He.ga K C) [])) := by
      cases N with
      | nil => cases hN2
      | cons a N' =>
        have R1 := rn_start (K := K) (N := N') (es := es) (W := W.set x false (.ins (He.ga K C) [])) (fun a c h => ⟨c, h⟩) k0 (fun _ h => h) kx
        have e2 : start2 (a :: N') (.own x :: tDs K es) = some (.own x) :: start2 N' (tDs K es) := by
          unfold start2
          simp
        rw [e2]
        have nopl : ∀ (j : Nat) (y : E), ¬ ((start3 N'.length es)[j]? = some (.ow y) ∨ (start3 N'.length es)[j]? = some (.sf y)) := fun j y h => by
          unfold start3 at h
          rcases h with h | h <;>
          · by_cases hj : j < es.length
            · rw [List.getElem?_append_left (by rw [List.length_map]; exact hj), List.getElem?_map] at h
              cases e : es[j]? with
              | none => rw [e] at h; cases h
              | some x => rw [e] at h; cases h
            · rw [List.getElem?_append_right (by rw [List.length_map]; omega), List.getElem?_replicate] at h
              split at h <;> cases h
        refine ⟨by simp only [List.length_cons, Nat.add_sub_cancel]; rw [R1.len], fun j e h => ?_, fun j e h => ?_, fun j e h => ?_, fun a b y z p h1 h2 _ _ => ?_, kx, fun _ h => h, k0, fun a c h => ⟨c, h⟩, fun j h => ?_, fun j e f x h => ?_⟩
        · cases j with
          | zero => cases h
          | succ j => exact R1.pl j e h
        · cases j with
          | zero => cases h
          | succ j => exact absurd (.inl h) (nopl j e)
        · cases j with
          | zero =>
            cases h
            exact ⟨x, _, rfl, Wd.same, by simp only [frzC, tD, tDf], hx, by rw [Wd.same]; simp⟩
          | succ j => exact absurd (.inr h) (nopl j e)
        · cases a with
          | zero =>
            cases b with
            | zero => rfl
            | succ b => exact absurd h2 (nopl b z)
          | succ a => exact absurd h1 (nopl a y)
        · cases j with
          | zero => cases h
          | succ j => exact R1.no j h
        · cases j with
          | zero => cases h
          | succ j => exact (start3_sg h).elim
    refine ev _ _ _ W3 _ (fun p c d W' h1 h2 h3 h4 => ?_) R0 shx ((sat_bind.mp st).mono (fun o W4 q => ?_) fun Ce fs W4 h W' k sh' fl => ?_)
    · obtain ⟨e1, _⟩ := h4
      subst e1
      cases c <;> cases h3
    · cases o with
      | nx env =>
        intro e' W' R' sh'
        obtain ⟨fs, he, q2⟩ := sat_ofO (sat_bind.mp q)
        obtain ⟨r, rfl⟩ : ∃ r, env = .sf (.obj C fs) :: r := by
          unfold selfOf at he
          split at he
          · split at he
            · rename_i e
              injection he with he
              rw [e, he]
              exact ⟨_, rfl⟩
            · exact absurd he (by simp)
          · exact absurd he (by simp)
        obtain ⟨p, c, h1, h2, h3, h4, h5⟩ := R'.sf 0 _ rfl
        have ep : p = x := Classical.byContradiction fun n => h5 (by rw [Wd.ne n]; exact h4)
        subst ep
        cases frz_ins h3
        refine ⟨_, W'.del p, ?_, Wd.delSame, q2 _ (R'.kp.del hx) (sh'.del fun y z => by rw [h2] at z; cases z)⟩
        funext a
        unfold Wd.set Wd.del
        by_cases e : a = p
        · rw [if_pos e, e, h2]
        · rw [if_neg e, if_neg e]
      | rt e => exact q.elim
      | bk e => exact q.elim
      | ct e => exact q.elim
    · obtain ⟨c', e'⟩ := sh' x _ Wd.same
      exact h (W'.del x) (k.del hx) (fl.del fun y z => by rw [e'] at z; cases z)
  · exact st.elim
end
end Fr
set_option Elab.async false
set_option linter.all false
set_option maxRecDepth 100000
set_option maxHeartbeats 4000000
namespace Fr
open PySem PySem.Spec PyProof.Rows L2
def sE : E → Option V
  | .non => some .non | .bl b => some (.bl b) | .int i => some (.int i) | .str s => some (.str s) | .ty n => some (.ty n) | _ => none
def fE : V → Option E
  | .non => some .non | .bl b => some (.bl b) | .int i => some (.int i) | .str s => some (.str s) | .ty n => some (.ty n) | _ => none
def sEs : List E → Option (List V)
  | [] => some []
  | e :: es => (sE e).bind fun v => (sEs es).map (v :: ·)
section
variable {K : PySem.W.Frag}
theorem sE_V {e : E} {v : V} (h : sE e = some v) : sV (tD K e) = some v := by cases e <;> first | (cases h; done) | (simp only [tD]; exact h)
theorem fE_D {v : V} {e : E} (h : fE v = some e) : sD v = some (tD K e) := by cases v <;> first | (cases h; done) | (cases h; rfl)
theorem sEs_V {W : Wd} : ∀ {es : List E} {ds : List D} {vs : List V}, RVL K W es ds → sEs es = some vs → sVs ds = some vs
  | [], _, _, .nil, h => h
  | e :: es, _, vs, .cons a l, h => by
    unfold sEs at h
    cases e1 : sE e with
    | none => rw [e1] at h; cases h
    | some x =>
      cases e2 : sEs es with
      | none => rw [e1, e2] at h; cases h
      | some ys =>
        rw [e1, e2] at h
        cases h
        have e3 := sE_V (K := K) e1
        have e4 := a.sc e3
        unfold sVs
        rw [e4, e3, sEs_V l e2]
        rfl
def o2S (o : V → V → Option V) : OE2 := fun a b _ => (sE a).bind fun x => (sE b).bind fun y => (o x y).bind fE
def o1S (o : V → Option V) : OE1 := fun a _ => (sE a).bind fun x => (o x).bind fE
def oLS (o : List V → Option V) : OEL := fun as_ _ => (sEs as_).bind fun xs => (o xs).bind fE
theorem bind_some {α β : Type} {x : Option α} {f : α → Option β} {b : β} (h : x.bind f = some b) : ∃ a, x = some a ∧ f a = some b := by
  cases x with
  | none => cases h
  | some a => exact ⟨a, rfl, h⟩
theorem k_s {r : R2} {o : V → V → Option V} (h : ∀ x y v H Q, o x y = some v → Q v H → r x y H Q) : Lk2 K (r2s r) (o2S o) := fun W W3 a b a' b' d Q sh ra rb e q => by
  obtain ⟨x, e1, e⟩ := bind_some e
  obtain ⟨y, e2, e⟩ := bind_some e
  obtain ⟨v, e3, e⟩ := bind_some e
  have h1 := sE_V (K := K) e1
  have h2 := sE_V (K := K) e2
  rw [ra.sc h1, rb.sc h2]
  exact ⟨x, y, h1, h2, fun H Q' hq => h x y v H Q' e3 (hq v _ (fE_D e) q)⟩
theorem k_s1 {r : V → Hp → VK → Prop} {o : V → Option V} (h : ∀ x v H Q, o x = some v → Q v H → r x H Q) : Lk1 K (r1s r) (o1S o) := fun W W3 a a' d Q sh ra e q => by
  obtain ⟨x, e1, e⟩ := bind_some e
  obtain ⟨v, e3, e⟩ := bind_some e
  have h1 := sE_V (K := K) e1
  rw [ra.sc h1]
  exact ⟨x, h1, fun H Q' hq => h x v H Q' e3 (hq v _ (fE_D e) q)⟩
theorem k_sL {r : List V → Hp → VK → Prop} {o : List V → Option V} (h : ∀ xs v H Q, o xs = some v → Q v H → r xs H Q) : LkL K (rLs r) (oLS o) := fun W W3 a a' d Q sh ra e q => by
  obtain ⟨x, e1, e⟩ := bind_some e
  obtain ⟨v, e3, e⟩ := bind_some e
  exact ⟨x, sEs_V ra e1, fun H Q' hq => h x v H Q' e3 (hq v _ (fE_D e) q)⟩
def vI (f : Int → Int → V) : V → V → Option V
  | .int i, .int j => some (f i j)
  | _, _ => none
def vIC (c : Int → Int → Bool) (f : Int → Int → V) : V → V → Option V
  | .int i, .int j => if c i j = true then some (f i j) else none
  | _, _ => none
theorem k_I0 {f : Int → Int → V} : Lk2 K (r2s (rI0 f)) (o2S (vI f)) := k_s fun x y v H Q e q => by
  unfold vI at e
  split at e
  · cases e
    exact ⟨_, _, rfl, rfl, q⟩
  · cases e
theorem k_I {C : Int → Int → Prop} {c : Int → Int → Bool} {f : Int → Int → V} (hc : ∀ i j, c i j = true → C i j) : Lk2 K (r2s (rI C f)) (o2S (vIC c f)) := k_s fun x y v H Q e q => by
  unfold vIC at e
  split at e
  · split at e
    · rename_i h
      cases e
      exact ⟨_, _, rfl, rfl, hc _ _ h, q⟩
    · cases e
  · cases e
theorem k_ip {f : Int → Int → Int} : Lk2 K (r2s (ipI f)) (o2S (vI fun i j => .int (f i j))) := k_s fun x y v H Q e q => by
  unfold vI at e
  split at e
  · cases e
    exact ⟨_, _, rfl, rfl, q⟩
  · cases e
def vU (f : Int → V) : V → Option V
  | .int i => some (f i)
  | _ => none
theorem k_U {f : Int → V} : Lk1 K (r1s (rU f)) (o1S (vU f)) := k_s1 fun x v H Q e q => by
  unfold vU at e
  split at e
  · cases e
    exact ⟨_, rfl, q⟩
  · cases e
abbrev oSub : OE2 := o2S (vI fun i j => .int (i - j))
abbrev oAnd : OE2 := o2S (vI fun i j => .int (Builtin.bitAnd i j))
abbrev oOr : OE2 := o2S (vI fun i j => .int (Builtin.bitOr i j))
abbrev oXor : OE2 := o2S (vI fun i j => .int (Builtin.bitXor i j))
abbrev oLt : OE2 := o2S (vI fun i j => .bl (decide (i < j)))
abbrev oLe : OE2 := o2S (vI fun i j => .bl (decide (i ≤ j)))
abbrev oGt : OE2 := o2S (vI fun i j => .bl (decide (j < i)))
abbrev oMod : OE2 := o2S (vIC (fun _ j => decide (0 < j)) fun i j => .int (i % j))
abbrev oPow : OE2 := o2S (vIC (fun i j => decide (0 ≤ j) && decide (j ≤ 1000000) && decide (i.natAbs < 2 ^ 64)) fun i j => .int (i ^ j.toNat))
abbrev oNeg : OE1 := o1S (vU fun i => .int (-i))
theorem k_mod : Lk2 K (r2s (rI (fun _ j => 0 < j) fun i j => .int (i % j))) oMod := k_I fun i j h => of_decide_eq_true h
theorem k_pow : Lk2 K (r2s (rI CPow fun i j => .int (i ^ j.toNat))) oPow := k_I fun i j h => by
  unfold CPow
  simp only [Bool.and_eq_true, decide_eq_true_eq] at h
  exact ⟨h.1.1, h.1.2, h.2⟩
def vEq : V → V → Option V := fun x y => if scal x y = true then some (.bl (decide (x = y))) else none
def vNe : V → V → Option V := fun x y => if scal x y = true then some (.bl (!decide (x = y))) else none
abbrev oEq : OE2 := o2S vEq
abbrev oNe : OE2 := o2S vNe
theorem k_eq : Lk2 K (r2s rEq) oEq := k_s fun x y v H Q e q => by
  unfold vEq at e
  split at e
  · rename_i h
    cases e
    exact ⟨h, q⟩
  · cases e
theorem k_ne : Lk2 K (r2s rNe) oNe := k_s fun x y v H Q e q => by
  unfold vNe at e
  split at e
  · rename_i h
    cases e
    exact ⟨h, q⟩
  · cases e
def vInSg (neg : Bool) : V → V → Option V
  | .str s, .str z => match tl s with
    | [c] => some (.bl (if neg then !decide (c ∈ tl z) else decide (c ∈ tl z)))
    | _ => none
  | _, _ => none
abbrev oNotInSg : OE2 := o2S (vInSg true)
theorem sg_eq {s : Str} {c : Nat} (h : tl s = [c]) : s = ⟨#[c]⟩ := by
  cases s with
  | mk a =>
    have : a = #[c] := Array.toList_inj.mp h
    rw [this]
theorem k_notInSg : Lk2 K (r2s fun x y H Q => ∃ (c : Nat) (z : Str), x = .str ⟨#[c]⟩ ∧ y = .str z ∧ Q (.bl (!decide (c ∈ z.cps.toList))) H) oNotInSg := k_s fun x y v H Q e q => by
  unfold vInSg at e
  split at e
  · split at e
    · rename_i h
      rw [sg_eq h]
      cases e
      exact ⟨_, _, rfl, rfl, q⟩
    · cases e
  · cases e
def vIxS : V → V → Option V
  | .str z, .int i => if z.length ≤ 16777216 then (atI (tl z) i).map fun c => .str ⟨#[c]⟩ else none
  | _, _ => none
abbrev oIxS : OE2 := o2S vIxS
theorem k_ixS : Lk2 K (r2s rIxS) oIxS := k_s fun x y v H Q e q => by
  unfold vIxS at e
  split at e
  · split at e
    · rename_i h
      rename_i z i
      cases h2 : atI (tl z) i with
      | none => rw [h2] at e; cases e
      | some c =>
        rw [h2] at e
        cases e
        exact ⟨_, _, c, rfl, rfl, le_line h, h2, q⟩
    · cases e
  · cases e
theorem rv_tup {W : Wd} {e : E} {d : D} {es : List E} (rv : RV K W e d) (h : isTupE e = some es) : d = .tup (tDs K es) := by
  cases e <;> first | (cases h; done) | skip
  cases h
  rcases rv with rfl | ⟨p, c, rfl, h2, h3⟩
  · simp only [tD]
  · exfalso
    simp only [tD] at h3
    cases c <;> cases h3
theorem rv_scr {W : Wd} {ns : List Int} {d : D} (rv : RV K W (.scr ns) d) : d = .scr ns := by
  rcases rv with rfl | ⟨p, c, rfl, h2, h3⟩
  · simp only [tD]
  · exfalso
    simp only [tD] at h3
    cases c <;> cases h3
def oIxL : OE2 := fun a i W => (isLstE (vE W a)).bind fun es => (isIntE i).bind fun k => atI es k
def oIxT : OE2 := fun a i _ => (isTupE a).bind fun es => (isIntE i).bind fun k => atI es k
theorem at_s {es : List E} {k : Int} {x : E} (h : atI es k = some x) : atI (tDs K es) k = some (tD K x) := by
  rw [tDs_map]
  exact atI_map h
theorem int_rv {W : Wd} {i : E} {d : D} {k : Int} (rv : RV K W i d) (h : isIntE i = some k) : d = .int k := by
  cases isInt_some h
  have := rv.sc (v := .int k) (by simp only [tD, sV])
  rw [this]
  simp only [tD]
theorem k_ixL : Lk2 K r2IxL oIxL := fun W W3 a b a' b' d Q sh ra rb e q => by
  obtain ⟨es, e1, e⟩ := bind_some e
  obtain ⟨k, e2, e⟩ := bind_some e
  exact ⟨tDs K es, k, tD K d, rv_lst ra sh e1, int_rv rb e2, at_s e, q⟩
theorem k_ixT : Lk2 K r2IxT oIxT := fun W W3 a b a' b' d Q sh ra rb e q => by
  obtain ⟨es, e1, e⟩ := bind_some e
  obtain ⟨k, e2, e⟩ := bind_some e
  exact ⟨tDs K es, k, tD K d, rv_tup ra e1, int_rv rb e2, at_s e, q⟩
def oCat : OE2 := fun a b W => (isLstE (vE W a)).bind fun es => (isLstE (vE W b)).bind fun fs => if es.length + fs.length ≤ 1000000 then some (.lst (es ++ fs)) else none
theorem k_cat : Lk2 K r2Cat oCat := fun W W3 a b a' b' d Q sh ra rb e q => by
  obtain ⟨es, e1, e⟩ := bind_some e
  obtain ⟨fs, e2, e⟩ := bind_some e
  split at e
  · rename_i h
    cases e
    simp only [tD, app_s] at q
    exact ⟨tDs K es, tDs K fs, rv_lst ra sh e1, rv_lst rb sh e2, by rw [len_s, len_s]; exact h, q⟩
  · cases e
theorem map_some {α β : Type} {x : Option α} {f : α → β} {b : β} (h : x.map f = some b) : ∃ a, x = some a ∧ f a = b := by
  cases x with
  | none => cases h
  | some a => exact ⟨a, rfl, Option.some.inj h⟩
theorem str_some {e : E} {z : Str} (h : isStrE e = some z) : e = .str z := by cases e <;> cases h <;> rfl
theorem str_rv {W : Wd} {i : E} {d : D} {k : Str} (rv : RV K W i d) (h : isStrE i = some k) : d = .str k := by
  cases str_some h
  have := rv.sc (v := .str k) (by simp only [tD, sV])
  rw [this]
  simp only [tD]
def oLen : OEL := fun as_ W => match as_ with
  | [a] => match vE W a with
    | .lst es => some (.int es.length)
    | .tup es => some (.int es.length)
    | .scr ns => some (.int ns.length)
    | _ => none
  | _ => none
theorem rvl1 {W : Wd} {a : E} {ds : List D} (h : RVL K W [a] ds) : ∃ d, ds = [d] ∧ RV K W a d := by
  cases h with
  | cons a l =>
    cases l
    exact ⟨_, rfl, a⟩
theorem rvl2 {W : Wd} {a b : E} {ds : List D} (h : RVL K W [a, b] ds) : ∃ d e, ds = [d, e] ∧ RV K W a d ∧ RV K W b e := by
  cases h with
  | cons a l =>
    cases l with
    | cons b l =>
      cases l
      exact ⟨_, _, rfl, a, b⟩
theorem k_len : LkL K r2Len oLen := fun W W3 as_ ds d Q sh ra e q => by
  unfold oLen at e
  split at e
  · rename_i a
    obtain ⟨x, rfl, rx⟩ := rvl1 ra
    refine ⟨x, rfl, ?_⟩
    split at e
    · rename_i es h
      cases e
      simp only [tD] at q
      exact .inl ⟨tDs K es, rv_lst rx sh (by rw [h]; rfl), by rw [len_s]; exact q⟩
    · rename_i es h
      cases e
      simp only [tD] at q
      refine .inr (.inl ⟨tDs K es, rv_tup rx (es := es) ?_, by rw [len_s]; exact q⟩)
      cases a <;> first | (simp only [vE] at h; first | (cases h; rfl) | (cases h; done)) | skip
      unfold vE at h
      dsimp only at h
      split at h <;> cases h
    · rename_i ns h
      cases e
      simp only [tD] at q
      have ea : a = .scr ns := by
        cases a <;> first | (simp only [vE] at h; exact h) | skip
        unfold vE at h
        dsimp only at h
        split at h <;> cases h
      subst ea
      exact .inr (.inr ⟨ns, rv_scr rx, q⟩)
    · cases e
  · cases e
def vLenS : List V → Option V
  | [.str z] => if z.length ≤ 16777216 then some (.int z.length) else none
  | _ => none
abbrev oLenS : OEL := oLS vLenS
theorem k_lenS : LkL K (rLs fun xs H Q => ∃ z, xs = [.str z] ∧ z.length ≤ sizeLine ∧ Q (.int z.length) H) oLenS := k_sL fun xs v H Q e q => by
  unfold vLenS at e
  split at e
  · split at e
    · rename_i h
      cases e
      exact ⟨_, rfl, le_line h, q⟩
    · cases e
  · cases e
def oIn (neg : Bool) : OE2 := fun a b W => (sE a).bind fun x => ((isLstE (vE W b)).or (isTupE b)).bind fun es => (sEs es).bind fun xs => if flatV x = true ∧ xs.all flatV = true then some (.bl (if neg then !inV x xs else inV x xs)) else none
theorem sEs_T {W : Wd} {es : List E} {vs : List V} (h : sEs es = some vs) : sVs (tDs K es) = some vs := sEs_V (rvl_map (W := W) es) h
theorem k_in {neg : Bool} : Lk2 K (r2In neg) (oIn neg) := fun W W3 a b a' b' d Q sh ra rb e q => by
  obtain ⟨x, e1, e⟩ := bind_some e
  obtain ⟨es, e2, e⟩ := bind_some e
  obtain ⟨xs, e3, e⟩ := bind_some e
  have h1 := sE_V (K := K) e1
  rw [ra.sc h1]
  split at e
  · rename_i h
    cases e
    simp only [tD] at q
    refine ⟨x, tDs K es, xs, h1, ?_, sEs_T (W := W) e3, h.1, h.2, q⟩
    cases h2 : isLstE (vE W3 b) with
    | some l =>
      rw [h2] at e2
      cases e2
      exact .inl (rv_lst rb sh h2)
    | none =>
      rw [h2] at e2
      exact .inr (rv_tup rb e2)
  · cases e
def isNonE : E → Bool
  | .non => true
  | _ => false
def oIsN (neg : Bool) : OE2 := fun a b _ => match b with
  | .non => some (.bl (if neg then !isNonE a else isNonE a))
  | _ => none
theorem rv_non {W : Wd} {d : D} (rv : RV K W .non d) : d = .non := by
  have := rv.sc (v := .non) (by simp only [tD, sV])
  rw [this]
  simp only [tD]
theorem k_isN {neg : Bool} : Lk2 K (r2IsN neg) (oIsN neg) := fun W W3 a b a' b' d Q sh ra rb e q => by
  unfold oIsN at e
  split at e
  · cases e
    simp only [tD] at q
    refine ⟨rv_non rb, ?_⟩
    by_cases h : a = .non
    · subst h
      refine .inl ⟨rv_non ra, ?_⟩
      cases neg <;> exact q
    · have hn : isNonE a = false := by cases a <;> first | rfl | exact absurd rfl h
      rw [hn] at q
      refine .inr ⟨fun n hn2 e2 => ?_, by cases neg <;> exact q⟩
      rcases ra with rfl | ⟨p, c, rfl, _⟩
      · subst e2
        cases a <;> first | exact h rfl | (simp only [tD, sV] at hn2; cases hn2)
      · cases hn2
  · cases e
end
section
variable {K : PySem.W.Frag} {w0 kb : Wd} {Ex : XS2} {T Ta Tb Tc : T2} {m ma mb mc : E3} {As : A2} {as_ : A3}
theorem v_dnew : EvP K w0 kb Ex t2DNew (e3C (.dic [])) := fun env W env3 W3 Q R sh st => by
  have := st W .refl sh
  simp only [tD, tDk] at this
  exact this
end
end Fr
set_option Elab.async false
set_option linter.all false
set_option maxRecDepth 100000
set_option maxHeartbeats 4000000
namespace Fr
open PySem PySem.Spec PyProof.Rows L2
section
variable {K : PySem.W.Frag}
def vMax2 : List V → Option V
  | [.int i, .int j] => some (.int (if j > i then j else i))
  | _ => none
def vMin2 : List V → Option V
  | [.int i, .int j] => some (.int (if j < i then j else i))
  | _ => none
abbrev oMax2 : OEL := oLS vMax2
abbrev oMin2 : OEL := oLS vMin2
theorem k_max2 : LkL K (rLs fun xs H Q => ∃ i j, xs = [.int i, .int j] ∧ Q (.int (if j > i then j else i)) H) oMax2 := k_sL fun xs v H Q e q => by
  unfold vMax2 at e
  split at e
  · cases e
    exact ⟨_, _, rfl, q⟩
  · cases e
theorem k_min2 : LkL K (rLs fun xs H Q => ∃ i j, xs = [.int i, .int j] ∧ Q (.int (if j < i then j else i)) H) oMin2 := k_sL fun xs v H Q e q => by
  unfold vMin2 at e
  split at e
  · cases e
    exact ⟨_, _, rfl, q⟩
  · cases e
def vInt1 : List V → Option V
  | [.int i] => some (.int i)
  | [.bl k] => some (.int (if k then 1 else 0))
  | _ => none
abbrev oInt1 : OEL := oLS vInt1
theorem k_int1 : LkL K (rLs fun xs H Q => (∃ i, xs = [.int i] ∧ Q (.int i) H) ∨ ∃ k, xs = [.bl k] ∧ Q (.int (if k then 1 else 0)) H) oInt1 := k_sL fun xs v H Q e q => by
  unfold vInt1 at e
  split at e
  · cases e
    exact .inl ⟨_, rfl, q⟩
  · cases e
    exact .inr ⟨_, rfl, q⟩
  · cases e
def seqE (W : WE) (a : E) : Option (List E) := (isLstE (vE W a)).or (isTupE a)
theorem seq_rv {W : Wd} {W3 : WE} {a : E} {d : D} {es : List E} (ra : RV K W a d) (sh : Shr K W3 W) (e : seqE W3 a = some es) : vw W d = .lst (tDs K es) ∨ d = .tup (tDs K es) := by
  unfold seqE at e
  cases h2 : isLstE (vE W3 a) with
  | some l =>
    rw [h2] at e
    cases e
    exact .inl (rv_lst ra sh h2)
  | none =>
    rw [h2] at e
    exact .inr (rv_tup ra e)
def oList : OEL := fun as_ W => match as_ with
  | [a] => (seqE W a).map .lst
  | _ => none
theorem k_list : LkL K r2List oList := fun W W3 as_ ds d Q sh ra e q => by
  unfold oList at e
  split at e
  · obtain ⟨x, rfl, rx⟩ := rvl1 ra
    obtain ⟨es, e1, rfl⟩ := map_some e
    simp only [tD] at q
    exact ⟨x, _, rfl, seq_rv rx sh e1, q⟩
  · cases e
def oListS : OEL := fun as_ _ => match as_ with
  | [.str z] => if z.length ≤ 16777216 then some (.lst (sgE z)) else none
  | _ => none
theorem k_listS : LkL K r2ListS oListS := fun W W3 as_ ds d Q sh ra e q => by
  unfold oListS at e
  split at e
  · obtain ⟨x, rfl, rx⟩ := rvl1 ra
    split at e
    · rename_i h
      cases e
      simp only [tD, sg_t] at q
      have := str_rv rx (k := _) rfl
      subst this
      exact ⟨_, rfl, h, q⟩
    · cases e
  · cases e
def strsE : List E → Option (List Str)
  | [] => some []
  | .str b :: es => (strsE es).map (b :: ·)
  | _ :: _ => none
theorem strs_s : ∀ {es : List E} {bs : List Str}, strsE es = some bs → tDs K es = bs.map D.str
  | [], bs, h => by
    cases h
    simp only [tDs, List.map_nil]
  | e :: es, bs, h => by
    cases e <;> first | (cases h; done) | skip
    obtain ⟨cs, h1, rfl⟩ := map_some (show (strsE es).map _ = some bs from h)
    simp only [tDs, tD, List.map_cons, strs_s h1]
def ascB (z : Str) : Bool := (tl z).all fun c => decide (c < 128)
theorem ascB_ok {z : Str} (h : ascB z = true) : Asc z := fun c hc => of_decide_eq_true (List.all_eq_true.mp h c hc)
mutual
def pyE : Nat → E → Option PyData
  | _, .non => some .none
  | _, .bl b => some (.bool b)
  | _, .int i => some (.int i)
  | _, .str s => if ascB s = true then some (.str s) else none
  | n + 1, .lst ds => (pyEs n ds).map .list
  | n + 1, .tup ds => (pyEs n ds).map .tuple
  | _, _ => none
def pyEs : Nat → List E → Option (List PyData)
  | _, [] => some []
  | n, d :: ds => (pyE n d).bind fun p => (pyEs n ds).map (p :: ·)
end
mutual
theorem pyE_ok : ∀ (n : Nat) (e : E) (p : PyData), pyE n e = some p → Py n (tD K e) p
  | n, .non, p, h => by simp only [pyE] at h; cases h; simp only [tD]; exact .non
  | n, .bl b, p, h => by simp only [pyE] at h; cases h; simp only [tD]; exact .bl b
  | n, .int b, p, h => by simp only [pyE] at h; cases h; simp only [tD]; exact .int b
  | n, .str b, p, h => by
    simp only [pyE] at h
    split at h
    · rename_i hb
      cases h
      simp only [tD]
      exact .str (ascB_ok hb)
    · cases h
  | 0, .lst ds, p, h => by simp only [pyE] at h; cases h
  | n + 1, .lst ds, p, h => by
    simp only [pyE] at h
    obtain ⟨ps, h1, rfl⟩ := map_some h
    simp only [tD]
    exact .lst (pyEs_ok n ds ps h1)
  | 0, .tup ds, p, h => by simp only [pyE] at h; cases h
  | n + 1, .tup ds, p, h => by
    simp only [pyE] at h
    obtain ⟨ps, h1, rfl⟩ := map_some h
    simp only [tD]
    exact .tup (pyEs_ok n ds ps h1)
  | n, .ty _, p, h => by simp only [pyE] at h; cases h
  | n, .fn _, p, h => by simp only [pyE] at h; cases h
  | n, .dic _, p, h => by simp only [pyE] at h; cases h
  | n, .scr _, p, h => by simp only [pyE] at h; cases h
  | n, .obj _ _, p, h => by simp only [pyE] at h; cases h
  | n, .cel _, p, h => by simp only [pyE] at h; cases h
  | n, .ety _, p, h => by simp only [pyE] at h; cases h
theorem pyEs_ok : ∀ (n : Nat) (es : List E) (ps : List PyData), pyEs n es = some ps → PyL n (tDs K es) ps
  | n, [], ps, h => by simp only [pyEs] at h; cases h; simp only [tDs]; exact .nil
  | n, e :: es, ps, h => by
    simp only [pyEs] at h
    obtain ⟨p, h1, h⟩ := bind_some h
    obtain ⟨qs, h2, rfl⟩ := map_some h
    simp only [tDs]
    exact .cons (pyE_ok n e p h1) (pyEs_ok n es qs h2)
end
def oEqD : OE2 := fun a b W => (pyE 64 (vE W a)).bind fun p => (pyE 64 (vE W b)).map fun q => .bl (PyData.eqv p q)
theorem py_rv {W : Wd} {W3 : WE} {a : E} {d : D} {p : PyData} (ra : RV K W a d) (sh : Shr K W3 W) (e : pyE 64 (vE W3 a) = some p) : Py 64 (vw W d) p := by
  rw [ra.vw sh (fun x h => by rw [h] at e; simp only [pyE] at e; cases e)]
  exact pyE_ok _ _ _ e
theorem k_eqD : Lk2 K r2EqD oEqD := fun W W3 a b a' b' d Q sh ra rb e q => by
  obtain ⟨p, e1, e⟩ := bind_some e
  obtain ⟨r, e2, rfl⟩ := map_some e
  simp only [tD] at q
  exact ⟨64, p, r, Nat.le_refl _, py_rv ra sh e1, py_rv rb sh e2, q⟩
end
inductive Ty3 where
  | b (n : String) | c (C : String)
  deriving DecidableEq
def tv (K : PySem.W.Frag) : Ty3 → Value
  | .b n => .type n
  | .c C => .ref (He.ga K C)
def tyE : E → Option Ty3
  | .non => some (.b "NoneType") | .bl _ => some (.b "bool") | .int _ => some (.b "int") | .str _ => some (.b "str")
  | .lst _ => some (.b "list") | .tup _ => some (.b "tuple") | .dic _ => some (.b "dict") | .obj C _ => some (.c C) | _ => none
def clE : E → Option Ty3
  | .ty n => some (.b n)
  | .fn n => some (.c n)
  | _ => none
def btT (t n : String) : Bool := t == n || (t == "bool" && n == "int")
def isiE (cs : List String) : Ty3 → Ty3 → Option Bool
  | .b t, .b n => if offTys.contains t = true ∧ offTys.contains n = true then some (btT t n) else none
  | .b t, .c D => if cs.contains D = true ∧ offTys.contains t = true then some false else none
  | .c C, .b n => if cs.contains C = true ∧ offTys.contains n = true then some false else none
  | .c C, .c D => if cs.contains C = true ∧ cs.contains D = true then some (C == D) else none
structure IsF (K : PySem.W.Frag) (cs : List String) : Prop where
  cl : ∀ C ∈ cs, ClsF K (He.ga K C)
  off : ∀ C ∈ cs, ∀ t ∈ offTys, PySem.W.kitOne K (.type t) (.ref (He.ga K C)) = some false
  on : ∀ C ∈ cs, ∀ t ∈ offTys, PySem.W.kitOne K (.ref (He.ga K C)) (.type t) = some false
  ne : ∀ C ∈ cs, ∀ D ∈ cs, C ≠ D → PySem.W.kitOne K (.ref (He.ga K C)) (.ref (He.ga K D)) = some false
theorem bt_ok : ∀ t ∈ offTys, ∀ n ∈ offTys, kitB t n = some (btT t n) := by decide +kernel
section
variable {K : PySem.W.Frag} {w0 kb : Wd} {Ex : XS2} {cs : List String} {T Ta Tb Tc : T2} {m ma mb mc : E3} {As : A2} {as_ : A3}
theorem isi_ok (F : IsF K cs) {t u : Ty3} {b : Bool} (h : isiE cs t u = some b) : PySem.W.kitOne K (tv K t) (tv K u) = some b := by
  cases t with
  | b t =>
    cases u with
    | b n =>
      simp only [isiE] at h
      split at h
      · rename_i hm
        cases h
        exact kit_ty (bt_ok t (by simpa using hm.1) n (by simpa using hm.2))
      · cases h
    | c D =>
      simp only [isiE] at h
      split at h
      · rename_i hm
        cases h
        exact F.off D (by simpa using hm.1) t (by simpa using hm.2)
      · cases h
  | c C =>
    cases u with
    | b n =>
      simp only [isiE] at h
      split at h
      · rename_i hm
        cases h
        exact F.on C (by simpa using hm.1) n (by simpa using hm.2)
      · cases h
    | c D =>
      simp only [isiE] at h
      split at h
      · rename_i hm
        cases h
        by_cases e : C = D
        · subst e
          simp only [beq_self_eq_true]
          exact kit_self
        · rw [beq_eq_false_iff_ne.mpr e]
          exact F.ne C (by simpa using hm.1) D (by simpa using hm.2) e
      · cases h
theorem ty_rv (F : IsF K cs) {W : Wd} {W3 : WE} {a : E} {d : D} {t u : Ty3} {b : Bool} (ra : RV K W a d) (sh : Shr K W3 W) (e : tyE (vE W3 a) = some t) (hb : isiE cs t u = some b) : TyD K W d (tv K t) := by
  have hv := ra.vw sh (fun x h => by rw [h] at e; cases e)
  have sc : ∀ {x : E} {v : V}, vE W3 a = x → (∀ y, x ≠ .lst y) → (∀ y, x ≠ .dic y) → (∀ C y, x ≠ .obj C y) → a = x := fun {x v} h n1 n2 n3 => by
    cases a <;> first | exact h | skip
    unfold vE at h
    dsimp only at h
    split at h
    · exact absurd h.symm (n1 _)
    · exact absurd h.symm (n2 _)
    · exact absurd h.symm (n2 _)
    · exact absurd h.symm (n3 _ _)
    · exact h
  cases h : vE W3 a with
  | non =>
    rw [h] at e; cases e
    have := sc (v := .non) h (by simp) (by simp) (by simp)
    subst this
    rw [ra.sc (v := .non) (by simp only [tD, sV])]
    simp only [tD]
    exact .non
  | bl x =>
    rw [h] at e; cases e
    have := sc (v := .non) h (by simp) (by simp) (by simp)
    subst this
    rw [ra.sc (v := .bl x) (by simp only [tD, sV])]
    simp only [tD]
    exact .bl x
  | int x =>
    rw [h] at e; cases e
    have := sc (v := .non) h (by simp) (by simp) (by simp)
    subst this
    rw [ra.sc (v := .int x) (by simp only [tD, sV])]
    simp only [tD]
    exact .int x
  | str x =>
    rw [h] at e; cases e
    have := sc (v := .non) h (by simp) (by simp) (by simp)
    subst this
    rw [ra.sc (v := .str x) (by simp only [tD, sV])]
    simp only [tD]
    exact .str x
  | tup x =>
    rw [h] at e; cases e
    have := sc (v := .non) h (by simp) (by simp) (by simp)
    subst this
    rw [rv_tup ra rfl]
    exact .tup _
  | lst x =>
    rw [h] at e; cases e
    rw [h] at hv
    simp only [tD] at hv
    exact .lst hv
  | dic x =>
    rw [h] at e; cases e
    rw [h] at hv
    simp only [tD] at hv
    exact .dic hv
  | obj C x =>
    rw [h] at e; cases e
    rw [h] at hv
    simp only [tD] at hv
    refine .obj hv (F.cl C ?_)
    cases u with
    | b n =>
      simp only [isiE] at hb
      split at hb
      · rename_i hm; simpa using hm.1
      · cases hb
    | c D =>
      simp only [isiE] at hb
      split at hb
      · rename_i hm; simpa using hm.1
      · cases hb
  | ty n => rw [h] at e; cases e
  | fn n => rw [h] at e; cases e
  | scr n => rw [h] at e; cases e
  | cel n => rw [h] at e; cases e
  | ety n => rw [h] at e; cases e
theorem cl_rv {W : Wd} {c : E} {d : D} {u : Ty3} (rc : RV K W c d) (e : clE c = some u) : cvD d = some (tv K u) := by
  cases c <;> first | (cases e; done) | skip
  · rename_i n
    cases e
    rw [rc.sc (v := .ty n) (by simp only [tD, sV])]
    simp only [tD, cvD, tv]
  · rename_i n
    cases e
    rw [rc.sc (v := .ref (He.ga K n)) (by simp only [tD, sV])]
    simp only [tD, cvD, tv]
def oIsi (cs : List String) : OEL := fun as_ W => match as_ with
  | [a, c] => (tyE (vE W a)).bind fun t => (clE c).bind fun u => (isiE cs t u).map .bl
  | _ => none
theorem k_isi (F : IsF K cs) : LkL K (r2Isi K) (oIsi cs) := fun W W3 as_ ds d Q sh ra e q => by
  unfold oIsi at e
  split at e
  · obtain ⟨x, y, rfl, rx, ry⟩ := rvl2 ra
    obtain ⟨t, e1, e⟩ := bind_some e
    obtain ⟨u, e2, e⟩ := bind_some e
    obtain ⟨b, e3, rfl⟩ := map_some e
    simp only [tD] at q
    exact ⟨x, y, tv K t, tv K u, b, rfl, ty_rv F rx sh e1 e3, cl_rv ry e2, isi_ok F e3, q⟩
  · cases e
def e3KGet (n : String) (t : List (Str × V)) (a b c : E3) : E3 := fun env W => (a env W).bind fun x W1 => (ofO (isFnE n x) W1).bind fun _ W1 => (b env W1).bind fun y W2 => (c env W2).bind fun z W3 => (ofO (isStrE y) W3).bind fun k W3 => (ofO (sE z) W3).bind fun x W3 => ofO (fE ((t.lookup k).getD x)) W3
theorem v_kget {n : String} {t : List (Str × V)} (h : EvP K w0 kb Ex Ta ma) (h2 : EvP K w0 kb Ex Tb mb) (h3 : EvP K w0 kb Ex Tc mc) : EvP K w0 kb Ex (t2KGet (He.ga K n) t Ta Tb Tc) (e3KGet n t ma mb mc) := fun env W env3 W3 Q R sh st =>
  h env W env3 W3 _ R sh ((sat_bind.mp st).mono (fun x W4 q W1 k1 sh1 => by
    obtain ⟨u, e1, q0⟩ := sat_ofO (sat_bind.mp q)
    cases isFn_some e1
    refine ⟨by simp only [tD], h2 env W1 env3 W4 _ (R.step k1) sh1 ((sat_bind.mp q0).mono (fun y W5 q2 W2 k2 sh2 => h3 env W2 env3 W5 _ (R.step (k1.trans k2)) sh2 ((sat_bind.mp q2).mono (fun z W6 q3 W3 k3 sh3 => ?_) fun _ _ _ x => x.step (k1.trans k2))) fun _ _ _ x => x.step k1)⟩
    obtain ⟨k, e2, q4⟩ := sat_ofO (sat_bind.mp q3)
    obtain ⟨v, e3, q5⟩ := sat_ofO (sat_bind.mp q4)
    obtain ⟨d, e4, q6⟩ := sat_ofO q5
    cases str_some e2
    exact ⟨k, v, tD K d, by simp only [tD], sE_V e3, fE_D e4, q6 W3 ((k1.trans k2).trans k3) sh3⟩) fun _ _ _ x => x)
abbrev OM := Str → E → WE → Option E
def LkM (K : PySem.W.Frag) (rm : R2M) (o : OM) : Prop := ∀ W W3 s a a' d (Q : DK), Shr K W3 W → RV K W a a' → o s a W3 = some d → Q (tD K d) W → rm s a' W Q
def e3M1 (o : OM) (a b : E3) : E3 := fun env W => (a env W).bind fun x W1 => (ofO (isStrE x) W1).bind fun s W1 => (b env W1).bind fun y W2 => ofO (o s y W2) W2
theorem v_m1 {rm : R2M} {o : OM} (l : LkM K rm o) (h : EvP K w0 kb Ex Ta ma) (h2 : EvV K w0 kb Ex Tb mb) : EvP K w0 kb Ex (t2M1 rm Ta Tb) (e3M1 o ma mb) := fun env W env3 W3 Q R sh st =>
  h env W env3 W3 _ R sh ((sat_bind.mp st).mono (fun x W4 q W1 k1 sh1 => by
    obtain ⟨s, e1, q0⟩ := sat_ofO (sat_bind.mp q)
    cases str_some e1
    refine ⟨s, by simp only [tD], h2 env W1 env3 W4 _ (R.step k1) sh1 ((sat_bind.mp q0).mono (fun y W5 q2 d W2 k2 sh2 rv => ?_) fun _ _ _ x => x.step k1)⟩
    obtain ⟨r, e2, q3⟩ := sat_ofO q2
    exact l W2 W5 s y d r _ sh2 rv e2 (q3 W2 (k1.trans k2) sh2)) fun _ _ _ x => x)
def oJoin : OM := fun s a W => (isLstE (vE W a)).bind fun es => (strsE es).bind fun ys => if (ys.map (·.length)).sum + ys.length * s.length ≤ 16777216 then some (.str (Txt.join s ys)) else none
theorem k_join : LkM K r2Join oJoin := fun W W3 s a a' d Q sh ra e q => by
  obtain ⟨es, e1, e⟩ := bind_some e
  obtain ⟨ys, e2, e⟩ := bind_some e
  split at e
  · rename_i h
    cases e
    simp only [tD] at q
    exact ⟨ys, by rw [rv_lst ra sh e1, strs_s e2], h, q⟩
  · cases e
abbrev P3 := En3 → WE → Tr (List (E × E))
def p3Nil : P3 := fun _ W => .ret [] W
def p3Cons (a b : E3) (p : P3) : P3 := fun env W => (a env W).bind fun x W1 => (b env W1).bind fun y W2 => (p env W2).bind fun r W3 => .ret ((x, y) :: r) W3
def kvsE : List (E × E) → Option (List (Key × E))
  | [] => some []
  | (k, v) :: r => (isKey k).bind fun k => (kvsE r).map ((k, v) :: ·)
def e3Disp (p : P3) : E3 := fun env W => (p env W).bind fun ps W1 => (ofO (kvsE ps) W1).bind fun kvs W1 => if kvs.length ≤ 15 then .ret (.dic (mergeE [] kvs)) W1 else .stuck
def EvQ (K : PySem.W.Frag) (w0 kb : Wd) (Ex : XS2) (ps : List (T2 × T2)) (m : P3) : Prop := ∀ env W env3 W3 Q, Rn K w0 kb env3 env W → Shr K W3 W → Sat (m env3 W3) (fun e W3' => ∀ W', Kp W W' → Shr K W3' W' → Q (e.map fun kv => (tD K kv.1, tD K kv.2)) W') (XT K (Ex env) W) → pr2 ps env W Q
theorem v_pnil : EvQ K w0 kb Ex [] p3Nil := fun env W env3 W3 Q R sh st => st W .refl sh
theorem v_pcons {ps : List (T2 × T2)} {p : P3} (h : EvP K w0 kb Ex Ta ma) (h2 : EvP K w0 kb Ex Tb mb) (h3 : EvQ K w0 kb Ex ps p) : EvQ K w0 kb Ex ((Ta, Tb) :: ps) (p3Cons ma mb p) := fun env W env3 W3 Q R sh st =>
  h env W env3 W3 _ R sh ((sat_bind.mp st).mono (fun x W4 q W1 k1 sh1 => h2 env W1 env3 W4 _ (R.step k1) sh1 ((sat_bind.mp q).mono (fun y W5 q2 W2 k2 sh2 => h3 env W2 env3 W5 _ (R.step (k1.trans k2)) sh2 ((sat_bind.mp q2).mono (fun r W6 q3 W3 k3 sh3 => q3 W3 ((k1.trans k2).trans k3) sh3) fun _ _ _ x => x.step (k1.trans k2))) fun _ _ _ x => x.step k1)) fun _ _ _ x => x)
theorem kvs_s : ∀ {ps : List (E × E)} {kvs : List (Key × E)}, kvsE ps = some kvs → ps.map (fun kv => (tD K kv.1, tD K kv.2)) = (tDk K kvs).map fun kv => (keyD kv.1, kv.2)
  | [], kvs, h => by
    cases h
    simp only [tDk, List.map_nil]
  | (k, v) :: r, kvs, h => by
    obtain ⟨k', e1, h⟩ := bind_some (show (isKey k).bind _ = some kvs from h)
    obtain ⟨r', e2, rfl⟩ := map_some h
    cases key_some e1
    simp only [tDk, List.map_cons, tD_key, kvs_s e2]
theorem plL_vals {kvs : List (Key × E)} : PlL ((tDk K kvs).map (·.2)) := by
  rw [tDk_map, List.map_map]
  have : ((fun x : Key × D => x.2) ∘ fun kv : Key × E => (kv.1, tD K kv.2)) = fun kv => tD K kv.2 := rfl
  rw [this, show (kvs.map fun kv => tD K kv.2) = (kvs.map (·.2)).map (tD K) by rw [List.map_map]; rfl]
  exact plL_map _
theorem v_disp {ps : List (T2 × T2)} {p : P3} (h : EvQ K w0 kb Ex ps p) : EvP K w0 kb Ex (t2Disp ps) (e3Disp p) := fun env W env3 W3 Q R sh st =>
  h env W env3 W3 _ R sh ((sat_bind.mp st).mono (fun kds W4 q W1 k1 sh1 => by
    obtain ⟨kvs, e1, q2⟩ := sat_ofO (sat_bind.mp q)
    split at q2
    · rename_i hl
      have := q2 W1 k1 sh1
      simp only [tD, merge_t, tDk] at this
      exact ⟨tDk K kvs, kvs_s e1, by rw [len_k]; exact hl, plL_vals, this⟩
    · exact q2.elim) fun _ _ _ x => x)
end
def f3_take : F3 := fun es W => match es with
  | [.cel b, .int m] => match W b with
    | some (.bag n) => if 0 < m ∧ m < 1073741824 ∧ n < 1073741824 then .pick m.toNat fun r => .ret (.int (r : Nat)) (W.set b (.bag (n + 1))) else .stuck
    | _ => .stuck
  | _ => .stuck
def f3_bag : F3 := fun es W => match es with
  | [.int n] => .new W fun p => .ret (.cel p) (W.set p (.bag 0))
  | _ => .stuck
def f3_cell : F3 := fun es W => match es with
  | [.scr ns, .int k] => if 0 ≤ k ∧ k < 1000 then .any fun r => .ret (.int r) W else .stuck
  | _ => .stuck
section
variable {K : PySem.W.Frag}
theorem fne_take : FnE K F_take f3_take := fun es W W3 Q Ex sh st => by
  unfold f3_take at st
  split at st
  · rename_i b m
    split at st
    · rename_i n hb
      split at st
      · rename_i h
        have g := sh b _ hb
        refine ⟨b, m, n, true, by simp only [tDs, tD], h.1, h.2.1, by simpa only [tC] using g, h.2.2, fun r h0 hr => ?_⟩
        have := st r.toNat (by omega) (W.set b true (tC K (.bag (n + 1)))) (Kp.setT fun x z => by rw [g] at z; cases z) sh.set
        simp only [tD, tC] at this
        rw [show ((r.toNat : Nat) : Int) = r by omega] at this
        exact this
      · exact st.elim
    · exact st.elim
  · exact st.elim
theorem fne_bag : FnE K F_bag f3_bag := fun es W W3 Q Ex sh st => by
  unfold f3_bag at st
  split at st
  · rename_i n
    refine ⟨n, by simp only [tDs, tD], fun p hp => ?_⟩
    have h3 : W3 p = none := by
      cases e : W3 p with
      | none => rfl
      | some c =>
        have := sh p c e
        rw [hp] at this
        cases this
    have := st p h3 (W.set p true (tC K (.bag 0))) (Kp.setN hp) sh.set
    simp only [tD, tC] at this
    exact this
  · exact st.elim
theorem fne_cell : FnE K F_cell f3_cell := fun es W W3 Q Ex sh st => by
  unfold f3_cell at st
  split at st
  · rename_i ns k
    split at st
    · rename_i h
      refine ⟨ns, k.toNat, ?_, by omega, fun r => ?_⟩
      · simp only [tDs, tD]
        rw [show ((k.toNat : Nat) : Int) = k by omega]
      · have := st r W .refl sh
        simp only [tD] at this
        exact this
    · exact st.elim
  · exact st.elim
end
end Fr
set_option Elab.async false
set_option linter.all false
set_option maxRecDepth 100000
set_option maxHeartbeats 4000000
namespace Fr
open PySem PySem.Spec PyProof.Rows L2
section
variable {K : PySem.W.Frag} {md : Nat} {w0 kb : Wd} {Ex : XK2} {x2 : XS2} {T Ta Tb Tc : T2} {m ma mb mc : E3} {As : A2} {as_ : A3} {S U : S2} {s u b : S3} {F : Sp2} {f : F3} {Fi : Fi2} {fi : Fi3} {g2 : G2} {g3 : G3} {i : Nat}
theorem EvW.v (h : EvW K w0 kb Ex T m) : EvV K w0 kb (fun _ => Ex) T m := fun env W env3 W3 Q R sh st => h env W env3 W3 Q R sh (st.mono (fun e W4 q p c W1 W' k1 hp h0 e1 hc sh1 => by
  subst e1
  exact q _ _ (k1.trans (Kp.setN hp)) (sh1.setF fun x z => by rw [hp] at z; cases z) (.inr ⟨p, c, rfl, Wd.same, hc⟩)) fun _ _ _ x => x)
theorem FnE.calm0 (h : FnE K F f) : FnE K F (calmF f) := fun es W W3 Q Ex sh st => h es W W3 Q Ex sh (sat_calm st)
theorem FiE.calm0 (h : FiE K Fi fi) : FiE K Fi (calmFi fi) := fun es W W3 Q Ex sh st => h es W W3 Q Ex sh (sat_calm st)
end
namespace Tr
def catch_ {α : Type} : Tr α → (String → List (Str × E) → WE → Tr α) → Tr α
  | .ret a W, _ => .ret a W
  | .exc C fs W, h => h C fs W
  | .stuck, _ => .stuck
  | .pick n k, h => .pick n fun i => (k i).catch_ h
  | .new W k, h => .new W fun p => (k p).catch_ h
  | .any k, h => .any fun p => (k p).catch_ h
end Tr
theorem sat_catch {α : Type} {Q : α → WE → Prop} {X : XE} {h : String → List (Str × E) → WE → Tr α} : ∀ {t : Tr α}, Sat (t.catch_ h) Q X ↔ Sat t Q (fun C fs W => Sat (h C fs W) Q X)
  | .ret a W => Iff.rfl
  | .exc C fs W => Iff.rfl
  | .stuck => Iff.rfl
  | .pick n k => forall_congr' fun i => forall_congr' fun _ => sat_catch
  | .new W k => forall_congr' fun p => forall_congr' fun _ => sat_catch
  | .any k => forall_congr' fun p => sat_catch
inductive Hd3 where
  | never
  | as (D : String) (i : Nat) (S : Addr → String → List (Str × E) → S3) (r : Hd3)
  | only (D : String) (S : S3) (r : Hd3)
def gon3 (i : Nat) : Out → Out
  | .nx e => .nx (e.set i .no)
  | .bk e => .bk (e.set i .no)
  | .ct e => .ct (e.set i .no)
  | .rt d => .rt d
abbrev SubT := String → String → Option Bool
def hd3 (sub : SubT) : Hd3 → En3 → String → List (Str × E) → WE → Tr Out
  | .never, _, _, _, _ => .stuck
  | .as D i S r, env, C, fs, W => match sub C D with
    | some true => .new (fun _ => none) fun a => (S a C fs (env.set i (.pl (.ety a))) W).bind fun o W1 => .ret (gon3 i o) W1
    | some false => hd3 sub r env C fs W
    | none => .stuck
  | .only D S r, env, C, fs, W => match sub C D with
    | some true => S env W
    | some false => hd3 sub r env C fs W
    | none => .stuck
def s3Try (sub : SubT) (b : S3) (h : Hd3) : S3 := fun env W => (b env W).catch_ fun C fs W1 => hd3 sub h env C fs W1
section
variable {K : PySem.W.Frag} {md : Nat} {w0 kb : Wd} {Ex : XK2} {x2 : XS2} {T Ta Tb Tc : T2} {m ma mb mc : E3} {As : A2} {as_ : A3} {S U : S2} {s u b : S3} {F : Sp2} {f : F3} {Fi : Fi2} {fi : Fi3} {g2 : G2} {g3 : G3} {i : Nat}
def EvT (md : Nat) (K : PySem.W.Frag) (w0 kb : Wd) (x2 : XS2) (S : S2) (s : S3) : Prop := ∀ env W env3 W3 E2, RtOk w0 E2.rt → Rn K w0 kb env3 env W → Shr K W3 W → Sat (s env3 W3) (OutOk md K w0 kb E2) (XT K (x2 env) W) → S E2 env W
theorem v_tAsg (h : EvP K w0 kb x2 T m) (h2 : EvG K w0 kb g2 g3) (hx : XF g3) : EvT md K w0 kb x2 (s2Asg T g2) (s3Asg m g3) := fun env W env3 W3 E2 ro R sh st =>
  h env W env3 W3 _ R sh ((sat_bind.mp st).mono (fun e W4 q W1 k1 sh1 => h2 e env W1 env3 W4 _ (R.step k1) sh1 (hx _ _ _ _ _ ((sat_bind.mp q).mono (fun e3 W5 q2 env2 W2 R2 sh2 _ => q2 env2 W2 R2 sh2) fun _ _ _ x => x))) fun _ _ _ x => x)
def EvH (md : Nat) (K : PySem.W.Frag) (w0 kb : Wd) (Ex : XK2) (sub : SubT) (l : HP2) (h : Hd3) : Prop := ∀ env W env3 W3 E2 C fs, RtOk w0 E2.rt → Rn K w0 kb env3 env W → Shr K W3 W → Sat (hd3 sub h env3 C fs W3) (OutOk md K w0 kb E2) (XS K Ex w0 kb) → hp2 K (fun _ _ _ _ => False) E2 l env (He.ga K C) (tDf K fs) W
def SubX (K : PySem.W.Frag) (sub : SubT) : Prop := ∀ C D b, sub C D = some b → PySem.W.exmOne K (.ref (He.ga K C)) (.ref (He.ga K D)) = some b
def SubK (K : PySem.W.Frag) (sub : SubT) : Prop := ∀ C D b, sub C D = some b → PySem.W.kitOne K (.ref (He.ga K C)) (.ref (He.ga K D)) = some b
theorem v_hnever {sub : SubT} : EvH md K w0 kb Ex sub .never .never := fun env W env3 W3 E2 C fs ro R sh st => st
theorem out_gon {E2 : Ends2} {o : Out} {W : WE} (h : OutOk md K w0 kb E2 (gon3 i o) W) : OutOk md K w0 kb (gonE2 i E2) o W := by
  cases o with
  | nx e => exact fun e' W' R sh => h _ W' (R.wipe1 i) sh
  | bk e => exact fun e' W' R sh => h _ W' (R.wipe1 i) sh
  | ct e => exact fun e' W' R sh => h _ W' (R.wipe1 i) sh
  | rt d => exact h
theorem v_hcl {sub : SubT} {D : String} {Sa : Su2} {S3a : Addr → String → List (Str × E) → S3} {l : HP2} {h : Hd3} (hs : SubX K sub) (hS : ∀ (a : Addr) (C : String) (fs : List (Str × E)), EvS md K w0 kb Ex (Sa a (He.ga K C) (tDf K fs)) (S3a a C fs)) (hr : EvH md K w0 kb Ex sub l h) : EvH md K w0 kb Ex sub (.as (.ref (He.ga K D)) i Sa l) (.as D i S3a h) := fun env W env3 W3 E2 C fs ro R sh st => by
  unfold hd3 at st
  cases e : sub C D with
  | none => rw [e] at st; exact st.elim
  | some b =>
    rw [e] at st
    refine ⟨b, hs C D b e, fun hb a => ?_, fun hb => ?_⟩
    · subst hb
      have R2 := R.setP (i := i) (.ety a)
      simp only [tD] at R2
      exact hS a C fs _ W _ W3 _ ro R2 sh ((sat_bind.mp (st a rfl)).mono (fun o W4 q => out_gon q) fun _ _ _ x => x)
    · subst hb
      exact hr env W env3 W3 E2 C fs ro R sh st
theorem v_try {sub : SubT} {B : XS2 → S2} {l : HP2} {h : Hd3} (hb : ∀ x2, EvT md K w0 kb x2 (B x2) b) (hh : EvH md K w0 kb Ex sub l h) : EvS md K w0 kb Ex (s2Try K (fun _ _ _ _ => False) B l) (s3Try sub b h) := fun env W env3 W3 E2 ro R sh st =>
  hb _ env W env3 W3 E2 ro R sh ((sat_catch.mp st).mono (fun _ _ q => q) fun C fs W4 q W' k sh' => hh env W' env3 W4 E2 C fs ro (R.step k) sh' q)
def isEty (a : Addr) : E → Option Unit
  | .ety b => if b = a then some () else none
  | _ => none
theorem ety_some {a : Addr} {e : E} {u : Unit} (h : isEty a e = some u) : e = .ety a := by
  unfold isEty at h
  split at h
  · split at h
    · rename_i e
      rw [e]
    · exact absurd h (by simp)
  · exact absurd h (by simp)
def e3Xf (a : Addr) (C D : String) (fs : List (Str × E)) (f : Str) (m : E3) : E3 := fun env W => (m env W).bind fun o W1 => (ofO (isEty a o) W1).bind fun _ W1 => if C = D then ofO (fs.lookup f) W1 else .stuck
theorem v_xf {x2 : XS2} {a : Addr} {C D : String} {fs : List (Str × E)} {f : Str} (h : EvP K w0 kb x2 T m) : EvP K w0 kb x2 (t2Xf a (He.ga K C) (He.ga K D) (tDf K fs) f T) (e3Xf a C D fs f m) := fun env W env3 W3 Q R sh st =>
  h env W env3 W3 _ R sh ((sat_bind.mp st).mono (fun o W4 q W1 k1 sh1 => by
    obtain ⟨u, e1, q2⟩ := sat_ofO (sat_bind.mp q)
    cases ety_some e1
    split at q2
    · rename_i hc
      obtain ⟨x, hx, q3⟩ := sat_ofO q2
      exact ⟨by simp only [tD], by rw [hc], tD K x, by rw [lookF_t, hx]; rfl, q3 W1 k1 sh1⟩
    · exact q2.elim) fun _ _ _ x => x)
def clsE : E → Option String
  | .fn n => some n
  | _ => none
theorem cls_some {e : E} {n : String} (h : clsE e = some n) : e = .fn n := by cases e <;> cases h <;> rfl
def subAny (sub : SubT) (D : String) : List E → Option Bool
  | [] => some false
  | c :: r => (clsE c).bind fun n => match sub D n with
    | some true => (subAny sub D r).bind fun _ => some true
    | some false => subAny sub D r
    | none => none
theorem subAny_ok {sub : SubT} {D : String} (hs : SubK K sub) : ∀ {es : List E} {b : Bool}, subAny sub D es = some b → ∃ us, cvDs (tDs K es) = some us ∧ PySem.W.kitAny K (.ref (He.ga K D)) us = some b
  | [], b, h => by
    cases h
    exact ⟨[], by simp only [tDs, cvDs], rfl⟩
  | c :: r, b, h0 => by
    obtain ⟨n, e1, h⟩ := bind_some (show (clsE c).bind _ = some b from h0)
    cases cls_some e1
    cases e2 : sub D n with
    | none => rw [e2] at h; cases h
    | some k =>
      rw [e2] at h
      have ek := hs D n k e2
      cases k with
      | true =>
        obtain ⟨z, e3, h⟩ := bind_some h
        cases h
        obtain ⟨us, h1, h2⟩ := subAny_ok hs e3
        refine ⟨.ref (He.ga K n) :: us, ?_, ?_⟩
        · simp only [tDs, tD, cvDs, cvD, h1]
          rfl
        · simp only [PySem.W.kitAny, ek]
      | false =>
        obtain ⟨us, h1, h2⟩ := subAny_ok hs h
        refine ⟨.ref (He.ga K n) :: us, ?_, ?_⟩
        · simp only [tDs, tD, cvDs, cvD, h1]
          rfl
        · simp only [PySem.W.kitAny, ek, h2]
def e3IsET (sub : SubT) (a : Addr) (C D : String) (m : E3) (as_ : A3) : E3 := fun env W => (m env W).bind fun o W1 => (ofO (isEty a o) W1).bind fun _ W1 => if C = D then (as_ env W1).bind fun es W2 => if es.length ≤ 1000000 then (ofO (subAny sub D es) W2).bind fun b W2 => .ret (.bl b) W2 else .stuck else .stuck
theorem v_isET {x2 : XS2} {sub : SubT} {a : Addr} {C D : String} (hs : SubK K sub) (h : EvP K w0 kb x2 T m) (h2 : EvA K w0 kb x2 As as_) : EvP K w0 kb x2 (t2IsETu K a (He.ga K C) (He.ga K D) T As) (e3IsET sub a C D m as_) := fun env W env3 W3 Q R sh st =>
  h env W env3 W3 _ R sh ((sat_bind.mp st).mono (fun o W4 q W1 k1 sh1 => by
    obtain ⟨u, e1, q2⟩ := sat_ofO (sat_bind.mp q)
    cases ety_some e1
    split at q2
    · rename_i hc
      refine ⟨by simp only [tD], by rw [hc], h2 env W1 env3 W4 _ (R.step k1) sh1 ((sat_bind.mp q2).mono (fun es W5 q3 W2 k2 sh2 => ?_) fun _ _ _ x => x.step k1)⟩
      split at q3
      · rename_i hl
        obtain ⟨b, e2, q4⟩ := sat_ofO (sat_bind.mp q3)
        obtain ⟨us, h3, h4⟩ := subAny_ok hs e2
        have := q4 W2 (k1.trans k2) sh2
        simp only [tD] at this
        exact ⟨us, b, plL_tDs es, by rw [len_s]; exact hl, h3, h4, this⟩
      · exact q3.elim
    · exact q2.elim) fun _ _ _ x => x)
theorem tab_all {P : String → String → Bool → Prop} {l : List ((String × String) × Bool)} (h : ∀ p ∈ l, P p.1.1 p.1.2 p.2) {C D : String} {b : Bool} (e : l.lookup (C, D) = some b) : P C D b := by
  induction l with
  | nil => cases e
  | cons p l ih =>
    rw [List.lookup_cons] at e
    split at e
    · rename_i hp
      have := h p List.mem_cons_self
      have hp := eq_of_beq hp
      cases e
      rw [← hp] at this
      exact this
    · exact ih (fun q hq => h q (List.mem_cons_of_mem _ hq)) e
end
theorem law_is3 {K : PySem.W.Frag} {f : F3} (h : ∀ ns W, ns.length ≤ 63 → Sat (f [.scr ns] W) (fun e _ => e = .bl true) (fun _ _ _ => False)) {vs : List V} {H : Hp} {Q : VK} {E : XK} (l : spLaw2 K vs H Q E) : spL K (spF K f) vs H Q E := by
  obtain ⟨Z, ds, Q2, E2, ok, a, ⟨ns, rfl, hl, q⟩, ca, cx⟩ := law_is l
  refine ⟨Z, _, _, Q2, E2, ok, a, ⟨[.scr ns], fun _ => none, by simp only [tDs, tD], fun a c h => (by cases h), (h ns _ hl).mono (fun e W3 he W' _ _ => ?_) fun _ _ _ x => x.elim⟩, ca, cx⟩
  subst he
  simp only [tD]
  exact q W'
end Fr
namespace Fr
open PySem PySem.Spec PyProof.Rows L2
theorem v_fn {K : PySem.W.Frag} {w0 kb : Wd} {Ex : XS2} {a : Addr} {n : String} (h : a = He.ga K n) : EvP K w0 kb Ex (t2C (.fn a)) (e3C (.fn n)) := v_c (by rw [h]; simp only [tD])
end Fr
namespace Fr
open PySem PySem.Spec PyProof.Rows L2
def subXB (K : PySem.W.Frag) (l : List ((String × String) × Bool)) : Bool := l.all fun p => decide (PySem.W.exmOne K (.ref (He.ga K p.1.1)) (.ref (He.ga K p.1.2)) = some p.2)
def subKB (K : PySem.W.Frag) (l : List ((String × String) × Bool)) : Bool := l.all fun p => decide (PySem.W.kitOne K (.ref (He.ga K p.1.1)) (.ref (He.ga K p.1.2)) = some p.2)
theorem subXB_ok {K : PySem.W.Frag} {l : List ((String × String) × Bool)} (h : subXB K l = true) : SubX K fun C D => l.lookup (C, D) := fun C D b e => tab_all (P := fun C D b => PySem.W.exmOne K (.ref (He.ga K C)) (.ref (He.ga K D)) = some b) (fun p hp => of_decide_eq_true (List.all_eq_true.mp h p hp)) e
theorem subKB_ok {K : PySem.W.Frag} {l : List ((String × String) × Bool)} (h : subKB K l = true) : SubK K fun C D => l.lookup (C, D) := fun C D b e => tab_all (P := fun C D b => PySem.W.kitOne K (.ref (He.ga K C)) (.ref (He.ga K D)) = some b) (fun p hp => of_decide_eq_true (List.all_eq_true.mp h p hp)) e
end Fr
namespace Fr
open PySem PySem.Spec PyProof.Rows L2
theorem spFi_len {K : PySem.W.Frag} {n Nn : Nat} {s : S3} {C : String} {vs : List V} {H : Hp} {Q : VK} {E : XK} (h : spI K (He.ga K C) (spFi K (runI C Nn n s)) vs H Q E) : vs.length = n + 1 := by
  obtain ⟨Z, x, vs', ds, W, Q2, E2, rfl, hx, ok, a, ⟨es, W3, rfl, sh, st⟩, _⟩ := h
  unfold runI at st
  split at st
  · rename_i hl
    rw [List.length_cons, a.len, len_s, hl]
  · exact st.elim
end Fr
set_option Elab.async false
set_option linter.all false
set_option maxRecDepth 100000
set_option maxHeartbeats 4000000
set_option Elab.async false
set_option linter.all false
set_option maxRecDepth 100000
set_option maxHeartbeats 4000000
namespace Fr
open PySem PySem.Spec PyProof.Rows L2
section
variable {K : PySem.W.Frag} {md : Nat} {w0 kb : Wd} {Ex E2 : XK2} {T Ta Tb Tc : T2} {m ma mb mc : E3} {As : A2} {as_ : A3} {S U : S2} {s u : S3} {env : En} {W W1 : Wd} {env3 : En3} {W3 : WE} {C : String} {mt : Str} {F : Sp2} {f : F3} {i j n Nn : Nat} {N : List Str} {ds : List D} {Q2 : DK}
theorem OwnL.len {ps : List Addr} {es : List E} (h : OwnL K w0 W ps es) : ps.length = es.length := by
  induction h with
  | nil => rfl
  | cons _ _ _ _ _ ih => simp [ih]
theorem OwnL.mono {ps : List Addr} {es : List E} (h : OwnL K w0 W ps es) {W' : Wd} {w1 : Wd} (hf : ∀ p c, W p = some (false, c) → W' p = some (false, c)) (h0 : ∀ p, w0 p = none → w1 p = none) : OwnL K w1 W' ps es := by
  induction h with
  | nil => exact .nil
  | cons a b c d _ ih => exact .cons (hf _ _ a) b (h0 _ c) d ih
theorem OwnL.fresh {ps : List Addr} {es : List E} (h : OwnL K w0 W ps es) : ∀ p ∈ ps, w0 p = none := by
  induction h with
  | nil => exact fun p hp => absurd hp List.not_mem_nil
  | cons a b c d _ ih =>
    intro p hp
    rcases List.mem_cons.mp hp with rfl | hp
    · exact c
    · exact ih p hp
def FnEW (K : PySem.W.Frag) (F : Sp2) (f : F3) : Prop := ∀ es W W3 Q Ex, Shr K W3 W → Sat (f es W3) (fun e W3' => ∀ p c W', Kp W W' → Shr K W3' W' → W p = none → W' p = some (false, c) → frzC c = some (tD K e) → Q (.own p) W') (XT K Ex W) → F (tDs K es) W Q Ex
def FnET (K : PySem.W.Frag) (F : Sp2) (f : F3) : Prop := ∀ es W W3 Q Ex, Shr K W3 W → Sat (f es W3) (fun e W3' => ∃ xs, e = .tup xs ∧ ∀ ps W', Kp W W' → Shr K W3' W' → OwnL K W W' ps xs → Q (.otp ps) W') (XT K Ex W) → F (tDs K es) W Q Ex
/-- .. anywhere: the cell is there behind it -/
def EvX (K : PySem.W.Frag) (w0 kb : Wd) (Ex : XK2) (T : T2) (m : E3) : Prop := ∀ env W env3 W3 Q, Rn K w0 kb env3 env W → Shr K W3 W → Sat (m env3 W3) (fun e W3' => ∀ p c W', Kp W W' → W p = none → w0 p = none → W' p = some (false, c) → frzC c = some (tD K e) → Shr K W3' W' → Q (.own p) W') (XT K Ex W) → T env W Q
theorem EvW.x (h : EvW K w0 kb Ex T m) : EvX K w0 kb Ex T m := fun env W env3 W3 Q R sh st => h env W env3 W3 Q R sh (st.mono (fun e W4 q p c W1 W' k1 hp h0 e1 hc sh1 => by
  subst e1
  exact q p c _ (k1.trans (Kp.setN hp)) (k1.n _ hp) h0 Wd.same hc (sh1.setF fun x z => by rw [hp] at z; cases z)) fun _ _ _ x => x)
theorem EvX.v (h : EvX K w0 kb Ex T m) : EvV K w0 kb (fun _ => Ex) T m := fun env W env3 W3 Q R sh st => h env W env3 W3 Q R sh (st.mono (fun e W4 q p c W' k hp h0 h1 hc sh1 => q _ _ k sh1 (.inr ⟨p, c, rfl, h1, hc⟩)) fun _ _ _ x => x)
theorem FnEW.calm0 (h : FnEW K F f) : FnEW K F (calmF f) := fun es W W3 Q Ex sh st => h es W W3 Q Ex sh (sat_calm st)
theorem FnET.calm0 (h : FnET K F f) : FnET K F (calmF f) := fun es W W3 Q Ex sh st => h es W W3 Q Ex sh (sat_calm st)
theorem OwnL.of {ps : List Addr} {es : List E} {W2 W' : Wd} (h : OwnL K W2 W' ps es) (k : Kp W W2) : OwnL K W W' ps es := h.mono (fun _ _ h => h) fun p hp => k.n p hp
end
section
variable {K : PySem.W.Frag} {md : Nat} {w0 kb : Wd} {Ex E2 : XK2} {T Ta Tb Tc Tn Tr : T2} {m ma mb mc mn mr : E3} {As : A2} {as_ : A3} {B Bt : B2} {b bt : B3} {S Sr U : S2} {s sr u3 : S3} {env : En} {W W1 : Wd} {env3 : En3} {W3 : WE} {i u g : Nat}
theorem Rn.un (R : Rn K w0 kb env3 env W) (v : Nat) (y : Option D) (hs : ∀ (j : Nat) (e : E) (f : Str) (x : E), env3[j]? = some (.sg e f x) → v = j) : Rn K w0 kb (env3.set v .un) (env.set v y) W := by
  have look : ∀ (j : Nat) (y : Sl), y ≠ .un → (env3.set v .un)[j]? = some y → v ≠ j ∧ env3[j]? = some y := fun j y ny h => by
    rw [List.getElem?_set] at h
    by_cases n : v = j
    · rw [if_pos n] at h
      split at h
      · cases h
        exact absurd rfl ny
      · cases h
    · rw [if_neg n] at h
      exact ⟨n, h⟩
  have ne : ∀ (j : Nat), v ≠ j → (env.set v y)[j]? = env[j]? := fun j n => by rw [List.getElem?_set, if_neg n]
  refine ⟨by rw [List.length_set, List.length_set]; exact R.len, fun j y hy => ?_, fun j y hy => ?_, fun j y hy => ?_, fun a b y z q ha hb hqa hqb => ?_, R.kp, R.dm, R.kw, R.fl, fun j hj => ?_, fun j e' f' x hj => ?_⟩
  · obtain ⟨n, hy⟩ := look j _ (by simp) hy
    rw [ne j n]
    exact R.pl j y hy
  · obtain ⟨n, hy⟩ := look j _ (by simp) hy
    rw [ne j n]
    exact R.ow j y hy
  · obtain ⟨n, hy⟩ := look j _ (by simp) hy
    rw [ne j n]
    exact R.sf j y hy
  · have go : ∀ (j : Nat) (y : E), ((env3.set v .un)[j]? = some (.ow y) ∨ (env3.set v .un)[j]? = some (.sf y)) → v ≠ j ∧ (env3[j]? = some (.ow y) ∨ env3[j]? = some (.sf y)) := fun j y h => by
      rcases h with h | h
      · obtain ⟨n, h⟩ := look j _ (by simp) h
        exact ⟨n, .inl h⟩
      · obtain ⟨n, h⟩ := look j _ (by simp) h
        exact ⟨n, .inr h⟩
    obtain ⟨n1, g1⟩ := go a y ha
    obtain ⟨n2, g2⟩ := go b z hb
    rw [ne a n1] at hqa
    rw [ne b n2] at hqb
    exact R.inj a b y z q g1 g2 hqa hqb
  · obtain ⟨n, hj⟩ := look j _ (by simp) hj
    rw [ne j n]
    exact R.no j hj
  · obtain ⟨n, hj⟩ := look j _ (by simp) hj
    exact absurd (hs j _ _ _ hj) n
end
end Fr
set_option Elab.async false
set_option linter.all false
set_option maxRecDepth 100000
set_option maxHeartbeats 4000000
namespace Fr
open PySem PySem.Spec PyProof.Rows L2
section
variable {K : PySem.W.Frag} {md : Nat} {w0 kb : Wd} {Ex : XK2} {Exs : XS2} {T Ta Tb Tc : T2} {m ma mb mc : E3} {As : A2} {as_ : A3} {S U : S2} {s u : S3} {i j l : Nat} {env : En} {W W1 : Wd} {env3 : En3} {W3 : WE} {g2 : G2} {g3 : G3}
def MixL (K : PySem.W.Frag) (w0 W W' : Wd) : List D → List (Bool × E) → Prop
  | [], [] => True
  | d :: ds, (false, e) :: bes => d = tD K e ∧ MixL K w0 W W' ds bes
  | d :: ds, (true, e) :: bes => (∃ p c, d = .own p ∧ W' p = some (false, c) ∧ frzC c = some (tD K e) ∧ w0 p = none ∧ W p = none ∧ D.own p ∉ ds) ∧ MixL K w0 W W' ds bes
  | _, _ => False
theorem MixL.mono {W0 W2 W' : Wd} (k : Kp W0 W2) : ∀ {ds : List D} {bes : List (Bool × E)}, MixL K w0 W2 W' ds bes → MixL K w0 W0 W' ds bes
  | [], [], h => h
  | [], _ :: _, h => by cases h
  | d :: ds, [], h => by cases h
  | d :: ds, (false, e) :: bes, h => ⟨h.1, MixL.mono k h.2⟩
  | d :: ds, (true, e) :: bes, ⟨⟨p, c, h1, h2, h3, h4, h5, h6⟩, h⟩ => ⟨⟨p, c, h1, h2, h3, h4, k.n p h5, h6⟩, MixL.mono k h⟩
theorem MixL.fresh {W2 W' : Wd} {p : Addr} (hp : W2 p ≠ none) : ∀ {ds : List D} {bes : List (Bool × E)}, MixL K w0 W2 W' ds bes → D.own p ∉ ds
  | [], _, _ => List.not_mem_nil
  | d :: ds, [], h => by cases h
  | d :: ds, (false, e) :: bes, h => fun m => by
    rcases List.mem_cons.mp m with z | m
    · have := pl_tD (K := K) e
      rw [← h.1, ← z] at this
      exact this
    · exact MixL.fresh hp h.2 m
  | d :: ds, (true, e) :: bes, ⟨⟨q, c, h1, h2, h3, h4, h5, h6⟩, h⟩ => fun m => by
    rcases List.mem_cons.mp m with z | m
    · rw [h1] at z
      cases z
      exact hp h5
    · exact MixL.fresh hp h m
theorem MixL.len {W0 W' : Wd} : ∀ {ds : List D} {bes : List (Bool × E)}, MixL K w0 W0 W' ds bes → ds.length = bes.length
  | [], [], _ => rfl
  | [], _ :: _, h => by cases h
  | d :: ds, [], h => by cases h
  | d :: ds, (false, e) :: bes, h => by simp [MixL.len h.2]
  | d :: ds, (true, e) :: bes, h => by simp [MixL.len h.2]
end
end Fr
set_option Elab.async false
set_option linter.all false
set_option maxRecDepth 100000
set_option maxHeartbeats 4000000
namespace Fr
open PySem PySem.Spec PyProof.Rows L2
section
variable {K : PySem.W.Frag} {w0 kb : Wd} {Ex : XS2}
theorem v_cnon : EvP K w0 kb Ex (t2C .non) (e3C .non) := v_c (by simp only [tD])
theorem v_cbool {b : Bool} : EvP K w0 kb Ex (t2C (.bl b)) (e3C (.bl b)) := v_c (by simp only [tD])
theorem v_cint {i : Int} : EvP K w0 kb Ex (t2C (.int i)) (e3C (.int i)) := v_c (by simp only [tD])
theorem v_cstr {i : Str} : EvP K w0 kb Ex (t2C (.str i)) (e3C (.str i)) := v_c (by simp only [tD])
theorem v_cty {i : String} : EvP K w0 kb Ex (t2C (.ty i)) (e3C (.ty i)) := v_c (by simp only [tD])
end
end Fr
namespace Fr
open PySem PySem.Spec PyProof.Rows L2
theorem pss_cast {X : Cx} {ss : List Stmt} {t t' : TS} (h : PSs X ss t) (e : t = t') : PSs X ss t' := e ▸ h
end Fr
set_option Elab.async false
set_option linter.all false
set_option maxRecDepth 100000
set_option maxHeartbeats 4000000
namespace Fr
open PySem PySem.Spec PyProof.Rows L2
section
variable {α β γ : Type} {Q : α → WE → Prop} {X : XE}
theorem sat_ret {a : α} {W : WE} : Sat (.ret a W) Q X = Q a W := rfl
theorem sat_exc {C : String} {fs : List (Str × E)} {W : WE} : Sat (.exc C fs W) Q X = X C fs W := rfl
theorem sat_bnd {f : α → WE → Tr β} {Q : β → WE → Prop} {t : Tr α} : Sat (t.bind f) Q X = Sat t (fun a W => Sat (f a W) Q X) X := propext sat_bind
theorem bind_ret {a : α} {W : WE} {f : α → WE → Tr β} : (Tr.ret a W).bind f = f a W := rfl
theorem bind_exc {C : String} {fs : List (Str × E)} {W : WE} {f : α → WE → Tr β} : (Tr.exc C fs W : Tr α).bind f = .exc C fs W := rfl
theorem bind_assoc {f : α → WE → Tr β} {g : β → WE → Tr γ} : ∀ {t : Tr α}, (t.bind f).bind g = t.bind fun a W => (f a W).bind g
  | .ret a W => rfl
  | .exc C fs W => rfl
  | .stuck => rfl
  | .pick n k => congrArg (Tr.pick n) (funext fun i => bind_assoc)
  | .new W k => congrArg (Tr.new W) (funext fun p => bind_assoc)
  | .any k => congrArg Tr.any (funext fun p => bind_assoc)
theorem calm_ret {a : α} {W : WE} : (Tr.ret a W).calm = .ret a W := rfl
theorem ofO_some {a : α} {W : WE} : ofO (some a) W = .ret a W := rfl
theorem calm_noX {X X' : XE} : ∀ {t : Tr α}, Sat t Q (fun _ _ _ => False) → Sat t.calm Q X'
  | .ret a W, h => h
  | .exc C fs W, h => h.elim
  | .stuck, h => h
  | .pick n k, h => fun i hi => calm_noX (X := X) (h i hi)
  | .new W k, h => fun p hp => calm_noX (X := X) (h p hp)
  | .any k, h => fun p => calm_noX (X := X) (h p)
end
theorem e3Var_0 {e : E} {r : En3} {W : WE} : e3Var 0 (.pl e :: r) W = .ret e W := rfl
theorem e3Var_s {i : Nat} {s : Sl} {r : En3} {W : WE} : e3Var (i + 1) (s :: r) W = e3Var i r W := rfl
def lcStep (g : G3) (b : B3) (m : E3) (env0 : En3) (e : E) (W : WE) : Tr (Option E) := (g e env0 W).bind fun env1 W1 => (b env1 W1).bind fun c W2 => if c = true then (m env1 W2).bind fun y W3 => .ret (some y) W3 else .ret none W2
theorem lcT_step {g : G3} {b : B3} {m : E3} {env0 : En3} {e : E} {es : List E} {W : WE} : lcT g b m env0 (e :: es) W = (lcStep g b m env0 e W).bind fun o W1 => (lcT g b m env0 es W1).bind fun ys W2 => .ret (o.toList ++ ys) W2 := by
  have hr : ∀ (t : Tr (List E)), (t.bind fun ys W => Tr.ret ys W) = t := by
    intro t
    induction t with
    | ret a W => rfl
    | exc C fs W => rfl
    | stuck => rfl
    | pick n k ih => exact congrArg (Tr.pick n) (funext fun i => ih i)
    | new W k ih => exact congrArg (Tr.new W) (funext fun i => ih i)
    | any k ih => exact congrArg Tr.any (funext fun i => ih i)
  unfold lcStep
  rw [lcT, bind_assoc]
  congr 1
  funext env1 W1
  rw [bind_assoc]
  congr 1
  funext c W2
  split
  · rw [bind_assoc]
    rfl
  · show _ = (lcT g b m env0 es W2).bind _
    exact (hr _).symm
/-- with draws: an invariant over what is gathered -/
theorem lc_sat {g : G3} {b : B3} {m : E3} {env0 : En3} {X : XE} {I : Nat → List E → WE → Prop} : ∀ {es : List E} {k : Nat} {acc : List E} {W : WE}, I k acc W → (∀ i e acc W, es[i]? = some e → I (k + i) acc W → Sat (lcStep g b m env0 e W) (fun o W1 => I (k + i + 1) (acc ++ o.toList) W1) X) → Sat (lcT g b m env0 es W) (fun ys W1 => I (k + es.length) (acc ++ ys) W1) X
  | [], k, acc, W, h, _ => by
    show I (k + 0) (acc ++ []) W
    rw [List.append_nil]
    exact h
  | e :: es, k, acc, W, h, st => by
    rw [lcT_step]
    refine sat_bind.mpr ((st 0 e acc W rfl h).mono (fun o W1 h1 => sat_bind.mpr ?_) fun _ _ _ x => x)
    have := lc_sat (es := es) (k := k + 1) h1 (fun i e' acc' W' he hi => by
      have := st (i + 1) e' acc' W' he (by rw [show k + (i + 1) = k + 1 + i by omega]; exact hi)
      rw [show k + (i + 1) + 1 = k + 1 + i + 1 by omega] at this
      exact this)
    refine this.mono (fun ys W2 h2 => ?_) fun _ _ _ x => x
    show I (k + (es.length + 1)) (acc ++ (o.toList ++ ys)) W2
    rw [← List.append_assoc, show k + (es.length + 1) = k + 1 + es.length by omega]
    exact h2
/-- loops: an invariant over what is left -/
theorem for_sat {g : G3} {s : S3} {X : XE} {Q : Out → WE → Prop} {I : Nat → En3 → WE → Prop} : ∀ {es : List E} {k : Nat} {env : En3} {W : WE}, I k env W → (∀ i e env W, es[i]? = some e → I (k + i) env W → Sat (g e env W) (fun env1 W1 => Sat (s env1 W1) (fun o W2 => match o with
    | .nx e1 => I (k + i + 1) e1 W2
    | .ct e1 => I (k + i + 1) e1 W2
    | .bk e1 => Q (.nx e1) W2
    | .rt d => Q (.rt d) W2) X) X) → (∀ env W, I (k + es.length) env W → Q (.nx env) W) → Sat (forT g s es env W) Q X
  | [], k, env, W, h, _, hq => hq env W h
  | e :: es, k, env, W, h, st, hq => by
    have go := fun e1 W2 (h1 : I (k + 1) e1 W2) => for_sat (g := g) (s := s) (X := X) (Q := Q) (I := I) (es := es) (k := k + 1) (env := e1) (W := W2) h1 (fun i e' env' W' he hi => by
      have := st (i + 1) e' env' W' he (by rw [show k + (i + 1) = k + 1 + i by omega]; exact hi)
      rw [show k + (i + 1) + 1 = k + 1 + i + 1 by omega] at this
      exact this) (fun env' W' hi => hq env' W' (by
      rw [show k + (e :: es).length = k + 1 + es.length by rw [List.length_cons]; omega]
      exact hi))
    rw [forT]
    refine sat_bind.mpr ((st 0 e env W rfl h).mono (fun env1 W1 h1 => sat_bind.mpr (h1.mono (fun o W2 h2 => ?_) fun _ _ _ x => x)) fun _ _ _ x => x)
    cases o with
    | nx e1 => exact go e1 W2 h2
    | ct e1 => exact go e1 W2 h2
    | bk e1 => exact h2
    | rt d => exact h2
def Bg (b : Addr) (n : Nat) (W : WE) : Prop := ∃ m, m ≤ n ∧ W b = some (.bag m)
def Fm (b : Addr) (W W' : WE) : Prop := ∀ a, a ≠ b → W' a = W a
theorem Fm.refl {b : Addr} {W : WE} : Fm b W W := fun _ _ => rfl
theorem Fm.trans {b : Addr} {W W1 W2 : WE} (h : Fm b W W1) (h2 : Fm b W1 W2) : Fm b W W2 := fun a ha => (h2 a ha).trans (h a ha)
theorem Bg.mono {b : Addr} {n m : Nat} {W : WE} (h : Bg b n W) (l : n ≤ m) : Bg b m W := by
  obtain ⟨k, hk, e⟩ := h
  exact ⟨k, Nat.le_trans hk l, e⟩
theorem take_sat {b : Addr} {n : Nat} {W : WE} {m : Int} {Q : E → WE → Prop} {X : XE} (hb : Bg b n W) (hn : n < 1073741824) (h0 : 0 < m) (hm : m < 1073741824) (h : ∀ r : Nat, r < m.toNat → ∀ W', Bg b (n + 1) W' → Fm b W W' → Q (.int r) W') : Sat (calmF f3_take [.cel b, .int m] W) Q X := by
  obtain ⟨k, hk, e⟩ := hb
  show Sat (f3_take [.cel b, .int m] W).calm Q X
  have : f3_take [.cel b, .int m] W = .pick m.toNat fun r => .ret (.int (r : Nat)) (W.set b (.bag (k + 1))) := by
    unfold f3_take
    dsimp only
    rw [e]
    exact if_pos ⟨h0, hm, by omega⟩
  rw [this]
  exact fun r hr => h r hr _ ⟨k + 1, by omega, if_pos rfl⟩ fun a ha => if_neg ha
end Fr
namespace Fr
open PySem PySem.Spec PyProof.Rows L2
section
variable {α : Type} {Q : α → WE → Prop} {X : XE} {W : WE}
theorem ixl_nat {es : List E} {r : Nat} {e : E} (h : es[r]? = some e) : oIxL (.lst es) (.int (r : Nat)) W = some e := atI_nat h
theorem vEq_str {a b : Str} : vEq (.str a) (.str b) = some (.bl (decide (a = b))) := by simp [vEq, scal]
theorem vEq_int {a b : Int} : vEq (.int a) (.int b) = some (.bl (decide (a = b))) := by simp [vEq, scal]
theorem vNe_str {a b : Str} : vNe (.str a) (.str b) = some (.bl (!decide (a = b))) := by simp [vNe, scal]
theorem vNe_int {a b : Int} : vNe (.int a) (.int b) = some (.bl (!decide (a = b))) := by simp [vNe, scal]
theorem isN_t {a : E} : oIsN true a .non W = some (.bl (!isNonE a)) := rfl
theorem isN_f {a : E} : oIsN false a .non W = some (.bl (isNonE a)) := rfl
theorem strsE_map {ks : List Str} : strsE (ks.map E.str) = some ks := by
  induction ks with
  | nil => rfl
  | cons k ks ih => simp only [List.map_cons, strsE, ih, Option.map_some]
end
end Fr
namespace Fr
open PySem PySem.Spec PyProof.Rows L2
theorem wrd_0 : wrd 0 = "" := by decide +kernel
theorem wrd_1 : wrd 1 = "x" := by decide +kernel
theorem wrd_2 : wrd 2 = "w" := by decide +kernel
theorem wrd_3 : wrd 3 = "wx" := by decide +kernel
theorem wrd_4 : wrd 4 = "r" := by decide +kernel
theorem wrd_5 : wrd 5 = "rx" := by decide +kernel
theorem wrd_6 : wrd 6 = "rw" := by decide +kernel
theorem wrd_7 : wrd 7 = "rwx" := by decide +kernel
theorem all8 {P : Nat → Prop} (h0 : P 0) (h1 : P 1) (h2 : P 2) (h3 : P 3) (h4 : P 4) (h5 : P 5) (h6 : P 6) (h7 : P 7) {d : Nat} (h : d < 8) : P d := by
  rcases d with _ | _ | _ | _ | _ | _ | _ | _ | d <;> first | omega | assumption
end Fr
set_option Elab.async false
set_option linter.all false
set_option maxRecDepth 100000
set_option maxHeartbeats 4000000
namespace Fr
open PySem PySem.Spec PyProof.Rows L2
def dk (v : Str → E) (ks : List Str) : List (Key × E) := ks.map fun k => (.inr k, v k)
end Fr
namespace Fr
open PySem PySem.Spec PyProof.Rows L2
theorem lk_cons {α : Type} {k a : Str} {b : α} {r : List (Str × α)} : List.lookup k ((a, b) :: r) = if k = a then some b else List.lookup k r := by
  rw [List.lookup_cons]
  by_cases h : k = a
  · rw [if_pos h, h, beq_self_eq_true]
  · rw [if_neg h, beq_false_of_ne h]
theorem lk_nil {α : Type} {k : Str} : List.lookup k ([] : List (Str × α)) = none := rfl
section
variable {W : WE} {es : List E} {kvs : List (Key × E)} {fs : List (Str × E)} {C : String} {z : Str} {i : Int} {b : Bool} {ns : List Int}
theorem vE_lst : vE W (.lst es) = .lst es := rfl
theorem vE_tup : vE W (.tup es) = .tup es := rfl
theorem vE_dic : vE W (.dic kvs) = .dic kvs := rfl
theorem vE_obj : vE W (.obj C fs) = .obj C fs := rfl
theorem vE_str : vE W (.str z) = .str z := rfl
theorem vE_int : vE W (.int i) = .int i := rfl
theorem vE_bl : vE W (.bl b) = .bl b := rfl
theorem vE_non : vE W .non = .non := rfl
theorem vE_scr : vE W (.scr ns) = .scr ns := rfl
theorem isLstE_c : isLstE (.lst es) = some es := rfl
theorem isTupE_c : isTupE (.tup es) = some es := rfl
theorem isStrE_c : isStrE (.str z) = some z := rfl
theorem isIntE_c : isIntE (.int i) = some i := rfl
theorem isBlE_c : isBlE (.bl b) = some b := rfl
theorem isObjE_c : isObjE C (.obj C fs) = some fs := if_pos rfl
theorem isFnE_c : isFnE C (.fn C) = some () := if_pos rfl
theorem isNonE_n : isNonE .non = true := rfl
theorem isNonE_s : isNonE (.str z) = false := rfl
theorem isNonE_i : isNonE (.int i) = false := rfl
theorem isNonE_o : isNonE (.obj C fs) = false := rfl
theorem isNonE_l : isNonE (.lst es) = false := rfl
theorem isNonE_t : isNonE (.tup es) = false := rfl
theorem isNonE_d : isNonE (.dic kvs) = false := rfl
theorem sE_str : sE (.str z) = some (.str z) := rfl
theorem sE_int : sE (.int i) = some (.int i) := rfl
theorem sE_bl : sE (.bl b) = some (.bl b) := rfl
theorem sE_non : sE .non = some .non := rfl
theorem fE_str : fE (.str z) = some (.str z) := rfl
theorem fE_int : fE (.int i) = some (.int i) := rfl
theorem fE_bl : fE (.bl b) = some (.bl b) := rfl
theorem fE_non : fE .non = some .non := rfl
end
theorem isKey_str {z : Str} : isKey (.str z) = some (.inr z) := rfl
theorem isKey_int {i : Int} : isKey (.int i) = some (.inl i) := rfl
end Fr
set_option Elab.async false
set_option linter.all false
set_option maxRecDepth 100000
set_option maxHeartbeats 4000000
namespace Fr
open PySem PySem.Spec PyProof.Rows L2
mutual
def eqOk : Nat → E → Bool
  | _, .non => true
  | _, .bl _ => true
  | _, .int _ => true
  | _, .str s => ascB s
  | n + 1, .lst ds => eqOks n ds
  | n + 1, .tup ds => eqOks n ds
  | _, _ => false
def eqOks : Nat → List E → Bool
  | _, [] => true
  | n, d :: ds => eqOk n d && eqOks n ds
end
mutual
theorem eqOk_py : ∀ (n : Nat) (e : E), eqOk n e = true → ∃ p, pyE n e = some p
  | n, .non, h => ⟨.none, by simp only [pyE]⟩
  | n, .bl b, h => ⟨.bool b, by simp only [pyE]⟩
  | n, .int b, h => ⟨.int b, by simp only [pyE]⟩
  | n, .str b, h => ⟨.str b, by simp only [eqOk] at h; simp only [pyE, if_pos h]⟩
  | 0, .lst ds, h => by simp only [eqOk] at h; cases h
  | n + 1, .lst ds, h => by
    simp only [eqOk] at h
    obtain ⟨p, e⟩ := eqOks_py n ds h
    exact ⟨_, by simp only [pyE, e, Option.map_some]; rfl⟩
  | 0, .tup ds, h => by simp only [eqOk] at h; cases h
  | n + 1, .tup ds, h => by
    simp only [eqOk] at h
    obtain ⟨p, e⟩ := eqOks_py n ds h
    exact ⟨_, by simp only [pyE, e, Option.map_some]; rfl⟩
  | n, .ty _, h => by simp only [eqOk] at h; cases h
  | n, .fn _, h => by simp only [eqOk] at h; cases h
  | n, .dic _, h => by simp only [eqOk] at h; cases h
  | n, .scr _, h => by simp only [eqOk] at h; cases h
  | n, .obj _ _, h => by simp only [eqOk] at h; cases h
  | n, .cel _, h => by simp only [eqOk] at h; cases h
  | n, .ety _, h => by simp only [eqOk] at h; cases h
theorem eqOks_py : ∀ (n : Nat) (es : List E), eqOks n es = true → ∃ p, pyEs n es = some p
  | n, [], h => ⟨[], by simp only [pyEs]⟩
  | n, e :: es, h => by
    simp only [eqOks, Bool.and_eq_true] at h
    obtain ⟨p, e1⟩ := eqOk_py n e h.1
    obtain ⟨q, e2⟩ := eqOks_py n es h.2
    exact ⟨_, by simp only [pyEs, e1, e2, Option.bind_some, Option.map_some]; rfl⟩
end
theorem eqOks_all {n : Nat} : ∀ {a : List E}, (∀ x ∈ a, eqOk n x = true) → eqOks n a = true
  | [], h => by simp [eqOks]
  | x :: a, h => by simp only [eqOks, h x (List.mem_cons_self ..), eqOks_all fun y hy => h y (List.mem_cons_of_mem _ hy), Bool.and_self]
end Fr
set_option Elab.async false
set_option linter.all false
set_option maxRecDepth 100000
set_option maxHeartbeats 4000000
namespace Fr
open PySem PySem.Spec PyProof.Rows L2
theorem q_e3C {e : E} {x0 : En3} {W : WE} : e3C e x0 W = .ret e W := rfl
theorem q_a3Nil {x0 : En3} {W : WE} : a3Nil x0 W = .ret [] W := rfl
def fk1_a3Cons (e : E) (es : List E) (W2 : WE) : Tr (List E) := .ret (e :: es) W2
theorem q_fk1_a3Cons {e : E} {es : List E} {W2 : WE} : fk1_a3Cons e es W2 = .ret (e :: es) W2 := rfl
def fk2_a3Cons (as_ : A3) (env : En3) (e : E) (W1 : WE) : Tr (List E) := (as_ env W1).bind  (fk1_a3Cons e)
theorem q_fk2_a3Cons {as_ : A3} {env : En3} {e : E} {W1 : WE} : fk2_a3Cons as_ env e W1 = (as_ env W1).bind  (fk1_a3Cons e) := rfl
theorem q_a3Cons {m : E3} {as_ : A3} {env : En3} {W : WE} : a3Cons m as_ env W = (m env W).bind  (fk2_a3Cons as_ env) := rfl
def fk1_e3Lst (es : List E) (W1 : WE) : Tr (E) := if es.length ≤ 1000000  then  .ret (.lst es) W1  else  .stuck
theorem q_fk1_e3Lst {es : List E} {W1 : WE} : fk1_e3Lst es W1 = if es.length ≤ 1000000  then  .ret (.lst es) W1  else  .stuck := rfl
theorem q_e3Lst {as_ : A3} {env : En3} {W : WE} : e3Lst as_ env W = (as_ env W).bind  fk1_e3Lst := rfl
def fk1_e3Tup (es : List E) (W1 : WE) : Tr (E) := if es.length ≤ 1000000  then  .ret (.tup es) W1  else  .stuck
theorem q_fk1_e3Tup {es : List E} {W1 : WE} : fk1_e3Tup es W1 = if es.length ≤ 1000000  then  .ret (.tup es) W1  else  .stuck := rfl
theorem q_e3Tup {as_ : A3} {env : En3} {W : WE} : e3Tup as_ env W = (as_ env W).bind  fk1_e3Tup := rfl
def fk1_e3Op (o : OE2) (x : E) (y : E) (W2 : WE) : Tr (E) := ofO (o x y W2) W2
theorem q_fk1_e3Op {o : OE2} {x : E} {y : E} {W2 : WE} : fk1_e3Op o x y W2 = ofO (o x y W2) W2 := rfl
def fk2_e3Op (o : OE2) (b : E3) (env : En3) (x : E) (W1 : WE) : Tr (E) := (b env W1).bind  (fk1_e3Op o x)
theorem q_fk2_e3Op {o : OE2} {b : E3} {env : En3} {x : E} {W1 : WE} : fk2_e3Op o b env x W1 = (b env W1).bind  (fk1_e3Op o x) := rfl
theorem q_e3Op {o : OE2} {a : E3} {b : E3} {env : En3} {W : WE} : e3Op o a b env W = (a env W).bind  (fk2_e3Op o b env) := rfl
def fk1_e3Un (o : OE1) (x : E) (W1 : WE) : Tr (E) := ofO (o x W1) W1
theorem q_fk1_e3Un {o : OE1} {x : E} {W1 : WE} : fk1_e3Un o x W1 = ofO (o x W1) W1 := rfl
theorem q_e3Un {o : OE1} {a : E3} {env : En3} {W : WE} : e3Un o a env W = (a env W).bind  (fk1_e3Un o) := rfl
def fk1_e3CB (o : OEL) (xs : List E) (W1 : WE) : Tr (E) := ofO (o xs W1) W1
theorem q_fk1_e3CB {o : OEL} {xs : List E} {W1 : WE} : fk1_e3CB o xs W1 = ofO (o xs W1) W1 := rfl
theorem q_e3CB {o : OEL} {as_ : A3} {env : En3} {W : WE} : e3CB o as_ env W = (as_ env W).bind  (fk1_e3CB o) := rfl
def fk1_b3T (e : E) (W1 : WE) : Tr (Bool) := ofO (isBlE e) W1
theorem q_fk1_b3T {e : E} {W1 : WE} : fk1_b3T e W1 = ofO (isBlE e) W1 := rfl
theorem q_b3T {m : E3} {env : En3} {W : WE} : b3T m env W = (m env W).bind  fk1_b3T := rfl
def fk1_b3Not (c : Bool) (W1 : WE) : Tr (Bool) := .ret (!c) W1
theorem q_fk1_b3Not {c : Bool} {W1 : WE} : fk1_b3Not c W1 = .ret (!c) W1 := rfl
theorem q_b3Not {a : B3} {env : En3} {W : WE} : b3Not a env W = (a env W).bind  fk1_b3Not := rfl
theorem q_b3Yes {x0 : En3} {W : WE} : b3Yes x0 W = .ret true W := rfl
def fk1_e3NotV (c : Bool) (W1 : WE) : Tr (E) := .ret (.bl (!c)) W1
theorem q_fk1_e3NotV {c : Bool} {W1 : WE} : fk1_e3NotV c W1 = .ret (.bl (!c)) W1 := rfl
theorem q_e3NotV {a : E3} {env : En3} {W : WE} : e3NotV a env W = (b3T a env W).bind  fk1_e3NotV := rfl
def fk1_e3Chain (o' : OE2) (y : E) (u : E) (W5 : WE) : Tr (E) := ofO (o' y u W5) W5
theorem q_fk1_e3Chain {o' : OE2} {y : E} {u : E} {W5 : WE} : fk1_e3Chain o' y u W5 = ofO (o' y u W5) W5 := rfl
def fk2_e3Chain (o' : OE2) (c : E3) (env : En3) (y : E) (k : Bool) (W4 : WE) : Tr (E) := if k = true  then  (c env W4).bind  (fk1_e3Chain o' y) else  .ret (.bl false) W4
theorem q_fk2_e3Chain {o' : OE2} {c : E3} {env : En3} {y : E} {k : Bool} {W4 : WE} : fk2_e3Chain o' c env y k W4 = if k = true  then  (c env W4).bind  (fk1_e3Chain o' y) else  .ret (.bl false) W4 := rfl
def fk3_e3Chain (o' : OE2) (c : E3) (env : En3) (y : E) (z : E) (W3 : WE) : Tr (E) := (ofO (isBlE z) W3).bind  (fk2_e3Chain o' c env y)
theorem q_fk3_e3Chain {o' : OE2} {c : E3} {env : En3} {y : E} {z : E} {W3 : WE} : fk3_e3Chain o' c env y z W3 = (ofO (isBlE z) W3).bind  (fk2_e3Chain o' c env y) := rfl
def fk4_e3Chain (o : OE2) (o' : OE2) (c : E3) (env : En3) (x : E) (y : E) (W2 : WE) : Tr (E) := (ofO (o x y W2) W2).bind  (fk3_e3Chain o' c env y)
theorem q_fk4_e3Chain {o : OE2} {o' : OE2} {c : E3} {env : En3} {x : E} {y : E} {W2 : WE} : fk4_e3Chain o o' c env x y W2 = (ofO (o x y W2) W2).bind  (fk3_e3Chain o' c env y) := rfl
def fk5_e3Chain (o : OE2) (o' : OE2) (b : E3) (c : E3) (env : En3) (x : E) (W1 : WE) : Tr (E) := (b env W1).bind  (fk4_e3Chain o o' c env x)
theorem q_fk5_e3Chain {o : OE2} {o' : OE2} {b : E3} {c : E3} {env : En3} {x : E} {W1 : WE} : fk5_e3Chain o o' b c env x W1 = (b env W1).bind  (fk4_e3Chain o o' c env x) := rfl
theorem q_e3Chain {o : OE2} {o' : OE2} {a : E3} {b : E3} {c : E3} {env : En3} {W : WE} : e3Chain o o' a b c env W = (a env W).bind  (fk5_e3Chain o o' b c env) := rfl
theorem q_s3Nx {env : En3} {W : WE} : s3Nx env W = .ret (.nx env) W := rfl
def fk1_s3Ret (e : E) (W1 : WE) : Tr (Out) := .ret (.rt e) W1
theorem q_fk1_s3Ret {e : E} {W1 : WE} : fk1_s3Ret e W1 = .ret (.rt e) W1 := rfl
theorem q_s3Ret {m : E3} {env : En3} {W : WE} : s3Ret m env W = (m env W).bind  fk1_s3Ret := rfl
def fk1_s3Raise (C : String) (f : Str) (e : E) (W1 : WE) : Tr (Out) := .exc C [(f, e)] W1
theorem q_fk1_s3Raise {C : String} {f : Str} {e : E} {W1 : WE} : fk1_s3Raise C f e W1 = .exc C [(f, e)] W1 := rfl
theorem q_s3Raise {C : String} {f : Str} {m : E3} {env : En3} {W : WE} : s3Raise C f m env W = (m env W).bind  (fk1_s3Raise C f) := rfl
theorem q_g3Name {i : Nat} {e : E} {env : En3} {W : WE} : g3Name i e env W = .ret (env.set i (.pl e)) W := rfl
def fk1_g3Tup (n : Nat) (g : G3s) (env : En3) (es : List E) (W1 : WE) : Tr (En3) := if es.length = n  then  g es env W1  else  .stuck
theorem q_fk1_g3Tup {n : Nat} {g : G3s} {env : En3} {es : List E} {W1 : WE} : fk1_g3Tup n g env es W1 = if es.length = n  then  g es env W1  else  .stuck := rfl
theorem q_g3Tup {n : Nat} {g : G3s} {e : E} {env : En3} {W : WE} : g3Tup n g e env W = (ofO (isTupE e) W).bind  (fk1_g3Tup n g env) := rfl
def fk1_g3Cons (gs : G3s) (es : List E) (env1 : En3) (W1 : WE) : Tr (En3) := gs es env1 W1
theorem q_fk1_g3Cons {gs : G3s} {es : List E} {env1 : En3} {W1 : WE} : fk1_g3Cons gs es env1 W1 = gs es env1 W1 := rfl
theorem q_g3Cons {g : G3} {gs : G3s} {es : List E} {env : En3} {W : WE} : g3Cons g gs es env W = (match es with | e :: es => (g e env W).bind  (fk1_g3Cons gs es)  | [] => .stuck ) := rfl
theorem q_g3Nil {es : List E} {env : En3} {W : WE} : g3Nil es env W = (match es with | [] => .ret env W  | _ :: _ => .stuck ) := rfl
def fk1_s3Asg (env1 : En3) (W2 : WE) : Tr (Out) := .ret (.nx env1) W2
theorem q_fk1_s3Asg {env1 : En3} {W2 : WE} : fk1_s3Asg env1 W2 = .ret (.nx env1) W2 := rfl
def fk2_s3Asg (g : G3) (env : En3) (e : E) (W1 : WE) : Tr (Out) := (g e env W1).bind  fk1_s3Asg
theorem q_fk2_s3Asg {g : G3} {env : En3} {e : E} {W1 : WE} : fk2_s3Asg g env e W1 = (g e env W1).bind  fk1_s3Asg := rfl
theorem q_s3Asg {m : E3} {g : G3} {env : En3} {W : WE} : s3Asg m g env W = (m env W).bind  (fk2_s3Asg g env) := rfl
def fk1_s3Par (i : Nat) (j : Nat) (env : En3) (es : List E) (W1 : WE) : Tr (Out) := (match es with | [a, b] => .ret (.nx ((env.set i (.pl a)).set j (.pl b))) W1  | _ => .stuck )
theorem q_fk1_s3Par {i : Nat} {j : Nat} {env : En3} {es : List E} {W1 : WE} : fk1_s3Par i j env es W1 = (match es with | [a, b] => .ret (.nx ((env.set i (.pl a)).set j (.pl b))) W1  | _ => .stuck ) := rfl
theorem q_s3Par {i : Nat} {j : Nat} {as_ : A3} {env : En3} {W : WE} : s3Par i j as_ env W = (as_ env W).bind  (fk1_s3Par i j env) := rfl
def fk1_s3Aug (i : Nat) (env : En3) (d : E) (W2 : WE) : Tr (Out) := .ret (.nx (env.set i (.pl d))) W2
theorem q_fk1_s3Aug {i : Nat} {env : En3} {d : E} {W2 : WE} : fk1_s3Aug i env d W2 = .ret (.nx (env.set i (.pl d))) W2 := rfl
def fk2_s3Aug (i : Nat) (o : OE2) (env : En3) (a : E) (b : E) (W1 : WE) : Tr (Out) := (ofO (o a b W1) W1).bind  (fk1_s3Aug i env)
theorem q_fk2_s3Aug {i : Nat} {o : OE2} {env : En3} {a : E} {b : E} {W1 : WE} : fk2_s3Aug i o env a b W1 = (ofO (o a b W1) W1).bind  (fk1_s3Aug i env) := rfl
theorem q_s3Aug {i : Nat} {m : E3} {o : OE2} {env : En3} {W : WE} : s3Aug i m o env W = (match env[i]? with | some (.pl a) => (m env W).bind  (fk2_s3Aug i o env a)  | _ => .stuck ) := rfl
def fk1_s3Fld (C : String) (f : Str) (i : Nat) (env : En3) (e : E) (W1 : WE) : Tr (Out) := (match env[i]? with | some (.sf (.obj C' fs)) => if C' = C ∧ fs.length < 1000  then  .ret (.nx (env.set i (.sf (.obj C (putFE f e fs))))) W1  else  .stuck  | _ => .stuck )
theorem q_fk1_s3Fld {C : String} {f : Str} {i : Nat} {env : En3} {e : E} {W1 : WE} : fk1_s3Fld C f i env e W1 = (match env[i]? with | some (.sf (.obj C' fs)) => if C' = C ∧ fs.length < 1000  then  .ret (.nx (env.set i (.sf (.obj C (putFE f e fs))))) W1  else  .stuck  | _ => .stuck ) := rfl
theorem q_s3Fld {C : String} {f : Str} {i : Nat} {m : E3} {env : En3} {W : WE} : s3Fld C f i m env W = (m env W).bind  (fk1_s3Fld C f i env) := rfl
def fk1_a3List (e : E) (W1 : WE) : Tr (List E) := ofO (isLstE e) W1
theorem q_fk1_a3List {e : E} {W1 : WE} : fk1_a3List e W1 = ofO (isLstE e) W1 := rfl
theorem q_a3List {m : E3} {env : En3} {W : WE} : a3List m env W = (m env W).bind  fk1_a3List := rfl
def fk1_a3TupI (e : E) (W1 : WE) : Tr (List E) := ofO (isTupE e) W1
theorem q_fk1_a3TupI {e : E} {W1 : WE} : fk1_a3TupI e W1 = ofO (isTupE e) W1 := rfl
theorem q_a3TupI {m : E3} {env : En3} {W : WE} : a3TupI m env W = (m env W).bind  fk1_a3TupI := rfl
def fk1_a3Str (z : Str) (W2 : WE) : Tr (List E) := .ret (sgE z) W2
theorem q_fk1_a3Str {z : Str} {W2 : WE} : fk1_a3Str z W2 = .ret (sgE z) W2 := rfl
def fk2_a3Str (e : E) (W1 : WE) : Tr (List E) := (ofO (isStrE e) W1).bind  fk1_a3Str
theorem q_fk2_a3Str {e : E} {W1 : WE} : fk2_a3Str e W1 = (ofO (isStrE e) W1).bind  fk1_a3Str := rfl
theorem q_a3Str {m : E3} {env : En3} {W : WE} : a3Str m env W = (m env W).bind  fk2_a3Str := rfl
def fk1_a3Rng1 (es : List E) (W1 : WE) : Tr (List E) := (match es with | [.int j] => if -(2 ^ 62) ≤ j ∧ j < 2 ^ 62  then  .ret (rgE 0 j.toNat) W1  else  .stuck  | _ => .stuck )
theorem q_fk1_a3Rng1 {es : List E} {W1 : WE} : fk1_a3Rng1 es W1 = (match es with | [.int j] => if -(2 ^ 62) ≤ j ∧ j < 2 ^ 62  then  .ret (rgE 0 j.toNat) W1  else  .stuck  | _ => .stuck ) := rfl
theorem q_a3Rng1 {as_ : A3} {env : En3} {W : WE} : a3Rng1 as_ env W = (as_ env W).bind  fk1_a3Rng1 := rfl
def fk1_s3For (g : G3) (s : S3) (env : En3) (es : List E) (W1 : WE) : Tr (Out) := forT g s es env W1
theorem q_fk1_s3For {g : G3} {s : S3} {env : En3} {es : List E} {W1 : WE} : fk1_s3For g s env es W1 = forT g s es env W1 := rfl
theorem q_s3For {ti : A3} {g : G3} {s : S3} {env : En3} {W : WE} : s3For ti g s env W = (ti env W).bind  (fk1_s3For g s env) := rfl
def fk1_e3Lc (ys : List E) (W2 : WE) : Tr (E) := .ret (.lst ys) W2
theorem q_fk1_e3Lc {ys : List E} {W2 : WE} : fk1_e3Lc ys W2 = .ret (.lst ys) W2 := rfl
def fk2_e3Lc (g : G3) (b : B3) (m : E3) (vs : List Nat) (env : En3) (es : List E) (W1 : WE) : Tr (E) := if es.length ≤ 1000000  then  (lcT g b m (wipeE env vs) es W1).bind  fk1_e3Lc else  .stuck
theorem q_fk2_e3Lc {g : G3} {b : B3} {m : E3} {vs : List Nat} {env : En3} {es : List E} {W1 : WE} : fk2_e3Lc g b m vs env es W1 = if es.length ≤ 1000000  then  (lcT g b m (wipeE env vs) es W1).bind  fk1_e3Lc else  .stuck := rfl
theorem q_e3Lc {ti : A3} {g : G3} {b : B3} {m : E3} {vs : List Nat} {env : En3} {W : WE} : e3Lc ti g b m vs env W = (ti env W).bind  (fk2_e3Lc g b m vs env) := rfl
theorem q_dflF {dd : List E} {f : F3} {es : List E} {W : WE} : dflF dd f es W = f (es ++ dd) W := rfl
theorem q_dflFi {dd : List E} {f : Fi3} {es : List E} {W : WE} : dflFi dd f es W = f (es ++ dd) W := rfl
theorem q_starF {m : Nat} {f : F3} {es : List E} {W : WE} : starF m f es W = if m ≤ es.length ∧ es.length ≤ 1000000  then  f (es.take m ++ [.tup (es.drop m)]) W  else  .stuck := rfl
def fk1_e3Call (f : F3) (es : List E) (W1 : WE) : Tr (E) := f es W1
theorem q_fk1_e3Call {f : F3} {es : List E} {W1 : WE} : fk1_e3Call f es W1 = f es W1 := rfl
theorem q_e3Call {f : F3} {as_ : A3} {env : En3} {W : WE} : e3Call f as_ env W = (as_ env W).bind  (fk1_e3Call f) := rfl
def fk1_e3Fld (f : Str) (fs : List (Str × E)) (W1 : WE) : Tr (E) := ofO (fs.lookup f) W1
theorem q_fk1_e3Fld {f : Str} {fs : List (Str × E)} {W1 : WE} : fk1_e3Fld f fs W1 = ofO (fs.lookup f) W1 := rfl
def fk2_e3Fld (C : String) (f : Str) (o : E) (W1 : WE) : Tr (E) := (ofO (isObjE C (vE W1 o)) W1).bind  (fk1_e3Fld f)
theorem q_fk2_e3Fld {C : String} {f : Str} {o : E} {W1 : WE} : fk2_e3Fld C f o W1 = (ofO (isObjE C (vE W1 o)) W1).bind  (fk1_e3Fld f) := rfl
theorem q_e3Fld {C : String} {f : Str} {m : E3} {env : En3} {W : WE} : e3Fld C f m env W = (m env W).bind  (fk2_e3Fld C f) := rfl
def fk1_e3Meth (f : F3) (o : E) (es : List E) (W2 : WE) : Tr (E) := f (o :: es) W2
theorem q_fk1_e3Meth {f : F3} {o : E} {es : List E} {W2 : WE} : fk1_e3Meth f o es W2 = f (o :: es) W2 := rfl
def fk2_e3Meth (mt : Str) (f : F3) (as_ : A3) (env : En3) (o : E) (fs : List (Str × E)) (W1 : WE) : Tr (E) := if fs.lookup mt = none  then  (as_ env W1).bind  (fk1_e3Meth f o) else  .stuck
theorem q_fk2_e3Meth {mt : Str} {f : F3} {as_ : A3} {env : En3} {o : E} {fs : List (Str × E)} {W1 : WE} : fk2_e3Meth mt f as_ env o fs W1 = if fs.lookup mt = none  then  (as_ env W1).bind  (fk1_e3Meth f o) else  .stuck := rfl
def fk3_e3Meth (C : String) (mt : Str) (f : F3) (as_ : A3) (env : En3) (o : E) (W1 : WE) : Tr (E) := (ofO (isObjE C (vE W1 o)) W1).bind  (fk2_e3Meth mt f as_ env o)
theorem q_fk3_e3Meth {C : String} {mt : Str} {f : F3} {as_ : A3} {env : En3} {o : E} {W1 : WE} : fk3_e3Meth C mt f as_ env o W1 = (ofO (isObjE C (vE W1 o)) W1).bind  (fk2_e3Meth mt f as_ env o) := rfl
theorem q_e3Meth {C : String} {mt : Str} {f : F3} {mo : E3} {as_ : A3} {env : En3} {W : WE} : e3Meth C mt f mo as_ env W = (mo env W).bind  (fk3_e3Meth C mt f as_ env) := rfl
def fk1_e3Prop (f : F3) (o : E) (u_ : List (Str × E)) (W1 : WE) : Tr (E) := f [o] W1
theorem q_fk1_e3Prop {f : F3} {o : E} {u_ : List (Str × E)} {W1 : WE} : fk1_e3Prop f o u_ W1 = f [o] W1 := rfl
def fk2_e3Prop (C : String) (f : F3) (o : E) (W1 : WE) : Tr (E) := (ofO (isObjE C (vE W1 o)) W1).bind  (fk1_e3Prop f o)
theorem q_fk2_e3Prop {C : String} {f : F3} {o : E} {W1 : WE} : fk2_e3Prop C f o W1 = (ofO (isObjE C (vE W1 o)) W1).bind  (fk1_e3Prop f o) := rfl
theorem q_e3Prop {C : String} {f : F3} {mo : E3} {env : En3} {W : WE} : e3Prop C f mo env W = (mo env W).bind  (fk2_e3Prop C f) := rfl
def fk1_e3CMeth (C : String) (f : F3) (es : List E) (W2 : WE) : Tr (E) := f (.fn C :: es) W2
theorem q_fk1_e3CMeth {C : String} {f : F3} {es : List E} {W2 : WE} : fk1_e3CMeth C f es W2 = f (.fn C :: es) W2 := rfl
def fk2_e3CMeth (C : String) (f : F3) (as_ : A3) (env : En3) (u_ : Unit) (W1 : WE) : Tr (E) := (as_ env W1).bind  (fk1_e3CMeth C f)
theorem q_fk2_e3CMeth {C : String} {f : F3} {as_ : A3} {env : En3} {u_ : Unit} {W1 : WE} : fk2_e3CMeth C f as_ env u_ W1 = (as_ env W1).bind  (fk1_e3CMeth C f) := rfl
def fk3_e3CMeth (C : String) (f : F3) (as_ : A3) (env : En3) (o : E) (W1 : WE) : Tr (E) := (ofO (isFnE C o) W1).bind  (fk2_e3CMeth C f as_ env)
theorem q_fk3_e3CMeth {C : String} {f : F3} {as_ : A3} {env : En3} {o : E} {W1 : WE} : fk3_e3CMeth C f as_ env o W1 = (ofO (isFnE C o) W1).bind  (fk2_e3CMeth C f as_ env) := rfl
theorem q_e3CMeth {C : String} {f : F3} {mo : E3} {as_ : A3} {env : En3} {W : WE} : e3CMeth C f mo as_ env W = (mo env W).bind  (fk3_e3CMeth C f as_ env) := rfl
def fk1_e3Make (C : String) (fs : List (Str × E)) (W2 : WE) : Tr (E) := .ret (.obj C fs) W2
theorem q_fk1_e3Make {C : String} {fs : List (Str × E)} {W2 : WE} : fk1_e3Make C fs W2 = .ret (.obj C fs) W2 := rfl
def fk2_e3Make (C : String) (f : Fi3) (es : List E) (W1 : WE) : Tr (E) := (f es W1).bind  (fk1_e3Make C)
theorem q_fk2_e3Make {C : String} {f : Fi3} {es : List E} {W1 : WE} : fk2_e3Make C f es W1 = (f es W1).bind  (fk1_e3Make C) := rfl
theorem q_e3Make {C : String} {f : Fi3} {as_ : A3} {env : En3} {W : WE} : e3Make C f as_ env W = (as_ env W).bind  (fk2_e3Make C f) := rfl
def fk1_e3MakeV (C : String) (f : Fi3) (as_ : A3) (env : En3) (u_ : Unit) (W : WE) : Tr (E) := e3Make C f as_ env W
theorem q_fk1_e3MakeV {C : String} {f : Fi3} {as_ : A3} {env : En3} {u_ : Unit} {W : WE} : fk1_e3MakeV C f as_ env u_ W = e3Make C f as_ env W := rfl
theorem q_e3MakeV {i : Nat} {C : String} {f : Fi3} {as_ : A3} {env : En3} {W : WE} : e3MakeV i C f as_ env W = (match env[i]? with | some (.pl e) => (ofO (isFnE C e) W).bind  (fk1_e3MakeV C f as_ env)  | _ => .stuck ) := rfl
def fk1_e3KGet (t : List (Str × V)) (k : Str) (x : V) (W3 : WE) : Tr (E) := ofO (fE ((t.lookup k).getD x)) W3
theorem q_fk1_e3KGet {t : List (Str × V)} {k : Str} {x : V} {W3 : WE} : fk1_e3KGet t k x W3 = ofO (fE ((t.lookup k).getD x)) W3 := rfl
def fk2_e3KGet (t : List (Str × V)) (x : E) (z : E) (k : Str) (W3 : WE) : Tr (E) := (ofO (sE z) W3).bind  (fk1_e3KGet t k)
theorem q_fk2_e3KGet {t : List (Str × V)} {x : E} {z : E} {k : Str} {W3 : WE} : fk2_e3KGet t x z k W3 = (ofO (sE z) W3).bind  (fk1_e3KGet t k) := rfl
def fk3_e3KGet (t : List (Str × V)) (x : E) (y : E) (z : E) (W3 : WE) : Tr (E) := (ofO (isStrE y) W3).bind  (fk2_e3KGet t x z)
theorem q_fk3_e3KGet {t : List (Str × V)} {x : E} {y : E} {z : E} {W3 : WE} : fk3_e3KGet t x y z W3 = (ofO (isStrE y) W3).bind  (fk2_e3KGet t x z) := rfl
def fk4_e3KGet (t : List (Str × V)) (c : E3) (env : En3) (x : E) (y : E) (W2 : WE) : Tr (E) := (c env W2).bind  (fk3_e3KGet t x y)
theorem q_fk4_e3KGet {t : List (Str × V)} {c : E3} {env : En3} {x : E} {y : E} {W2 : WE} : fk4_e3KGet t c env x y W2 = (c env W2).bind  (fk3_e3KGet t x y) := rfl
def fk5_e3KGet (t : List (Str × V)) (b : E3) (c : E3) (env : En3) (x : E) (u_ : Unit) (W1 : WE) : Tr (E) := (b env W1).bind  (fk4_e3KGet t c env x)
theorem q_fk5_e3KGet {t : List (Str × V)} {b : E3} {c : E3} {env : En3} {x : E} {u_ : Unit} {W1 : WE} : fk5_e3KGet t b c env x u_ W1 = (b env W1).bind  (fk4_e3KGet t c env x) := rfl
def fk6_e3KGet (n : String) (t : List (Str × V)) (b : E3) (c : E3) (env : En3) (x : E) (W1 : WE) : Tr (E) := (ofO (isFnE n x) W1).bind  (fk5_e3KGet t b c env x)
theorem q_fk6_e3KGet {n : String} {t : List (Str × V)} {b : E3} {c : E3} {env : En3} {x : E} {W1 : WE} : fk6_e3KGet n t b c env x W1 = (ofO (isFnE n x) W1).bind  (fk5_e3KGet t b c env x) := rfl
theorem q_e3KGet {n : String} {t : List (Str × V)} {a : E3} {b : E3} {c : E3} {env : En3} {W : WE} : e3KGet n t a b c env W = (a env W).bind  (fk6_e3KGet n t b c env) := rfl
def fk1_e3M1 (o : OM) (s : Str) (y : E) (W2 : WE) : Tr (E) := ofO (o s y W2) W2
theorem q_fk1_e3M1 {o : OM} {s : Str} {y : E} {W2 : WE} : fk1_e3M1 o s y W2 = ofO (o s y W2) W2 := rfl
def fk2_e3M1 (o : OM) (b : E3) (env : En3) (s : Str) (W1 : WE) : Tr (E) := (b env W1).bind  (fk1_e3M1 o s)
theorem q_fk2_e3M1 {o : OM} {b : E3} {env : En3} {s : Str} {W1 : WE} : fk2_e3M1 o b env s W1 = (b env W1).bind  (fk1_e3M1 o s) := rfl
def fk3_e3M1 (o : OM) (b : E3) (env : En3) (x : E) (W1 : WE) : Tr (E) := (ofO (isStrE x) W1).bind  (fk2_e3M1 o b env)
theorem q_fk3_e3M1 {o : OM} {b : E3} {env : En3} {x : E} {W1 : WE} : fk3_e3M1 o b env x W1 = (ofO (isStrE x) W1).bind  (fk2_e3M1 o b env) := rfl
theorem q_e3M1 {o : OM} {a : E3} {b : E3} {env : En3} {W : WE} : e3M1 o a b env W = (a env W).bind  (fk3_e3M1 o b env) := rfl
theorem q_p3Nil {x0 : En3} {W : WE} : p3Nil x0 W = .ret [] W := rfl
def fk1_p3Cons (x : E) (y : E) (r : List (E × E)) (W3 : WE) : Tr (List (E × E)) := .ret ((x, y) :: r) W3
theorem q_fk1_p3Cons {x : E} {y : E} {r : List (E × E)} {W3 : WE} : fk1_p3Cons x y r W3 = .ret ((x, y) :: r) W3 := rfl
def fk2_p3Cons (p : P3) (env : En3) (x : E) (y : E) (W2 : WE) : Tr (List (E × E)) := (p env W2).bind  (fk1_p3Cons x y)
theorem q_fk2_p3Cons {p : P3} {env : En3} {x : E} {y : E} {W2 : WE} : fk2_p3Cons p env x y W2 = (p env W2).bind  (fk1_p3Cons x y) := rfl
def fk3_p3Cons (b : E3) (p : P3) (env : En3) (x : E) (W1 : WE) : Tr (List (E × E)) := (b env W1).bind  (fk2_p3Cons p env x)
theorem q_fk3_p3Cons {b : E3} {p : P3} {env : En3} {x : E} {W1 : WE} : fk3_p3Cons b p env x W1 = (b env W1).bind  (fk2_p3Cons p env x) := rfl
theorem q_p3Cons {a : E3} {b : E3} {p : P3} {env : En3} {W : WE} : p3Cons a b p env W = (a env W).bind  (fk3_p3Cons b p env) := rfl
def fk1_e3Disp (kvs : List (Key × E)) (W1 : WE) : Tr (E) := if kvs.length ≤ 15  then  .ret (.dic (mergeE [] kvs)) W1  else  .stuck
theorem q_fk1_e3Disp {kvs : List (Key × E)} {W1 : WE} : fk1_e3Disp kvs W1 = if kvs.length ≤ 15  then  .ret (.dic (mergeE [] kvs)) W1  else  .stuck := rfl
def fk2_e3Disp (ps : List (E × E)) (W1 : WE) : Tr (E) := (ofO (kvsE ps) W1).bind  fk1_e3Disp
theorem q_fk2_e3Disp {ps : List (E × E)} {W1 : WE} : fk2_e3Disp ps W1 = (ofO (kvsE ps) W1).bind  fk1_e3Disp := rfl
theorem q_e3Disp {p : P3} {env : En3} {W : WE} : e3Disp p env W = (p env W).bind  fk2_e3Disp := rfl
def fk1_e3Xf (C : String) (D : String) (fs : List (Str × E)) (f : Str) (u_ : Unit) (W1 : WE) : Tr (E) := if C = D  then  ofO (fs.lookup f) W1  else  .stuck
theorem q_fk1_e3Xf {C : String} {D : String} {fs : List (Str × E)} {f : Str} {u_ : Unit} {W1 : WE} : fk1_e3Xf C D fs f u_ W1 = if C = D  then  ofO (fs.lookup f) W1  else  .stuck := rfl
def fk2_e3Xf (a : Addr) (C : String) (D : String) (fs : List (Str × E)) (f : Str) (o : E) (W1 : WE) : Tr (E) := (ofO (isEty a o) W1).bind  (fk1_e3Xf C D fs f)
theorem q_fk2_e3Xf {a : Addr} {C : String} {D : String} {fs : List (Str × E)} {f : Str} {o : E} {W1 : WE} : fk2_e3Xf a C D fs f o W1 = (ofO (isEty a o) W1).bind  (fk1_e3Xf C D fs f) := rfl
theorem q_e3Xf {a : Addr} {C : String} {D : String} {fs : List (Str × E)} {f : Str} {m : E3} {env : En3} {W : WE} : e3Xf a C D fs f m env W = (m env W).bind  (fk2_e3Xf a C D fs f) := rfl
def fk1_e3IsET (b : Bool) (W2 : WE) : Tr (E) := .ret (.bl b) W2
theorem q_fk1_e3IsET {b : Bool} {W2 : WE} : fk1_e3IsET b W2 = .ret (.bl b) W2 := rfl
def fk2_e3IsET (sub : SubT) (D : String) (es : List E) (W2 : WE) : Tr (E) := if es.length ≤ 1000000  then  (ofO (subAny sub D es) W2).bind  fk1_e3IsET else  .stuck
theorem q_fk2_e3IsET {sub : SubT} {D : String} {es : List E} {W2 : WE} : fk2_e3IsET sub D es W2 = if es.length ≤ 1000000  then  (ofO (subAny sub D es) W2).bind  fk1_e3IsET else  .stuck := rfl
def fk3_e3IsET (sub : SubT) (C : String) (D : String) (as_ : A3) (env : En3) (u_ : Unit) (W1 : WE) : Tr (E) := if C = D  then  (as_ env W1).bind  (fk2_e3IsET sub D) else  .stuck
theorem q_fk3_e3IsET {sub : SubT} {C : String} {D : String} {as_ : A3} {env : En3} {u_ : Unit} {W1 : WE} : fk3_e3IsET sub C D as_ env u_ W1 = if C = D  then  (as_ env W1).bind  (fk2_e3IsET sub D) else  .stuck := rfl
def fk4_e3IsET (sub : SubT) (a : Addr) (C : String) (D : String) (as_ : A3) (env : En3) (o : E) (W1 : WE) : Tr (E) := (ofO (isEty a o) W1).bind  (fk3_e3IsET sub C D as_ env)
theorem q_fk4_e3IsET {sub : SubT} {a : Addr} {C : String} {D : String} {as_ : A3} {env : En3} {o : E} {W1 : WE} : fk4_e3IsET sub a C D as_ env o W1 = (ofO (isEty a o) W1).bind  (fk3_e3IsET sub C D as_ env) := rfl
theorem q_e3IsET {sub : SubT} {a : Addr} {C : String} {D : String} {m : E3} {as_ : A3} {env : En3} {W : WE} : e3IsET sub a C D m as_ env W = (m env W).bind  (fk4_e3IsET sub a C D as_ env) := rfl
def kSeq (u : S3) (o : Out) (W : WE) : Tr Out := match o with
  | .nx e => u e W
  | o => .ret o W
def iteS (c : Bool) (s u : S3) (env : En3) (W : WE) : Tr Out := if c = true then s env W else u env W
def kIf (s u : S3) (env : En3) (c : Bool) (W : WE) : Tr Out := iteS c s u env W
def andT (c : Bool) (b : B3) (env : En3) (W : WE) : Tr Bool := if c = true then b env W else .ret false W
def orT (c : Bool) (b : B3) (env : En3) (W : WE) : Tr Bool := if c = true then .ret true W else b env W
def andE (c : Bool) (b : E3) (env : En3) (W : WE) : Tr E := if c = true then b env W else .ret (.bl false) W
def ifE (c : Bool) (a b : E3) (env : En3) (W : WE) : Tr E := if c = true then a env W else b env W
def kAnd (b : B3) (env : En3) (c : Bool) (W : WE) : Tr Bool := andT c b env W
def kOr (b : B3) (env : En3) (c : Bool) (W : WE) : Tr Bool := orT c b env W
def kAndV (b : E3) (env : En3) (c : Bool) (W : WE) : Tr E := andE c b env W
def kIfE (a b : E3) (env : En3) (c : Bool) (W : WE) : Tr E := ifE c a b env W
def kRun (o : Out) (W : WE) : Tr E := match o with
  | .nx _ => .ret .non W
  | .rt e => .ret e W
  | _ => .stuck
def kRunI (C : String) (o : Out) (W : WE) : Tr (List (Str × E)) := match o with
  | .nx env => (ofO (selfOf C env) W).bind fun fs W1 => .ret fs W1
  | _ => .stuck
section
variable {a b : B3} {x y : E3} {s u : S3} {c d : Bool} {env : En3} {W : WE} {e f : E} {N n : Nat} {es : List E} {C : String} {fs : List (Str × E)}
theorem q_s3Seq : s3Seq s u env W = (s env W).bind (kSeq u) := rfl
theorem kSeq_nx : kSeq u (.nx env) W = u env W := rfl
theorem kSeq_rt : kSeq u (.rt e) W = .ret (.rt e) W := rfl
theorem kSeq_bk : kSeq u (.bk env) W = .ret (.bk env) W := rfl
theorem kSeq_ct : kSeq u (.ct env) W = .ret (.ct env) W := rfl
theorem q_s3If : s3If a s u env W = (a env W).bind (kIf s u env) := rfl
theorem q_kIf : kIf s u env c W = iteS c s u env W := rfl
theorem iteS_t : iteS true s u env W = s env W := rfl
theorem iteS_f : iteS false s u env W = u env W := rfl
theorem q_b3And : b3And a b env W = (a env W).bind (kAnd b env) := rfl
theorem q_b3Or : b3Or a b env W = (a env W).bind (kOr b env) := rfl
theorem q_e3AndV : e3AndV x y env W = (b3T x env W).bind (kAndV y env) := rfl
theorem q_e3If : e3If a x y env W = (a env W).bind (kIfE x y env) := rfl
theorem q_kAnd : kAnd b env c W = andT c b env W := rfl
theorem q_kOr : kOr b env c W = orT c b env W := rfl
theorem q_kAndV : kAndV x env c W = andE c x env W := rfl
theorem q_kIfE : kIfE x y env c W = ifE c x y env W := rfl
theorem andT_t : andT true b env W = b env W := rfl
theorem andT_f : andT false b env W = .ret false W := rfl
theorem orT_t : orT true b env W = .ret true W := rfl
theorem orT_f : orT false b env W = b env W := rfl
theorem andE_t : andE true x env W = x env W := rfl
theorem andE_f : andE false x env W = .ret (.bl false) W := rfl
theorem ifE_t : ifE true x y env W = x env W := rfl
theorem ifE_f : ifE false x y env W = y env W := rfl
theorem q_runF : runF N n s es W = if es.length = n then (s (start3 N es) W).bind kRun else .stuck := rfl
theorem q_runI : runI C N n s es W = if es.length = n then (s (.sf (.obj C []) :: start3 (N - 1) es) W).bind (kRunI C) else .stuck := rfl
theorem kRun_nx : kRun (.nx env) W = .ret .non W := rfl
theorem kRun_rt : kRun (.rt e) W = .ret e W := rfl
theorem kRunI_nx {env : En3} : kRunI C (.nx env) W = (ofO (selfOf C env) W).bind .ret := rfl
theorem calmF_e {f : F3} : calmF f es W = (f es W).calm := rfl
theorem calmFi_e {f : Fi3} : calmFi f es W = (f es W).calm := rfl
theorem pik_n {l : List E} : pick [] l = [] := rfl
theorem pik_c {i : Nat} {is : List Nat} {l : List E} : pick (i :: is) l = (match l[i]? with | some x => x :: pick is l | none => pick is l) := by
  unfold pick
  rw [List.filterMap_cons]
  cases l[i]? <;> rfl
def kLcS (y : E) (W : WE) : Tr (Option E) := .ret (some y) W
def iteL (c : Bool) (m : E3) (env : En3) (W : WE) : Tr (Option E) := if c = true then (m env W).bind kLcS else .ret none W
def kLc2 (m : E3) (env : En3) (c : Bool) (W : WE) : Tr (Option E) := iteL c m env W
def kLc1 (b : B3) (m : E3) (env : En3) (W : WE) : Tr (Option E) := (b env W).bind (kLc2 m env)
theorem q_lcStep {g : G3} {m : E3} : lcStep g b m env e W = (g e env W).bind (kLc1 b m) := rfl
theorem q_kLc1 {m : E3} : kLc1 b m env W = (b env W).bind (kLc2 m env) := rfl
theorem q_kLc2 {m : E3} : kLc2 m env c W = iteL c m env W := rfl
theorem iteL_t {m : E3} : iteL true m env W = (m env W).bind kLcS := rfl
theorem iteL_f {m : E3} : iteL false m env W = .ret none W := rfl
theorem q_kLcS : kLcS e W = .ret (some e) W := rfl
def kTry (sub : SubT) (h : Hd3) (env : En3) (C : String) (fs : List (Str × E)) (W : WE) : Tr Out := hd3 sub h env C fs W
theorem q_s3Try {sub : SubT} {h : Hd3} : s3Try sub s h env W = (s env W).catch_ (kTry sub h env) := rfl
theorem catch_ret {α : Type} {a : α} {h : String → List (Str × E) → WE → Tr α} : (Tr.ret a W).catch_ h = .ret a W := rfl
theorem catch_exc {α : Type} {h : String → List (Str × E) → WE → Tr α} : (Tr.exc C fs W : Tr α).catch_ h = h C fs W := rfl
theorem q_kTry {sub : SubT} {h : Hd3} : kTry sub h env C fs W = hd3 sub h env C fs W := rfl
theorem hd3_as {sub : SubT} {D : String} {i : Nat} {S : Addr → String → List (Str × E) → S3} {r : Hd3} (h : sub C D = some true) {Q : Out → WE → Prop} {X : XE} (q : ∀ p, Sat (S p C fs (env.set i (.pl (.ety p))) W) (fun o W1 => Q (gon3 i o) W1) X) : Sat (hd3 sub (.as D i S r) env C fs W) Q X := by
  unfold hd3
  rw [h]
  exact fun p _ => sat_bind.mpr ((q p).mono (fun o W1 h => h) fun _ _ _ x => x)
theorem hd3_no {sub : SubT} {D : String} {i : Nat} {S : Addr → String → List (Str × E) → S3} {r : Hd3} (h : sub C D = some false) : hd3 sub (.as D i S r) env C fs W = hd3 sub r env C fs W := by
  rw [hd3, h]
theorem sat_calmX {α : Type} {t : Tr α} {Q : α → WE → Prop} {X : XE} (h : Sat t Q (fun _ _ _ => False)) : Sat t.calm Q X := calm_noX (X := X) h
end
end Fr
set_option Elab.async false
set_option linter.all false
set_option maxRecDepth 100000
set_option maxHeartbeats 4000000
set_option Elab.async false
set_option linter.all false
set_option maxRecDepth 100000
set_option maxHeartbeats 4000000
namespace Fr
open PySem PySem.Spec PyProof.Rows L2
section
variable {W : WE} {α : Type}
theorem nSg_go {c : Nat} {z : Str} : oNotInSg (.str (mkS [c])) (.str z) W = some (.bl (!decide (c ∈ tl z))) := rfl
theorem ixS_go {z : Str} {i c : Nat} (hz : z.length ≤ 16777216) (h : (tl z)[i]? = some c) : oIxS (.str z) (.int (i : Nat)) W = some (.str (mkS [c])) := by
  have e : vIxS (.str z) (.int (i : Nat)) = some (.str (mkS [c])) := by
    show (if z.length ≤ 16777216 then (atI (tl z) ((i : Nat) : Int)).map _ else none) = _
    rw [if_pos hz, atI_nat h]
    rfl
  show (vIxS (.str z) (.int (i : Nat))).bind fE = _
  rw [e]
  rfl
theorem join_go {cs : List Nat} (h : cs.length ≤ 16777216) : oJoin "" (.lst (cs.map fun c => E.str (mkS [c]))) W = some (.str (mkS cs)) := by
  have e : strsE (cs.map fun c => E.str (mkS [c])) = some (cs.map fun c => mkS [c]) := by
    have := strsE_map (ks := cs.map fun c => mkS [c])
    rw [List.map_map] at this
    exact this
  show (strsE (cs.map fun c => E.str (mkS [c]))).bind _ = _
  rw [e, Option.bind_some, join_ones, if_pos]
  rw [List.map_map, List.length_map]
  have : (cs.map ((fun x => x.length) ∘ fun c => mkS [c])).sum = cs.length := by
    clear h e
    induction cs with
    | nil => rfl
    | cons c cs ih =>
      rw [List.map_cons, List.sum_cons, ih, List.length_cons]
      show 1 + _ = _
      omega
  rw [this]
  show cs.length + cs.length * 0 ≤ _
  omega
theorem lenS_go {z : Str} (h : z.length ≤ 16777216) : oLenS [.str z] W = some (.int (z.length : Nat)) := by
  have e : vLenS [.str z] = some (.int (z.length : Nat)) := if_pos h
  show (vLenS [.str z]).bind fE = _
  rw [e]
  rfl
theorem take_go3 {b : Addr} {n : Nat} {W : WE} {m : Int} {Q : E → WE → Prop} {X : XE} (hb : Bg b n W) (hn : n < 1073741824) (h0 : 0 < m) (hm : m < 1073741824) (h : ∀ r : Nat, r < m.toNat → ∀ W', Bg b (n + 1) W' → Fm b W W' → Q (.int r) W') : Sat (f3_take [.cel b, .int m] W).calm Q X := take_sat hb hn h0 hm h
end
end Fr
namespace Fr
open PySem PySem.Spec PyProof.Rows L2
section
variable {W : WE}
theorem mod_go {i j : Int} (h : 0 < j) : oMod (.int i) (.int j) W = some (.int (i % j)) := by
  have e : vIC (fun _ j => decide (0 < j)) (fun i j => V.int (i % j)) (.int i) (.int j) = some (.int (i % j)) := by
    refine if_pos ?_
    exact decide_eq_true h
  show (vIC _ _ (.int i) (.int j)).bind fE = _
  rw [e]
  rfl
end
end Fr
set_option Elab.async false
set_option linter.all false
set_option maxRecDepth 100000
set_option maxHeartbeats 4000000
namespace Fr
open PySem PySem.Spec PyProof.Rows L2
@[irreducible] def Sa {α : Type} (t : Tr α) (Q : α → WE → Prop) (X : XE) : Prop := Sat t Q X
section
variable {α β : Type} {Q Q' : α → WE → Prop} {X X' : XE} {W : WE}
theorem sa_e {t : Tr α} : Sa t Q X = Sat t Q X := by unfold Sa; rfl
theorem Sa.to {t : Tr α} (h : Sa t Q X) : Sat t Q X := sa_e ▸ h
theorem Sa.of {t : Tr α} (h : Sat t Q X) : Sa t Q X := sa_e ▸ h
theorem Sa.mono {t : Tr α} (h : Sa t Q X) (f : ∀ a W, Q a W → Q' a W) (g : ∀ C fs W, X C fs W → X' C fs W) : Sa t Q' X' := .of (h.to.mono f g)
theorem Sa.imp {t : Tr α} (h : Sa t Q X) (f : ∀ a W, Q a W → Q' a W) : Sa t Q' X := h.mono f fun _ _ _ x => x
theorem sa_bnd {f : α → WE → Tr β} {Q : β → WE → Prop} {t : Tr α} : Sa (t.bind f) Q X = Sa t (fun a W => Sa (f a W) Q X) X := by
  rw [sa_e, sa_e, sat_bnd]
  simp only [sa_e]
theorem sa_ret {a : α} : Sa (.ret a W) Q X = Q a W := by rw [sa_e, sat_ret]
theorem sa_exc {C : String} {fs : List (Str × E)} : Sa (.exc C fs W) Q X = X C fs W := by rw [sa_e, sat_exc]
theorem lc_sa {g : G3} {b : B3} {m : E3} {env0 : En3} {X : XE} {I : Nat → List E → WE → Prop} {es : List E} {k : Nat} {acc : List E} {W : WE} {Q : List E → WE → Prop} (h0 : I k acc W) (hs : ∀ i e acc W, es[i]? = some e → I (k + i) acc W → Sa (lcStep g b m env0 e W) (fun o W1 => I (k + i + 1) (acc ++ o.toList) W1) X) (hq : ∀ ys W1, I (k + es.length) (acc ++ ys) W1 → Q ys W1) : Sa (lcT g b m env0 es W) Q X :=
  .of ((lc_sat h0 fun i e acc W he hi => (hs i e acc W he hi).to).mono hq fun _ _ _ x => x)
theorem for_sa {g : G3} {s : S3} {X : XE} {Q : Out → WE → Prop} {I : Nat → En3 → WE → Prop} {es : List E} {k : Nat} {env : En3} {W : WE} (h0 : I k env W) (hs : ∀ i e env W, es[i]? = some e → I (k + i) env W → Sa (g e env W) (fun env1 W1 => Sa (s env1 W1) (fun o W2 => match o with
    | .nx e1 => I (k + i + 1) e1 W2
    | .ct e1 => I (k + i + 1) e1 W2
    | .bk e1 => Q (.nx e1) W2
    | .rt d => Q (.rt d) W2) X) X) (hq : ∀ env W, I (k + es.length) env W → Q (.nx env) W) : Sa (forT g s es env W) Q X :=
  .of (for_sat h0 (fun i e env W he hi => (hs i e env W he hi).to.mono (fun env1 W1 h => h.to) fun _ _ _ x => x) hq)
theorem take_sa {b : Addr} {n : Nat} {W : WE} {m : Int} {Q : E → WE → Prop} {X : XE} (hb : Bg b n W) (hn : n < 1073741824) (h0 : 0 < m) (hm : m < 1073741824) (h : ∀ r : Nat, r < m.toNat → ∀ W', Bg b (n + 1) W' → Fm b W W' → Q (.int r) W') : Sa (f3_take [.cel b, .int m] W).calm Q X := .of (take_go3 hb hn h0 hm h)
theorem calm_sa {t : Tr α} (h : Sa t Q (fun _ _ _ => False)) : Sa t.calm Q X := .of (sat_calmX h.to)
end
section
variable {s u : S3} {c : Bool} {env : En3} {W : WE} {X : XE} {C : String} {fs : List (Str × E)}
theorem hd3_sa {sub : SubT} {D : String} {i : Nat} {S : Addr → String → List (Str × E) → S3} {r : Hd3} (h : sub C D = some true) {Q : Out → WE → Prop} (q : ∀ p, Sa (S p C fs (env.set i (.pl (.ety p))) W) (fun o W1 => Q (gon3 i o) W1) X) : Sa (hd3 sub (.as D i S r) env C fs W) Q X := .of (hd3_as h fun p => (q p).to)
end
end Fr
namespace Fr
open PySem PySem.Spec PyProof.Rows L2
theorem cell_sa {ns : List Int} {k : Int} {W : WE} {Q : E → WE → Prop} {X : XE} (h : 0 ≤ k ∧ k < 1000) (q : ∀ r : Int, Q (.int r) W) : Sa (f3_cell [.scr ns, .int k] W).calm Q X := .of (by
  unfold f3_cell
  dsimp only
  rw [if_pos h]
  exact fun r => q r)
theorem bag_sa {r : Int} {W : WE} {Q : E → WE → Prop} {X : XE} (q : ∀ p, W p = none → Q (.cel p) (W.set p (.bag 0))) : Sa (f3_bag [.int r] W).calm Q X := .of (fun p hp => q p hp)
theorem lenScr_go {ns : List Int} {W : WE} : oLen [.scr ns] W = some (.int (ns.length : Nat)) := rfl
end Fr
set_option Elab.async false
set_option linter.all false
set_option maxRecDepth 100000
set_option maxHeartbeats 4000000
namespace PySem.SeqAt
open AutoSeq1 (wpAny_loadPart')
open MeetsSeq MeetsSeq2 MeetsSeq3 SeqRoads2
def MeetsAt (prog : Program) (w : World) (t : Sem Fin) (S : Spec) : Prop :=
  ∀ (A : Around) (R : Result → Shared → Prop) (s : Shared), S A R s →
    wpAny (model prog w) A.in1 t (fun fin s' => match fin with | .done f => R (.ok f) s' | .again c' => c'.quiet = true ∧ codeAny (model prog w) A c' R s') (fun e s' => R (.error e) s') s
/-- two lists of m items each stand at l and b -/
def Two (l b : Addr) (m : Nat) (P : Array Value → Array Value → Prop) (s : Shared) : Prop :=
  ∃ items items2 n n2 dd dd2 sl sl2, s.heap.get? l = some { cls := .type "list", dict := dd, data := .seq items n, slots := sl } ∧ s.heap.get? b = some { cls := .type "list", dict := dd2, data := .seq items2 n2, slots := sl2 } ∧ items.size = m ∧ items2.size = m ∧ P items items2
/-- == of two items, with all that it may do -/
def EqJ (prog : Program) (w : World) (E0 : Value → Shared → Prop) (A : Around) (y x : Value) (T F : Shared → Prop) (s : Shared) : Prop :=
  wpAny (model prog w) A (eqBool y x) (fun r s' => if r = true then T s' else F s') E0 s
theorem eq_loopJ {prog : Program} {w : World} {E0 : Value → Shared → Prop} (l b : Addr) (m : Nat) (J : Around → Nat → Shared → Prop) (F : Around → Shared → Prop)
    (hJ : ∀ A j s, J A j s → Two l b m (fun i1 i2 => ∀ (h1 : j < i1.size) (h2 : j < i2.size), EqJ prog w E0 A.in1 i1[j] i2[j] (J A (j + 1)) (F A) s) s)
    (hF : ∀ A s, F A s → Two l b m (fun _ _ => True) s) (k : Nat) :
    ∀ i : Nat, m - i = k → MeetsAt prog w (Builtin.«list.__eq__.loop» ⟨[.ref l, .ref b, rawInt i, rawInt 2], []⟩)
      (fun A R s => J A i s ∧ i ≤ m ∧ (∀ s', J A m s' → R (.ok (.ret (.bool true))) s') ∧ (∀ s', F A s' → R (.ok (.ret (.bool false))) s') ∧ ∀ e s', E0 e s' → R (.error e) s') := by
  induction k with
  | zero =>
    intro i hk A R s h
    obtain ⟨h0, hi, ht, hf, hE⟩ := h
    obtain ⟨items, items2, n, n2, dd, dd2, sl, sl2, hl, hb, z1, z2, _⟩ := hJ _ _ _ h0
    have e : i = m := by omega
    have h1 := ht s (e ▸ h0)
    obtain ⟨hp, g, d, tk, os⟩ := s
    wp_walk using wpAny_loadPart' hl, wpAny_loadPart' hb
    have hi1 : items[((i : Nat) : Int).toNat]? = none := by simp; omega
    have hi2 : items2[((i : Nat) : Int).toNat]? = none := by simp; omega
    rw [hi1, hi2]
    wp_walk using wpAny_loadPart' hl, wpAny_loadPart' hb
    show R (.ok (.ret (.bool (items.size == items2.size)))) _
    rw [z1, z2]
    simpa using h1
  | succ k ih =>
    intro i hk A R s h
    obtain ⟨h0, hi, ht, hf, hE⟩ := h
    obtain ⟨items, items2, n, n2, dd, dd2, sl, sl2, hl, hb, z1, z2, he⟩ := hJ _ _ _ h0
    have hlt : i < items.size := by omega
    have hlt2 : i < items2.size := by omega
    have hcmp := he hlt hlt2
    obtain ⟨hp, g, d, tk, os⟩ := s
    wp_walk using wpAny_loadPart' hl, wpAny_loadPart' hb
    have hi1 : items[((i : Nat) : Int).toNat]? = some items[i] := by simp [hlt]
    have hi2 : items2[((i : Nat) : Int).toNat]? = some items2[i] := by simp [hlt2]
    have hc : ((i : Int) + 1) = ((i + 1 : Nat) : Int) := by push_cast; rfl
    rw [hi1, hi2]
    refine wpAny_bind (wpAny_mono hcmp (fun r s' hr => ?_) fun _ _ z => hE _ _ z)
    cases r with
    | true =>
      have h1 : J A (i + 1) s' := by simpa using hr
      obtain ⟨hp, g, d, tk, os⟩ := s'
      wp_walk
      rw [hc]
      exact ⟨plainId_quiet plain_eq_loop _, codeAny_builtin entry_eq_loop (by
        rw [Around.under_plainId plain_eq_loop _]
        exact ih (i + 1) (by omega) A R _ ⟨h1, by omega, ht, hf, hE⟩)⟩
    | false =>
      have h1 : F A s' := by simpa using hr
      obtain ⟨items', items2', n', n2', dd', dd2', sl', sl2', hl', hb', z1', z2', _⟩ := hF _ _ h1
      have h2 := hf _ h1
      obtain ⟨hp, g, d, tk, os⟩ := s'
      have hi1' : items'[((i : Nat) : Int).toNat]? = some (items'[i]'(by omega)) := by simp [show i < items'.size by omega]
      have hi2' : items2'[((i : Nat) : Int).toNat]? = some (items2'[i]'(by omega)) := by simp [show i < items2'.size by omega]
      wp_walk using wpAny_loadPart' hl', wpAny_loadPart' hb'
      rw [hi1', hi2']
      wp_walk
      exact h2
theorem list_eqJ {prog : Program} {w : World} {E0 : Value → Shared → Prop} (l b : Addr) (m : Nat) (J : Around → Nat → Shared → Prop) (F : Around → Shared → Prop)
    (hJ : ∀ A j s, J A j s → Two l b m (fun i1 i2 => ∀ (h1 : j < i1.size) (h2 : j < i2.size), EqJ prog w E0 A.in1 i1[j] i2[j] (J A (j + 1)) (F A) s) s)
    (hF : ∀ A s, F A s → Two l b m (fun _ _ => True) s) :
    MeetsAt prog w (Builtin.«list.__eq__» ⟨[.ref l, .ref b], []⟩)
      (fun A R s => J A 0 s ∧ (∀ s', J A m s' → R (.ok (.ret (.bool true))) s') ∧ (∀ s', F A s' → R (.ok (.ret (.bool false))) s') ∧ ∀ e s', E0 e s' → R (.error e) s') := by
  intro A R s h
  obtain ⟨h0, ht, hf, hE⟩ := h
  have h1 := eq_loopJ (prog := prog) (w := w) l b m J F hJ hF m 0 (by omega) A R s ⟨h0, by omega, ht, hf, hE⟩
  obtain ⟨items, items2, n, n2, dd, dd2, sl, sl2, hl, hb, z1, z2, he⟩ := hJ _ _ _ h0
  obtain ⟨hp, g, d, tk, os⟩ := s
  have f3 := AutoSeq1.sub_list_list
  have hne : ¬ (items.size != items2.size) = true := by simp [z1, z2]
  wp_walk using wpAny_loadPart' hl, wpAny_loadPart' hb
  exact ⟨plainId_quiet plain_eq_loop _, codeAny_builtin entry_eq_loop (by
    rw [Around.under_plainId plain_eq_loop _]
    exact h1)⟩
theorem tuple_eqJ {prog : Program} {w : World} {E0 : Value → Shared → Prop} (l b : Addr) (items items2 : Array Value) (n n2 : Nat) (dd dd2 : Option Addr) (sl sl2 : Array (Option Value)) (hsz : items.size = items2.size) (J : Around → Nat → Shared → Prop) (F : Around → Shared → Prop)
    (hJ : ∀ A j s (h1 : j < items.size) (h2 : j < items2.size), J A j s → EqJ prog w E0 A.in1 items[j] items2[j] (J A (j + 1)) (F A) s) :
    MeetsAt prog w (Builtin.«tuple.__eq__» ⟨[.ref l, .ref b], []⟩)
      (fun A R s => s.heap.get? l = some { cls := .type "tuple", dict := dd, data := .seq items n, slots := sl } ∧ s.heap.get? b = some { cls := .type "tuple", dict := dd2, data := .seq items2 n2, slots := sl2 } ∧
        J A 0 s ∧ (∀ s', J A items.size s' → R (.ok (.ret (.bool true))) s') ∧ (∀ s', F A s' → R (.ok (.ret (.bool false))) s') ∧ ∀ e s', E0 e s' → R (.error e) s') := by
  intro A R s h
  obtain ⟨hl, hb, h0, ht, hf, hE⟩ := h
  have f2 := AutoSeq1.sub_tuple_tuple
  have hZ : (items.toList.zip items2.toList).length = items.size := by simp [hsz]
  suffices hs : wpAny (model prog w) A.in1 (Builtin.«tuple.__eq__» ⟨[.ref l, .ref b], []⟩) (fun fin s' => ∃ v, fin = .done (.ret v) ∧ R (.ok (.ret v)) s') (fun e s' => R (.error e) s') s from
    wpAny_mono hs (fun fin s' h' => by obtain ⟨v, rfl, hv⟩ := h'; exact hv) fun _ _ x => x
  obtain ⟨hp, g, d, tk, os⟩ := s
  wp_walk using wpAny_loadPart' hl, wpAny_loadPart' hb, wpAny_forIn_list _ (fun rest b s' => b.1 = none ∧ ∃ i, rest = (items.toList.zip items2.toList).drop i ∧ i ≤ items.size ∧ J A i s') _
  case turn =>
    rintro ⟨y, x⟩ rest b s' ⟨hb', i, hz, hi, hR⟩
    have hlt : i < (items.toList.zip items2.toList).length := by
      rcases Nat.lt_or_ge i (items.toList.zip items2.toList).length with h' | h'
      · exact h'
      · rw [List.drop_of_length_le h'] at hz; cases hz
    have h1 : i < items.size := by omega
    have h2 : i < items2.size := by omega
    rw [List.drop_eq_getElem_cons hlt] at hz
    injection hz with hyx hrest
    have hy : y = items[i] := by have := congrArg Prod.fst hyx; simpa using this
    have hx : x = items2[i] := by have := congrArg Prod.snd hyx; simpa using this
    subst hy hx
    refine wpAny_bind (wpAny_mono (hJ A i s' h1 h2 hR) (fun r s2 hr => ?_) fun _ _ z => hE _ _ z)
    cases r with
    | true =>
      have h3 : J A (i + 1) s2 := by simpa using hr
      obtain ⟨hp, g, d, tk, os⟩ := s2
      wp_walk
      exact ⟨rfl, i + 1, hrest, by omega, h3⟩
    | false =>
      have h3 : F A s2 := by simpa using hr
      have h4 := hf _ h3
      obtain ⟨hp, g, d, tk, os⟩ := s2
      wp_walk
      exact ⟨_, rfl, h4⟩
  case fin =>
    rintro ⟨b1, b2⟩ s' ⟨hb', i, hz, hi, hR⟩
    simp only at hb'
    subst hb'
    have hge : i = items.size := by
      rcases Nat.lt_or_ge i (items.toList.zip items2.toList).length with h' | h'
      · rw [List.drop_eq_getElem_cons h'] at hz; cases hz
      · omega
    have h4 := ht _ (hge ▸ hR)
    obtain ⟨hp, g, d, tk, os⟩ := s'
    wp_walk
    refine ⟨_, rfl, ?_⟩
    simpa [Builtin.Tuple.tupleCompareSizes, hsz] using h4
  case h =>
    exact ⟨rfl, 0, rfl, Nat.zero_le _, h0⟩
section
variable {prog : Program} {w : World} {A : Around} {E E0 : Value → Shared → Prop} {s : Shared}
theorem call_meetsAt {T : String} {name : Str} {id : String} {B : Builtin} {self : Value} {rest : List Value} {S : Spec} {Q : Value → Shared → Prop} (slot : Slot T name id) (hT : s.TypeIs self T)
    (entry : entryFor table id = some B) (args : argsOk id ⟨self :: rest, []⟩) (g : MeetsAt prog w (B ⟨self :: rest, []⟩) S) (h : S A (wants Q E) s) :
    wpAny (model prog w) A (call (.builtin id) (self :: rest)) Q E s :=
  wpAny_call (codeAny_call_builtin slot.plain entry (slot.check _ _ _ _ _ _ _ _ hT args (g A (wants Q E) s h)))
theorem richCompare_meetsAt {T id : String} {op : CmpOp} {B : Builtin} {a b : Value} {S : Spec} {Q : Value → Shared → Prop} (ha : s.TypeIs a T) (hb : s.TypeIs b T)
    (slot : Slot T (cmpInfo op).2.1 id) (entry : entryFor table id = some B) (args : argsOk id ⟨[a, b], []⟩) (g : MeetsAt prog w (B ⟨[a, b], []⟩) S)
    (h : S A (wants (fun v s' => v ≠ .notImplemented ∧ Q v s') E) s) (hu : A.units < cLine) : wpAny (model prog w) A (richCompare op a b) Q E s :=
  wpAny_richCompare_same_room ha hb slot (call_meetsAt slot ha entry args g h) hu
/-- the outcome of a comparison -/
def RcJ (prog : Program) (w : World) (E0 : Value → Shared → Prop) (A : Around) (y x : Value) (T F : Shared → Prop) (s : Shared) : Prop :=
  ∀ Q : Value → Shared → Prop, (∀ s', T s' → Q (.bool true) s') → (∀ s', F s' → Q (.bool false) s') → wpAny (model prog w) A (richCompare .Eq y x) Q E0 s
theorem EqJ.same {v : Value} {T F : Shared → Prop} (h : T s) : EqJ prog w E0 A v v T F s := EqAt.same v prog w _ _ (by simpa using h)
theorem RcJ.lists {l b : Addr} {m : Nat} {J : Around → Nat → Shared → Prop} {F : Around → Shared → Prop} {T' F' : Shared → Prop} (hu : A.units < cLine)
    (hJ : ∀ A j s, J A j s → Two l b m (fun i1 i2 => ∀ (h1 : j < i1.size) (h2 : j < i2.size), EqJ prog w E0 A.in1 i1[j] i2[j] (J A (j + 1)) (F A) s) s)
    (hF : ∀ A s, F A s → Two l b m (fun _ _ => True) s) (h0 : J A 0 s) (ht : ∀ s, J A m s → T' s) (hf : ∀ s, F A s → F' s) : RcJ prog w E0 A (.ref l) (.ref b) T' F' s := fun Q qt qf => by
  obtain ⟨items, items2, n, n2, dd, dd2, sl, sl2, hl, hb, _⟩ := hJ _ _ _ h0
  exact richCompare_meetsAt (op := .Eq) ⟨_, hl, rfl⟩ ⟨_, hb, rfl⟩ PySem.F.slot_list_eq PySem.F.entry_list_eq (PySem.F.args_list_eq_2 _ _) (list_eqJ l b m J F hJ hF)
    ⟨h0, fun s' j => ⟨(fun x => nomatch x), qt _ (ht _ j)⟩, fun s' j => ⟨(fun x => nomatch x), qf _ (hf _ j)⟩, fun _ _ z => z⟩ hu
theorem RcJ.lists_len {l b : Addr} {items items2 : Array Value} {T F : Shared → Prop} (hl : s.heap.IsList l items) (hb : s.heap.IsList b items2) (hsz : (items.size != items2.size) = true) (hu : A.units < cLine) (h : F s) : RcJ prog w E0 A (.ref l) (.ref b) T F s :=
  fun Q qt qf => RcAt.lists_lengths hl hb hsz hu prog w _ Q (qf _ h)
theorem RcJ.tuples {l b : Addr} {items items2 : Array Value} {J : Around → Nat → Shared → Prop} {F : Around → Shared → Prop} {T' F' : Shared → Prop} (hl : s.heap.IsTuple l items) (hb : s.heap.IsTuple b items2) (hu : A.units < cLine) (hsz : items.size = items2.size)
    (hJ : ∀ A j s (h1 : j < items.size) (h2 : j < items2.size), J A j s → EqJ prog w E0 A.in1 items[j] items2[j] (J A (j + 1)) (F A) s) (h0 : J A 0 s) (ht : ∀ s, J A items.size s → T' s) (hf : ∀ s, F A s → F' s) : RcJ prog w E0 A (.ref l) (.ref b) T' F' s := fun Q qt qf => by
  obtain ⟨⟨cls, dd, data, sl⟩, ho, hc, n, hd⟩ := id hl
  obtain ⟨⟨cls2, dd2, data2, sl2⟩, ho2, hc2, n2, hd2⟩ := id hb
  simp only at hc hd hc2 hd2
  subst hc hd hc2 hd2
  exact richCompare_meetsAt (op := .Eq) ⟨_, ho, rfl⟩ ⟨_, ho2, rfl⟩ PySem.F.slot_tuple_eq PySem.F.entry_tuple_eq (PySem.F.args_tuple_eq_2 _ _) (tuple_eqJ l b items items2 n n2 dd dd2 sl sl2 hsz J F hJ)
    ⟨ho, ho2, h0, fun s' j => ⟨(fun x => nomatch x), qt _ (ht _ j)⟩, fun s' j => ⟨(fun x => nomatch x), qf _ (hf _ j)⟩, fun _ _ z => z⟩ hu
end
end PySem.SeqAt
namespace PySem.W
open Lean Elab Tactic Meta PySem PySem.Calls PyProof.Rows PyProof.V PySem.Spec
section
variable {prog : Program} {w : World} {K : Type} [DecidableEq K] {knd : KeyKind prog w K} {A : Around} {E0 : Value → Shared → Prop} {s : Shared}
theorem samePairsJ {nm : String} {a b : Addr} {ka kb : List (K × Value)} {oa ob : Obj} {es es' : Array DictEntry} {ep ep' : Nat} {J : Nat → Shared → Prop} {F : Shared → Prop} {Q : Bool → Shared → Prop} (ha : (a == sysModules) = false) (hb : (b == sysModules) = false)
    (hda : oa.data = .dict es ep) (hdb : ob.data = .dict es' ep')
    (da : ∀ i s, J i s → s.heap.get? a = some oa ∧ s.heap.get? b = some ob)
    (dA : s.heap.DictOf knd a ka) (dB : s.heap.DictOf knd b kb) (hl : ka.length = kb.length)
    (hits : ∀ i s k v, J i s → ka[i]? = some (k, v) → match valueAt kb k with
      | none => F s
      | some y => SeqAt.EqJ prog w E0 A v y (J (i + 1)) F s)
    (h0 : J 0 s) (ht : ∀ s, J ka.length s → Q true s) (hf : ∀ s, F s → Q false s) :
    wpAny (model prog w) A (Builtin.Dict.samePairs nm a b) Q E0 s := by
  obtain ⟨hoa, hob⟩ := da _ _ h0
  obtain ⟨oa', es1, ep1, hoa', _, hda', hka, hpa, _⟩ := dA
  rw [hoa] at hoa'
  cases hoa'
  rw [hda] at hda'
  cases hda'
  obtain ⟨ob', es2, ep2, hob', _, hdb', hkb, hpb, _⟩ := dB
  rw [hob] at hob'
  cases hob'
  rw [hdb] at hdb'
  cases hdb'
  have hla : ka.length = es.size := by rw [← hpa.length]; exact Array.length_toList
  have hlb : kb.length = es'.size := by rw [← hpb.length]; exact Array.length_toList
  have hfind : ∀ k, findBy knd.is es' k = valueAt kb k := fun k => by
    rw [← hpb.find k]
    clear hlb hpb hkb hdb hob
    obtain ⟨l⟩ := es'
    simp [findBy]
  unfold Builtin.Dict.samePairs Builtin.Dict.showsAll
  rw [if_neg (show ¬ (a == sysModules) = true by rw [ha]; exact Bool.false_ne_true), if_neg (show ¬ (b == sysModules) = true by rw [hb]; exact Bool.false_ne_true)]
  refine wpAny_bind (wpAny_pure (wpAny_bind (wpAny_pure ?_)))
  refine wpAny_bind (wpAny_dictEntries hoa hda ?_)
  dsimp only
  refine wpAny_bind (wpAny_dictEntries hob hdb ?_)
  have hsz : es.size = es'.size := by omega
  rw [if_neg (by rw [hsz]; simp)]
  refine wpAny_bind (wpAny_dictEpoch hoa hda ?_)
  refine wpAny_bind ?_
  rw [Std.Legacy.Range.forIn_eq_forIn_range']
  simp only [Std.Legacy.Range.size, Nat.sub_zero, Nat.add_sub_cancel, Nat.div_one]
  refine wpAny_forIn_list _
    (fun rest q s' => q = (none, ()) ∧ ∃ i, rest = List.range' i (es.size - i) ∧ i ≤ es.size ∧ J i s')
    _ ?_ ?_ _ _ ⟨rfl, 0, by simp, Nat.zero_le _, h0⟩
  · rintro x rest q s' ⟨rfl, i, hr, hi, hj0⟩
    have hlt : i < es.size := by
      rcases Nat.lt_or_ge i es.size with h | h
      · exact h
      · rw [Nat.sub_eq_zero_of_le h] at hr; simp at hr
    obtain ⟨rfl, hrest⟩ : x = i ∧ rest = List.range' (i + 1) (es.size - (i + 1)) := by
      have e : es.size - i = (es.size - (i + 1)) + 1 := by omega
      rw [e, List.range'_succ] at hr
      injection hr with h1 h2
      exact ⟨h1, h2⟩
    obtain ⟨hoa, hob⟩ := da _ _ hj0
    refine wpAny_bind (wpAny_dictEntries hoa hda ?_)
    rw [Array.getElem?_eq_getElem hlt]
    have hlt' : x < ka.length := by rw [hla]; exact hlt
    obtain ⟨k, v, hkv⟩ : ∃ k v, ka[x] = (k, v) := ⟨_, _, rfl⟩
    obtain ⟨hkey, hval⟩ := hpa.get? (i := x) (e := es[x]) (k := k) (v := v) (by rw [Array.getElem?_toList]; exact Array.getElem?_eq_getElem hlt) (by rw [List.getElem?_eq_getElem hlt', hkv])
    obtain ⟨k', hk', hh⟩ := hka es[x] (Array.getElem_mem hlt)
    have ekk : k' = k := knd.inj _ _ _ hk' hkey
    rw [ekk] at hh
    have hpre := hits x s' k v hj0 (by rw [List.getElem?_eq_getElem hlt', hkv])
    show wpAny _ _ (holding [es[x].key, es[x].val] _ >>= _) _ _ _
    rw [hh]
    refine wpAny_bind (wpAny_holding (wpAny_bind (wpAny_dictFind_of hkey hob hdb hkb ?_)))
    cases hj : es'.findIdx? fun e => knd.is k e.key with
    | none =>
      have hn : valueAt kb k = none := by rw [← hfind k, findBy_of_findIdx?, hj]
      rw [hn] at hpre
      refine wpAny_pure ?_
      show wpAny _ _ (if (!false) = true then _ else _) _ _ _
      rw [if_pos (by decide)]
      exact wpAny_pure (wpAny_pure (hf _ hpre))
    | some j =>
      obtain ⟨hjlt, _, _⟩ := Array.findIdx?_eq_some_iff_getElem.mp hj
      have hv' : valueAt kb k = some es'[j].val := by
        rw [← hfind k, findBy_of_findIdx?, hj]
        simp [Array.getElem?_eq_getElem hjlt]
      rw [hv'] at hpre
      refine wpAny_bind (wpAny_dictEntries hob hdb ?_)
      rw [Array.getElem?_eq_getElem hjlt]
      have he : SeqAt.EqJ prog w E0 A es[x].val es'[j].val (J (x + 1)) F s' := by rw [hval]; exact hpre
      refine wpAny_holding (wpAny_mono he (fun r s2 hr => ?_) fun _ _ z => z)
      cases r with
      | false =>
        have h3 : F s2 := by simpa using hr
        show wpAny _ _ (if (!false) = true then _ else _) _ _ _
        rw [if_pos (by decide)]
        exact wpAny_pure (wpAny_pure (hf _ h3))
      | true =>
        have h3 : J (x + 1) s2 := by simpa using hr
        obtain ⟨hoa, hob⟩ := da _ _ h3
        show wpAny _ _ (if (!true) = true then _ else _) _ _ _
        rw [if_neg (by decide)]
        refine wpAny_bind (wpAny_dictEpoch hoa hda ?_)
        rw [if_neg (by simp)]
        exact wpAny_pure ⟨rfl, x + 1, hrest, hlt, h3⟩
  · rintro q s' ⟨rfl, i, hr, hi, hj0⟩
    have hin : i = es.size := by
      rcases Nat.lt_or_ge i es.size with h | h
      · have e : es.size - i = (es.size - (i + 1)) + 1 := by omega
        rw [e, List.range'_succ] at hr; exact nomatch hr
      · exact Nat.le_antisymm hi h
    refine wpAny_pure ?_
    rw [hin, ← hla] at hj0
    exact ht _ hj0
theorem rcJ_dicts {a b : Addr} {ka kb : List (K × Value)} {oa ob : Obj} {es es' : Array DictEntry} {ep ep' : Nat} {J : Nat → Shared → Prop} {F T' F' : Shared → Prop} (ha : (a == sysModules) = false) (hb : (b == sysModules) = false)
    (hda : oa.data = .dict es ep) (hdb : ob.data = .dict es' ep')
    (da : ∀ i s, J i s → s.heap.get? a = some oa ∧ s.heap.get? b = some ob)
    (dA : s.heap.DictOf knd a ka) (dB : s.heap.DictOf knd b kb) (hl : ka.length = kb.length) (hu : A.units < cLine)
    (hits : ∀ i s k v, J i s → ka[i]? = some (k, v) → match valueAt kb k with
      | none => F s
      | some y => SeqAt.EqJ prog w E0 A.in1 v y (J (i + 1)) F s)
    (h0 : J 0 s) (ht : ∀ s, J ka.length s → T' s) (hf : ∀ s, F s → F' s) : SeqAt.RcJ prog w E0 A (.ref a) (.ref b) T' F' s := fun Q qt qf => by
  refine wpAny_richCompare_same_room (op := .Eq) dA.typeIs dB.typeIs PySem.F.slot_dict_eq (wpAny_call_entry PySem.F.slot_dict_eq dA.typeIs PySem.F.entry_dict_eq ?_ (PySem.F.args_dict_eq_2 _ _)) hu
  show wpAny _ _ (Builtin.Dict.dictSlotArgs "__eq__" ⟨[.ref a, .ref b], []⟩ >>= _) _ _ s
  refine wpAny_bind ?_
  unfold Builtin.Dict.dictSlotArgs
  refine wpAny_bind (wpAny_notOrdered_dict dA.typeIs ?_)
  show wpAny _ _ (pure (Value.ref a, Value.ref b)) _ _ s
  refine wpAny_pure ?_
  refine wpAny_bind (wpAny_isInstance (T := "dict") dB.typeIs PySem.F.sub_dict_dict ?_)
  simp only [Bool.not_true, Bool.false_eq_true, if_false]
  refine wpAny_bind (wpAny_pure (wpAny_bind (wpAny_pure ?_)))
  refine wpAny_bind (samePairsJ (J := J) (F := F) ha hb hda hdb da dA dB hl hits h0 (fun s' j => ?_) fun s' j => ?_)
  · exact wpAny_pure ⟨_, rfl, (fun x => nomatch x), qt _ (ht _ j)⟩
  · exact wpAny_pure ⟨_, rfl, (fun x => nomatch x), qf _ (hf _ j)⟩
end
end PySem.W
set_option Elab.async false
set_option linter.all false
set_option maxRecDepth 100000
set_option maxHeartbeats 4000000
namespace Fr
open PySem PySem.Spec PyProof.Rows L2
theorem call_none {prog : Program} {w : World} {A : Around} {E : Value → Shared → Prop} {s : Shared} {x : Addr} {Q : Value → Shared → Prop} (h : Q .notImplemented s) : wpAny (model prog w) A (call (.builtin "NoneType.__eq__") [.none, .ref x]) Q E s := by
  refine wpAny_call_entry PySem.F.slot_NoneType_eq (T := "NoneType") rfl PySem.F.entry_NoneType_eq ?_ (PySem.F.args_NoneType_eq_2 _ _)
  unfold PySem.Builtin.«NoneType.__eq__»
  show wpAny _ _ (pure (Value.none, [Value.ref x]) >>= _) _ _ _
  refine wpAny_bind (wpAny_pure ?_)
  dsimp only
  exact wpAny_pure ⟨_, rfl, h⟩
theorem tryCmp_K {prog : Program} {w : World} {A : Around} {E : Value → Shared → Prop} {s : Shared} {K : PySem.W.Frag} {x C f : Addr} {ox : Obj} {od : Option Obj} {b : Value} {Q : Option Value → Shared → Prop} (kin : K.In s.heap) (J : PySem.W.InstAt s.heap x ox C od) (hf : PySem.W.findIn K (.ref C) "__eq__" = some (some (.ref f))) (fn : PySem.W.isFn K (.ref f) = true)
    (h : wpAny (model prog w) A (call (.ref f) [.ref x, b]) (PySem.W.CmpBack fun v s' => Q (some v) s') E s) : wpAny (model prog w) A (tryCompare (.ref x) "__eq__" b) Q E s := by
  unfold tryCompare
  refine wpAny_bind (PySem.W.ifBound_K kin J hf fn (wpAny_mono h (fun v s' hv => ?_) fun _ _ z => z))
  cases v <;> first | exact hv.elim | exact wpAny_pure hv
theorem cmpN_K {prog : Program} {w : World} {A : Around} {E : Value → Shared → Prop} {s : Shared} {K : PySem.W.Frag} {x C f : Addr} {ox : Obj} {od : Option Obj} {Q : Value → Shared → Prop} (hu : A.units < cLine) (kin : K.In s.heap) (J : PySem.W.InstAt s.heap x ox C od) (hm : PySem.W.mroIn K C (.type "NoneType") = some false) (hf : PySem.W.findIn K (.ref C) "__eq__" = some (some (.ref f))) (fn : PySem.W.isFn K (.ref f) = true)
    (h : wpAny (model prog w) A (call (.ref f) [.ref x, .none]) (PySem.W.CmpBack Q) E s) : wpAny (model prog w) A (richCompare .Eq .none (.ref x)) Q E s := by
  unfold richCompare
  refine wpAny_holding ?_
  refine wpAny_bind (wpAny_cRoomFor hu ?_)
  have ho : oneThing? .Eq .none (.ref x) = none := rfl
  rw [ho]
  dsimp only [cmpInfo]
  refine wpAny_bind (wpAny_typeOf (T := "NoneType") rfl ?_)
  refine wpAny_bind (wpAny_typeOf_ref J.at_ ?_)
  rw [J.cls, if_pos (show (Value.type "NoneType" != Value.ref C) = true from rfl)]
  refine wpAny_bind ((PySem.W.looks_mroIn kin hm).here ?_)
  rw [if_neg (by decide)]
  refine wpAny_bind (wpAny_tryCompare_declines (T := "NoneType") rfl PySem.F.slot_NoneType_eq (call_none ⟨rfl, ?_⟩))
  dsimp only
  rw [if_pos (show (!false) = true from rfl)]
  refine wpAny_bind (tryCmp_K kin J hf fn (wpAny_mono h (fun v s' hv => ?_) fun _ _ z => z))
  cases v <;> first | exact hv.elim | exact wpAny_pure hv
end Fr
set_option Elab.async false
set_option linter.all false
set_option maxRecDepth 100000
set_option maxHeartbeats 4000000
namespace Fr
open PySem PySem.Spec PyProof.Rows L2
mutual
/-- at most n deep; S: what stays of the world; tb: the classes and their __eq__ -/
inductive EqR (K : PySem.W.Frag) (S : Wd → Prop) (tb : Addr → Sp2 → Prop) : Nat → D → D → Bool → Prop
  | data {n : Nat} {a b : D} {p q : PyData} : Py 64 a p → Py 64 b q → EqR K S tb n a b (PyData.eqv p q)
  | lstN {n : Nat} {xs ys : List D} : xs.length ≠ ys.length → EqR K S tb n (.lst xs) (.lst ys) false
  | lst {n : Nat} {xs ys : List D} {c : Bool} : EqRL K S tb n xs ys c → xs.length = ys.length → EqR K S tb (n + 1) (.lst xs) (.lst ys) c
  | tup {n : Nat} {xs ys : List D} {c : Bool} : EqRL K S tb n xs ys c → xs.length = ys.length → EqR K S tb (n + 1) (.tup xs) (.tup ys) c
  | dicN {n : Nat} {xs ys : List (Key × D)} : xs.length ≠ ys.length → EqR K S tb n (.dic xs) (.dic ys) false
  | dic {n : Nat} {xs ys : List (Key × D)} {c : Bool} : EqRK K S tb n ys xs c → xs.length = ys.length → EqR K S tb (n + 1) (.dic xs) (.dic ys) c
  | obj {n : Nat} {C : Addr} {fs : List (Str × D)} {b : D} {F : Sp2} {c : Bool} {t : Value} : tb C F → (∀ W, S W → F [.obj C fs, b] W (fun r W' => r = .bl c ∧ S W') fun _ _ _ => False) → (b = .obj C fs → c = true) → (∀ W, TyD K W b t) → PySem.W.notFirst K C t = true → Pl b → EqR K S tb n (.obj C fs) b c
  | objN {n : Nat} {C : Addr} {fs : List (Str × D)} {F : Sp2} {c : Bool} : tb C F → (∀ W, S W → F [.obj C fs, .non] W (fun r W' => r = .bl c ∧ S W') fun _ _ _ => False) → PySem.W.mroIn K C (.type "NoneType") = some false → EqR K S tb n .non (.obj C fs) c
inductive EqRL (K : PySem.W.Frag) (S : Wd → Prop) (tb : Addr → Sp2 → Prop) : Nat → List D → List D → Bool → Prop
  | nil {n : Nat} : EqRL K S tb n [] [] true
  | no {n : Nat} {a b : D} {xs ys : List D} : EqR K S tb n a b false → EqRL K S tb n (a :: xs) (b :: ys) false
  | yes {n : Nat} {a b : D} {xs ys : List D} {c : Bool} : EqR K S tb n a b true → EqRL K S tb n xs ys c → EqRL K S tb n (a :: xs) (b :: ys) c
inductive EqRK (K : PySem.W.Frag) (S : Wd → Prop) (tb : Addr → Sp2 → Prop) : Nat → List (Key × D) → List (Key × D) → Bool → Prop
  | nil {n : Nat} {ys : List (Key × D)} : EqRK K S tb n ys [] true
  | miss {n : Nat} {k : Key} {a : D} {xs ys : List (Key × D)} : lkD ys k = none → EqRK K S tb n ys ((k, a) :: xs) false
  | no {n : Nat} {k : Key} {a b : D} {xs ys : List (Key × D)} : lkD ys k = some b → EqR K S tb n a b false → EqRK K S tb n ys ((k, a) :: xs) false
  | yes {n : Nat} {k : Key} {a b : D} {xs ys : List (Key × D)} {c : Bool} : lkD ys k = some b → EqR K S tb n a b true → EqRK K S tb n ys xs c → EqRK K S tb n ys ((k, a) :: xs) c
end
section
variable {K : PySem.W.Frag} {S : Wd → Prop} {tb : Addr → Sp2 → Prop}
mutual
theorem Py.uniq : ∀ {n m : Nat} {d : D} {p q : PyData}, Py n d p → Py m d q → p = q
  | _, _, _, _, _, .non, .non => rfl
  | _, _, _, _, _, .bl _, .bl _ => rfl
  | _, _, _, _, _, .int _, .int _ => rfl
  | _, _, _, _, _, .str _, .str _ => rfl
  | _, _, _, _, _, .lst l, .lst l' => by rw [PyL.uniq l l']
  | _, _, _, _, _, .tup l, .tup l' => by rw [PyL.uniq l l']
theorem PyL.uniq : ∀ {n m : Nat} {d : List D} {p q : List PyData}, PyL n d p → PyL m d q → p = q
  | _, _, _, _, _, .nil, .nil => rfl
  | _, _, _, _, _, .cons a l, .cons a' l' => by rw [Py.uniq a a', PyL.uniq l l']
end
end
mutual
/-- no def or class, no script, no cell in it -/
def nf : D → Bool
  | .non => true | .bl _ => true | .int _ => true | .str _ => true | .ty _ => true
  | .lst ds => nfL ds | .tup ds => nfL ds | .dic kvs => nfK kvs | .obj _ fs => nfF fs
  | _ => false
def nfL : List D → Bool
  | [] => true
  | d :: ds => nf d && nfL ds
def nfK : List (Key × D) → Bool
  | [] => true
  | (_, d) :: ds => nf d && nfK ds
def nfF : List (Str × D) → Bool
  | [] => true
  | (_, d) :: ds => nf d && nfF ds
end
section
variable {X : Cx} {pins : List (Addr × Obj)} {σ : L2.St} {H : Hp} {s : Shared} {Z : List Addr} {W : Wd}
theorem tup_not_lst (I : Inv X pins σ H s) {p : Addr} {xs ys : List V} (a : SqT X.K H p xs) (b : H p = some (.lst ys)) : False := by
  obtain ⟨_, _, ⟨o, e, c, _⟩, _⟩ := I.tuple a
  obtain ⟨_, _, _, _, e2⟩ := I.hok p _ b
  rw [e] at e2
  cases e2
  simp at c
theorem tup_not_dic (I : Inv X pins σ H s) {p : Addr} {xs : List V} {ys : List (Key × V)} (a : SqT X.K H p xs) (b : Rd H p (.dK ys)) : False := by
  obtain ⟨_, _, ⟨o, e, c, n, d⟩, _⟩ := I.tuple a
  obtain ⟨_, _, vs, _, o', es, ep, e2, _, d2, _⟩ := Rd.ok b I.hok
  rw [e] at e2
  cases e2
  rw [d] at d2
  cases d2
theorem tup_not_ins (I : Inv X pins σ H s) {p : Addr} {xs : List V} {C dx : Addr} {fs : List (Str × V)} (a : SqT X.K H p xs) (b : H p = some (.ins C dx fs)) : False := by
  obtain ⟨_, _, ⟨o, e, c, n, d⟩, _⟩ := I.tuple a
  obtain ⟨_, _, _, e2, _⟩ := I.hok p _ b
  rw [e] at e2
  cases e2
  cases d
theorem rd_inj {B : Hp} {p : Addr} {xs ys : List (Key × V)} (a : Rd B p (.dK xs)) (b : Rd B p (.dK ys)) : xs = ys := by
  rcases a with a | ⟨o, a⟩ <;> rcases b with b | ⟨o', b⟩ <;> rw [a] at b <;> cases b <;> rfl
theorem rd_not {B : Hp} {p : Addr} {xs : List (Key × V)} {o : HO} (a : Rd B p (.dK xs)) (b : B p = some o) (h : ∀ x y, o ≠ .frz x (.dK y)) (h2 : ∀ y, o ≠ .dK y) : False := by
  rcases a with a | ⟨o', a⟩ <;> rw [a] at b <;> cases b
  · exact h2 _ rfl
  · exact h _ _ rfl
mutual
theorem at_inj (I : Inv X pins σ H s) : ∀ {x : V} {a b : D}, nf a = true → nf b = true → At X.K (bs Z H W) W x a → At X.K (bs Z H W) W x b → a = b
  | _, _, b, _, nb, .non, h => by cases h; rfl
  | _, _, b, _, nb, .bl _, h => by cases h; rfl
  | _, _, b, _, nb, .int _, h => by cases h; rfl
  | _, _, b, _, nb, .str _, h => by cases h; rfl
  | _, _, b, _, nb, .ty _, h => by cases h; rfl
  | _, _, b, na, nb, .fn _, h => by unfold nf at na; cases na
  | _, _, b, na, nb, .scr _, h => by unfold nf at na; cases na
  | _, _, b, na, nb, .cel _, h => by unfold nf at na; cases na
  | _, _, b, na, nb, .lst e l, h => by
    unfold nf at na
    cases h with
    | fn _ => unfold nf at nb; cases nb
    | scr _ => unfold nf at nb; cases nb
    | cel _ => unfold nf at nb; cases nb
    | lst e2 l2 =>
      rw [e] at e2
      cases e2
      unfold nf at nb
      rw [atL_inj I na nb l l2]
    | tup e2 l2 => exact (tup_not_lst I (sqT_up e2) (bs_le e)).elim
    | dic e2 l2 => exact (rd_not e2 e (fun _ _ z => by cases z) fun _ z => by cases z).elim
    | obj e2 l2 =>
      rw [e] at e2
      cases e2
  | _, _, b, na, nb, .tup e l, h => by
    unfold nf at na
    cases h with
    | fn _ => unfold nf at nb; cases nb
    | scr _ => unfold nf at nb; cases nb
    | cel _ => unfold nf at nb; cases nb
    | lst e2 l2 => exact (tup_not_lst I (sqT_up e) (bs_le e2)).elim
    | tup e2 l2 =>
      have := I.tuple_inj (sqT_up e) (sqT_up e2)
      subst this
      unfold nf at nb
      rw [atL_inj I na nb l l2]
    | dic e2 l2 => exact (tup_not_dic I (sqT_up e) (Rd.up e2)).elim
    | obj e2 l2 => exact (tup_not_ins I (sqT_up e) (bs_le e2)).elim
  | _, _, b, na, nb, .dic e l, h => by
    unfold nf at na
    cases h with
    | fn _ => unfold nf at nb; cases nb
    | scr _ => unfold nf at nb; cases nb
    | cel _ => unfold nf at nb; cases nb
    | lst e2 l2 => exact (rd_not e e2 (fun _ _ z => by cases z) fun _ z => by cases z).elim
    | tup e2 l2 => exact (tup_not_dic I (sqT_up e2) (Rd.up e)).elim
    | dic e2 l2 =>
      have := rd_inj e e2
      subst this
      unfold nf at nb
      rw [atK_inj I na nb l l2]
    | obj e2 l2 => exact (rd_not e e2 (fun _ _ z => by cases z) fun _ z => by cases z).elim
  | _, _, b, na, nb, .obj e l, h => by
    unfold nf at na
    cases h with
    | fn _ => unfold nf at nb; cases nb
    | scr _ => unfold nf at nb; cases nb
    | cel _ => unfold nf at nb; cases nb
    | lst e2 l2 =>
      rw [e] at e2
      cases e2
    | tup e2 l2 => exact (tup_not_ins I (sqT_up e2) (bs_le e)).elim
    | dic e2 l2 => exact (rd_not e2 e (fun _ _ z => by cases z) fun _ z => by cases z).elim
    | obj e2 l2 =>
      rw [e] at e2
      cases e2
      unfold nf at nb
      rw [atF_inj I na nb l l2]
theorem atL_inj (I : Inv X pins σ H s) : ∀ {x : List V} {a b : List D}, nfL a = true → nfL b = true → AtL X.K (bs Z H W) W x a → AtL X.K (bs Z H W) W x b → a = b
  | _, _, _, _, _, .nil, .nil => rfl
  | _, _, _, na, nb, .cons a l, .cons a2 l2 => by
    unfold nfL at na nb
    rw [Bool.and_eq_true] at na nb
    rw [at_inj I na.1 nb.1 a a2, atL_inj I na.2 nb.2 l l2]
theorem atK_inj (I : Inv X pins σ H s) : ∀ {x : List (Key × V)} {a b : List (Key × D)}, nfK a = true → nfK b = true → AtK X.K (bs Z H W) W x a → AtK X.K (bs Z H W) W x b → a = b
  | _, _, _, _, _, .nil, .nil => rfl
  | _, _, _, na, nb, .cons a l, .cons a2 l2 => by
    unfold nfK at na nb
    rw [Bool.and_eq_true] at na nb
    rw [at_inj I na.1 nb.1 a a2, atK_inj I na.2 nb.2 l l2]
theorem atF_inj (I : Inv X pins σ H s) : ∀ {x : List (Str × V)} {a b : List (Str × D)}, nfF a = true → nfF b = true → AtF X.K (bs Z H W) W x a → AtF X.K (bs Z H W) W x b → a = b
  | _, _, _, _, _, .nil, .nil => rfl
  | _, _, _, na, nb, .cons a l, .cons a2 l2 => by
    unfold nfF at na nb
    rw [Bool.and_eq_true] at na nb
    rw [at_inj I na.1 nb.1 a a2, atF_inj I na.2 nb.2 l l2]
end
end
section
variable {X : Cx} {pins : List (Addr × Obj)} {σ : L2.St} {s : Shared} {Z : List Addr} {S : Wd → Prop} {tb : Addr → Sp2 → Prop} {m : Nat}
theorem atK_keys {K : PySem.W.Frag} {B : Hp} {W : Wd} : ∀ {vs : List (Key × V)} {ds : List (Key × D)}, AtK K B W vs ds → vs.map (·.1) = ds.map (·.1)
  | _, _, .nil => rfl
  | _, _, .cons _ l => by rw [List.map_cons, List.map_cons, atK_keys l]
theorem kv_keys : ∀ {vs : List (Key × V)} {us : List (Key × Value)}, L2.KV vs us → vs.map (·.1) = us.map (·.1)
  | _, _, .nil => rfl
  | _, _, .cons a l => by rw [List.map_cons, List.map_cons, kv_keys l, a.1]
theorem lkD_hd {ys : List (Key × D)} {k : Key} {a : D} : lkD ((k, a) :: ys) k = some a := by
  unfold lkD
  rw [List.find?_cons, show decide ((k, a).1 = k) = true from decide_eq_true rfl]
  rfl
theorem lkD_tl {ys : List (Key × D)} {k k0 : Key} {a : D} (h : k0 ≠ k) : lkD ((k0, a) :: ys) k = lkD ys k := by
  unfold lkD
  rw [List.find?_cons, show decide ((k0, a).1 = k) = false from decide_eq_false h]
theorem lk_mem : ∀ {ys : List (Key × D)} {k : Key} {a : D}, (ys.map (·.1)).Nodup → (k, a) ∈ ys → lkD ys k = some a
  | (k0, a0) :: ys, k, a, nd, h => by
    rw [List.map_cons, List.nodup_cons] at nd
    rcases List.mem_cons.mp h with e | e
    · cases e
      exact lkD_hd
    · rw [lkD_tl fun z => nd.1 (by rw [z]; exact List.mem_map.mpr ⟨_, e, rfl⟩)]
      exact lk_mem nd.2 e
mutual
theorem eqR_self {H : Hp} {W : Wd} (I : Inv X pins σ H s) : ∀ {n : Nat} {a b : D} {c : Bool} {x : V}, EqR X.K S tb n a b c → a = b → At X.K (bs Z H W) W x a → c = true
  | _, _, _, _, _, .data p q, e, _ => by
    subst e
    rw [Py.uniq p q]
    exact SeqAt.eqv_refl _ q.ok.1
  | _, _, _, _, _, .lstN h, e, _ => by
    cases e
    exact absurd rfl h
  | _, _, _, _, _, .lst h _, e, a => by
    cases e
    cases a with | lst _ l => exact eqRL_self I h rfl l
  | _, _, _, _, _, .tup h _, e, a => by
    cases e
    cases a with | tup _ l => exact eqRL_self I h rfl l
  | _, _, _, _, _, .dicN h, e, _ => by
    cases e
    exact absurd rfl h
  | _, _, _, _, _, .dic (xs := xs) h _, e, a => by
    cases e
    cases a with
    | dic r l =>
      obtain ⟨_, _, vs, kv, _, _, _, _, _, _, _, _, nd⟩ := Rd.ok (Rd.up r) I.hok
      have nd2 : (xs.map (·.1)).Nodup := by rw [← atK_keys l, kv_keys kv]; exact nd
      exact eqRK_self I h (fun k a hm => lk_mem nd2 hm) l
  | _, _, _, _, _, .obj _ _ h _ _ _, e, _ => h e.symm
  | _, _, _, _, _, .objN _ _ _, e, _ => by cases e
theorem eqRL_self {H : Hp} {W : Wd} (I : Inv X pins σ H s) : ∀ {n : Nat} {a b : List D} {c : Bool} {x : List V}, EqRL X.K S tb n a b c → a = b → AtL X.K (bs Z H W) W x a → c = true
  | _, _, _, _, _, .nil, _, _ => rfl
  | _, _, _, _, _, .no h, e, .cons a l => by
    injection e with e1 e2
    exact absurd (eqR_self I h e1 a) (by decide)
  | _, _, _, _, _, .yes h h2, e, .cons a l => by
    injection e with e1 e2
    exact eqRL_self I h2 e2 l
theorem eqRK_self {H : Hp} {W : Wd} (I : Inv X pins σ H s) : ∀ {n : Nat} {a b : List (Key × D)} {c : Bool} {x : List (Key × V)}, EqRK X.K S tb n b a c → (∀ k d, (k, d) ∈ a → lkD b k = some d) → AtK X.K (bs Z H W) W x a → c = true
  | _, _, _, _, _, .nil, _, _ => rfl
  | _, _, _, _, _, .miss h, e, .cons a l => by
    rw [e _ _ (List.mem_cons_self ..)] at h
    cases h
  | _, _, _, _, _, .no h h2, e, .cons a l => by
    rw [e _ _ (List.mem_cons_self ..)] at h
    cases h
    exact absurd (eqR_self I h2 rfl a) (by decide)
  | _, _, _, _, _, .yes h h2 h3, e, .cons a l => eqRK_self I h3 (fun k d hm => e k d (List.mem_cons_of_mem _ hm)) l
end
/-- the classes' __eq__ are defs with promises -/
def TbOk (X : Cx) (m : Nat) (tb : Addr → Sp2 → Prop) : Prop := ∀ C F, tb C F → ∃ g CX sp k, k ≤ m ∧ Dun X.K C "__eq__" g ∧ FnR X.prog X.w X.K X.mg X.base CX k g sp ∧ SpIs X.K sp F ∧ Passes CX X (fun _ _ _ => False)
def JX (X : Cx) (pins : List (Addr × Obj)) (σ : L2.St) (Z : List Addr) (S : Wd → Prop) (H : Hp) (W : Wd) (s : Shared) : Prop := ∃ H' W', Inv X pins σ H' s ∧ Grow Z H W H' W' ∧ WOk X.K Z H' W' ∧ S W'
theorem JX.of {H H' : Hp} {W W' : Wd} (h : JX X pins σ Z S H' W' s) (g : Grow Z H W H' W') : JX X pins σ Z S H W s := by
  obtain ⟨H2, W2, I, g2, ok, q⟩ := h
  exact ⟨H2, W2, I, g.trans g2, ok, q⟩
def AOk (X : Cx) (pins : List (Addr × Obj)) (σ : L2.St) (A : Around) : Prop := ∀ H s, Inv X pins σ H s → Env0 X.prog X.w X.K X.mg X.base A X.stack s H
theorem AOk.in1 {A : Around} (h : AOk X pins σ A) : AOk X pins σ A.in1 := fun H s I => (h H s I).in1
theorem EqJ_of_ref {prog : Program} {w : World} {E0 : Value → Shared → Prop} {A : Around} {p : Addr} {v : Value} {T F : Shared → Prop} {s : Shared} (hne : v ≠ .ref p) (h : SeqAt.RcJ prog w E0 A (.ref p) v T F s) : SeqAt.EqJ prog w E0 A (.ref p) v T F s := by
  unfold SeqAt.EqJ eqBool
  refine wpAny_holding ?_
  refine wpAny_ite_split (fun hab => absurd (eq_of_beq hab).symm hne) (fun _ => ?_)
  exact wpAny_bind (h _ (fun s' q => wpAny_truthy_bool (by simpa using q)) fun s' q => wpAny_truthy_bool (by simpa using q))
theorem kv_val : ∀ {vs : List (Key × V)} {us : List (Key × Value)} {k : Key}, L2.KV vs us → (valV vs k = none ∧ valueAt us k = none) ∨ ∃ v u, valV vs k = some v ∧ valueAt us k = some u ∧ L2.RelV v u
  | _, _, _, .nil => .inl ⟨rfl, rfl⟩
  | (k1, v) :: vs, (k2, u) :: us, k, .cons a l => by
    obtain ⟨e, r⟩ := a
    have e : k1 = k2 := e
    subst e
    unfold valV valueAt
    rw [List.find?_cons, List.find?_cons]
    by_cases z : k1 = k
    · simp only [z, decide_true]
      exact .inr ⟨v, u, rfl, rfl, r⟩
    · simp only [z, decide_false]
      exact kv_val l
theorem kv_get : ∀ {vs : List (Key × V)} {us : List (Key × Value)} {i : Nat} {k : Key} {u : Value}, L2.KV vs us → us[i]? = some (k, u) → ∃ v, vs[i]? = some (k, v) ∧ L2.RelV v u
  | _, _, _, _, _, .nil, h => by cases h
  | (k1, v) :: vs, (k2, u) :: us, 0, k, u0, .cons a l, h => by
    cases h
    obtain ⟨e, r⟩ := a
    have e : k1 = k2 := e
    subst e
    exact ⟨v, rfl, r⟩
  | _ :: _, _ :: _, i + 1, k, u, .cons a l, h => kv_get (i := i) l h
theorem atK_get {K : PySem.W.Frag} {B : Hp} {W : Wd} : ∀ {vs : List (Key × V)} {ds : List (Key × D)} {i : Nat} {k : Key} {v : V}, AtK K B W vs ds → vs[i]? = some (k, v) → ∃ d, ds[i]? = some (k, d) ∧ At K B W v d
  | _, _, _, _, _, .nil, h => by cases h
  | _, _, 0, _, _, .cons a l, h => by
    cases h
    exact ⟨_, rfl, a⟩
  | _, _, i + 1, _, _, .cons a l, h => atK_get (i := i) l h
/-- a dict comes to be locked -/
theorem lock2 {H : Hp} {W : Wd} {p : Addr} {vs : List (Key × V)} (I : Inv X pins σ H s) (ok : WOk X.K Z H W) (h : Rd (bs Z H W) p (.dK vs)) : ∃ H' o, Inv X pins σ H' s ∧ Grow Z H W H' W ∧ WOk X.K Z H' W ∧ bs Z H' W p = some (.frz o (.dK vs)) ∧ ∀ q o', bs Z H W q = some (.frz o' (.dK vs)) → True := by
  rcases h with h | ⟨o, h⟩
  · obtain ⟨od, I'⟩ := I.lock (bs_le h) trivial
    obtain ⟨g, ok', e⟩ := lock_ok (od := od) ok h
    exact ⟨_, od, I', g, ok', e, fun _ _ _ => trivial⟩
  · exact ⟨H, o, I, .refl, ok, h, fun _ _ _ => trivial⟩
/-- the depth of an At does not matter: what is at a place now -/
theorem nfL_get {ds : List D} (h : nfL ds = true) : ∀ {i : Nat} {d : D}, ds[i]? = some d → nf d = true := by
  induction ds with
  | nil => intro i d e; cases e
  | cons a l ih =>
    unfold nfL at h
    rw [Bool.and_eq_true] at h
    intro i d e
    cases i with
    | zero => cases e; exact h.1
    | succ i => exact ih h.2 e
theorem nfK_get {ds : List (Key × D)} (h : nfK ds = true) : ∀ {i : Nat} {k : Key} {d : D}, ds[i]? = some (k, d) → nf d = true := by
  induction ds with
  | nil => intro i k d e; cases e
  | cons a l ih =>
    obtain ⟨k0, a⟩ := a
    unfold nfK at h
    rw [Bool.and_eq_true] at h
    intro i k d e
    cases i with
    | zero => cases e; exact h.1
    | succ i => exact ih h.2 e
theorem nfK_lk {ds : List (Key × D)} (h : nfK ds = true) {k : Key} {d : D} (e : lkD ds k = some d) : nf d = true := by
  unfold lkD at e
  cases z : ds.find? fun kv => decide (kv.1 = k) with
  | none => rw [z] at e; cases e
  | some kv =>
    rw [z] at e
    cases e
    obtain ⟨k0, d0⟩ := kv
    have := List.mem_of_find?_eq_some z
    obtain ⟨i, hi, e2⟩ := List.getElem_of_mem this
    exact nfK_get h (i := i) (k := k0) (by rw [List.getElem?_eq_getElem hi, e2])
theorem eqRL_len {K : PySem.W.Frag} : ∀ {n : Nat} {c : Bool}, EqRL K S tb n [] [] c → c = true
  | _, _, .nil => rfl
theorem eqRK_nil {K : PySem.W.Frag} {ys : List (Key × D)} : ∀ {n : Nat} {c : Bool}, EqRK K S tb n ys [] c → c = true
  | _, _, .nil => rfl
def GoRc (X : Cx) (pins : List (Addr × Obj)) (σ : L2.St) (Z : List Addr) (S : Wd → Prop) (tb : Addr → Sp2 → Prop) (m n : Nat) : Prop := ∀ (a b : D) (c : Bool), EqR X.K S tb n a b c → ∀ (H : Hp) (W : Wd) (A : Around) (x y : V) (u v : Value) (s : Shared), Room (m + n + 4) A → AOk X pins σ A → nf a = true → nf b = true →
    At X.K (bs Z H W) W x a → At X.K (bs Z H W) W y b → L2.RelV x u → L2.RelV y v → JX X pins σ Z S H W s → SeqAt.RcJ X.prog X.w X.xe A u v (fun s' => c = true ∧ JX X pins σ Z S H W s') (fun s' => c = false ∧ JX X pins σ Z S H W s') s
def GoEq (X : Cx) (pins : List (Addr × Obj)) (σ : L2.St) (Z : List Addr) (S : Wd → Prop) (tb : Addr → Sp2 → Prop) (m n : Nat) : Prop := ∀ (a b : D) (c : Bool), EqR X.K S tb n a b c → ∀ (H : Hp) (W : Wd) (A : Around) (x y : V) (u v : Value) (s : Shared), Room (m + n + 4) A → AOk X pins σ A → nf a = true → nf b = true →
    At X.K (bs Z H W) W x a → At X.K (bs Z H W) W y b → L2.RelV x u → L2.RelV y v → JX X pins σ Z S H W s → SeqAt.EqJ X.prog X.w X.xe A u v (fun s' => c = true ∧ JX X pins σ Z S H W s') (fun s' => c = false ∧ JX X pins σ Z S H W s') s
section
variable {n : Nat} {a b : D} {c : Bool} {H : Hp} {W : Wd} {A : Around} {x y : V} {u v : Value}
theorem rc_data {p0 q0 : PyData} (p : Py 64 a p0) (q : Py 64 b q0) (hr : Room (m + n + 4) A) (ha : At X.K (bs Z H W) W x a) (hb : At X.K (bs Z H W) W y b) (rx : L2.RelV x u) (ry : L2.RelV y v) (J : JX X pins σ Z S H W s) :
    SeqAt.RcJ X.prog X.w X.xe A u v (fun s' => PyData.eqv p0 q0 = true ∧ JX X pins σ Z S H W s') (fun s' => PyData.eqv p0 q0 = false ∧ JX X pins σ Z S H W s') s ∧ SeqAt.EqJ X.prog X.w X.xe A u v (fun s' => PyData.eqv p0 q0 = true ∧ JX X pins σ Z S H W s') (fun s' => PyData.eqv p0 q0 = false ∧ JX X pins σ Z S H W s') s := by
  obtain ⟨H', W', I, g, ok, hS⟩ := id J
  obtain ⟨as, r1⟩ := Dp.reads I _ _ _ (p.dp (ha.grow g)) rx
  obtain ⟨bs, r2⟩ := Dp.reads I _ _ _ (q.dp (hb.grow g)) ry
  have hu := hr.units
  have h1 := p.ok
  have h2 := q.ok
  refine ⟨fun Q qt qf => ?_, ?_⟩
  · refine SeqAt.rcAt_reads r1 r2 h1.1 h2.1 (by omega) X.prog X.w _ Q ?_
    cases e : PyData.eqv p0 q0 with
    | true => exact qt _ ⟨e, J⟩
    | false => exact qf _ ⟨e, J⟩
  · refine SeqAt.eqAt_reads _ _ A s u v as bs r1 r2 h1.1 h2.1 (by omega) X.prog X.w _ _ ?_
    cases e : PyData.eqv p0 q0 with
    | true => simpa using J
    | false => simpa using J
theorem lst_now {p : Addr} {vs : List V} (e : bs Z H W p = some (.lst vs)) (J : JX X pins σ Z S H W s) : ∃ its k, L2.Vals vs its ∧ s.heap.get? p = some { cls := .type "list", data := .seq its.toArray k } := by
  obtain ⟨H', W', I, g, ok, _⟩ := J
  obtain ⟨_, its, k, r, e⟩ := I.hok p _ (bs_le (g.bx.eq _ _ rfl e))
  exact ⟨its, k, r, e⟩
theorem vals_at {vs : List V} {its : List Value} (r : L2.Vals vs its) {j : Nat} (h : j < its.length) : ∃ x, vs[j]? = some x ∧ L2.RelV x its[j] := by
  have h2 : j < vs.length := by have := r.length; omega
  obtain ⟨u, e, ru⟩ := r.get (List.getElem?_eq_getElem h2)
  rw [List.getElem?_eq_getElem h] at e
  cases e
  exact ⟨_, List.getElem?_eq_getElem h2, ru⟩
theorem atL_at {K : PySem.W.Frag} {B : Hp} {vs : List V} {ds : List D} (l : AtL K B W vs ds) {j : Nat} {x : V} (h : vs[j]? = some x) (hd : j < ds.length) : At K B W x ds[j] := by
  obtain ⟨y, e, q⟩ := l.get (i := j) _ (List.getElem?_eq_getElem hd)
  rw [h] at e
  cases e
  exact q
/-- one turn -/
theorem turnL (go : GoEq X pins σ Z S tb m n) {xs ys : List D} {c : Bool} {j : Nat} {P : Shared → Prop} (hx : j < xs.length) (hy : j < ys.length) (hE : EqRL X.K S tb n (xs.drop j) (ys.drop j) c) (hr : Room (m + n + 4) A) (hA : AOk X pins σ A) (na : nfL xs = true) (nb : nfL ys = true)
    (ha : At X.K (bs Z H W) W x xs[j]) (hb : At X.K (bs Z H W) W y ys[j]) (rx : L2.RelV x u) (ry : L2.RelV y v) (J : JX X pins σ Z S H W s) :
    SeqAt.EqJ X.prog X.w X.xe A u v (fun s' => JX X pins σ Z S H W s' ∧ EqRL X.K S tb n (xs.drop (j + 1)) (ys.drop (j + 1)) c) (fun s' => JX X pins σ Z S H W s' ∧ c = false) s := by
  rw [List.drop_eq_getElem_cons hx, List.drop_eq_getElem_cons hy] at hE
  have n1 := nfL_get na (List.getElem?_eq_getElem hx)
  have n2 := nfL_get nb (List.getElem?_eq_getElem hy)
  cases hE with
  | no h1 =>
    refine wpAny_mono (go _ _ _ h1 H W A x y u v s hr hA n1 n2 ha hb rx ry J) (fun r s' h => ?_) fun _ _ z => z
    cases r with
    | true => simp at h
    | false => simpa using h
  | yes h1 h2 =>
    refine wpAny_mono (go _ _ _ h1 H W A x y u v s hr hA n1 n2 ha hb rx ry J) (fun r s' h => ?_) fun _ _ z => z
    cases r with
    | true => simp at h; simpa using ⟨h, h2⟩
    | false => simp at h
theorem rc_lst (go : GoEq X pins σ Z S tb m n) {xs ys : List D} (h : EqRL X.K S tb n xs ys c) (hlen : xs.length = ys.length) (hr : Room (m + (n + 1) + 4) A) (hA : AOk X pins σ A) (na : nfL xs = true) (nb : nfL ys = true)
    (ha : At X.K (bs Z H W) W x (.lst xs)) (hb : At X.K (bs Z H W) W y (.lst ys)) (rx : L2.RelV x u) (ry : L2.RelV y v) (J : JX X pins σ Z S H W s) :
    SeqAt.RcJ X.prog X.w X.xe A u v (fun s' => c = true ∧ JX X pins σ Z S H W s') (fun s' => c = false ∧ JX X pins σ Z S H W s') s := by
  cases ha with
  | lst e1 l1 =>
  cases hb with
  | lst e2 l2 =>
  rename_i p vs q ws
  cases (show u = Value.ref p from rx)
  cases (show v = Value.ref q from ry)
  have lv := l1.len
  have lw := l2.len
  refine SeqAt.RcJ.lists (m := xs.length) (J := fun A' j s' => A' = A ∧ JX X pins σ Z S H W s' ∧ EqRL X.K S tb n (xs.drop j) (ys.drop j) c) (F := fun A' s' => A' = A ∧ JX X pins σ Z S H W s' ∧ c = false) hr.units0 (fun A' j s' hj => ?_) (fun A' s' hf => ?_) ⟨rfl, J, h⟩ (fun s' hj => ⟨?_, hj.2.1⟩) (fun s' hf => ⟨hf.2.2, hf.2.1⟩)
  · obtain ⟨rfl, J', hE⟩ := hj
    obtain ⟨i1, k1, r1, g1⟩ := lst_now e1 J'
    obtain ⟨i2, k2, r2, g2⟩ := lst_now e2 J'
    have z1 := r1.length
    have z2 := r2.length
    refine ⟨i1.toArray, i2.toArray, k1, k2, none, none, #[], #[], g1, g2, by simp; omega, by simp; omega, fun h1 h2 => ?_⟩
    have h1 : j < i1.length := by simpa using h1
    have h2 : j < i2.length := by simpa using h2
    obtain ⟨x1, f1, t1⟩ := vals_at r1 h1
    obtain ⟨x2, f2, t2⟩ := vals_at r2 h2
    have := turnL (P := fun _ => True) go (by omega) (by omega) hE hr.in1 hA.in1 na nb (atL_at l1 f1 (by omega)) (atL_at l2 f2 (by omega)) t1 t2 J'
    refine wpAny_mono this (fun r s2 h => ?_) fun _ _ z => z
    cases r with
    | true => simp at h; simpa using h
    | false => simp at h; simpa using h
  · obtain ⟨i1, k1, r1, g1⟩ := lst_now e1 hf.2.1
    obtain ⟨i2, k2, r2, g2⟩ := lst_now e2 hf.2.1
    have z1 := r1.length
    have z2 := r2.length
    exact ⟨i1.toArray, i2.toArray, k1, k2, none, none, #[], #[], g1, g2, by simp; omega, by simp; omega, trivial⟩
  · have hE := hj.2.2
    rw [List.drop_of_length_le (Nat.le_refl _), List.drop_of_length_le (by omega)] at hE
    exact eqRL_len hE
theorem rc_tup (go : GoEq X pins σ Z S tb m n) {xs ys : List D} (h : EqRL X.K S tb n xs ys c) (hlen : xs.length = ys.length) (hr : Room (m + (n + 1) + 4) A) (hA : AOk X pins σ A) (na : nfL xs = true) (nb : nfL ys = true)
    (ha : At X.K (bs Z H W) W x (.tup xs)) (hb : At X.K (bs Z H W) W y (.tup ys)) (rx : L2.RelV x u) (ry : L2.RelV y v) (J : JX X pins σ Z S H W s) :
    SeqAt.RcJ X.prog X.w X.xe A u v (fun s' => c = true ∧ JX X pins σ Z S H W s') (fun s' => c = false ∧ JX X pins σ Z S H W s') s := by
  cases ha with
  | tup e1 l1 =>
  cases hb with
  | tup e2 l2 =>
  rename_i p vs q ws
  cases (show u = Value.ref p from rx)
  cases (show v = Value.ref q from ry)
  have lv := l1.len
  have lw := l2.len
  obtain ⟨H', W', I, g, ok, hS⟩ := id J
  obtain ⟨i1, r1, t1, _⟩ := I.tuple (sqT_up (g.bx.sqT e1))
  obtain ⟨i2, r2, t2, _⟩ := I.tuple (sqT_up (g.bx.sqT e2))
  have z1 := r1.length
  have z2 := r2.length
  refine SeqAt.RcJ.tuples (items := i1.toArray) (items2 := i2.toArray) (J := fun A' j s' => A' = A ∧ JX X pins σ Z S H W s' ∧ EqRL X.K S tb n (xs.drop j) (ys.drop j) c) (F := fun A' s' => A' = A ∧ JX X pins σ Z S H W s' ∧ c = false) t1 t2 hr.units0 (by simp; omega) (fun A' j s' h1 h2 hj => ?_) ⟨rfl, J, h⟩ (fun s' hj => ⟨?_, hj.2.1⟩) (fun s' hf => ⟨hf.2.2, hf.2.1⟩)
  · obtain ⟨rfl, J', hE⟩ := hj
    have h1 : j < i1.length := by simpa using h1
    have h2 : j < i2.length := by simpa using h2
    obtain ⟨x1, f1, t1⟩ := vals_at r1 h1
    obtain ⟨x2, f2, t2⟩ := vals_at r2 h2
    have := turnL (P := fun _ => True) go (by omega) (by omega) hE hr.in1 hA.in1 na nb (atL_at l1 f1 (by omega)) (atL_at l2 f2 (by omega)) t1 t2 J'
    refine wpAny_mono this (fun r s2 h => ?_) fun _ _ z => z
    cases r with
    | true => simp at h; simpa using h
    | false => simp at h; simpa using h
  · have hE := hj.2.2
    rw [show i1.toArray.size = xs.length by simp; omega, List.drop_of_length_le (Nat.le_refl _), List.drop_of_length_le (by omega)] at hE
    exact eqRL_len hE
theorem rc_dic (go : GoEq X pins σ Z S tb m n) {xs ys : List (Key × D)} (h : EqRK X.K S tb n ys xs c) (hlen : xs.length = ys.length) (hr : Room (m + (n + 1) + 4) A) (hA : AOk X pins σ A) (na : nfK xs = true) (nb : nfK ys = true)
    (ha : At X.K (bs Z H W) W x (.dic xs)) (hb : At X.K (bs Z H W) W y (.dic ys)) (rx : L2.RelV x u) (ry : L2.RelV y v) (J : JX X pins σ Z S H W s) :
    SeqAt.RcJ X.prog X.w X.xe A u v (fun s' => c = true ∧ JX X pins σ Z S H W s') (fun s' => c = false ∧ JX X pins σ Z S H W s') s := by
  cases ha with
  | dic e1 l1 =>
  cases hb with
  | dic e2 l2 =>
  rename_i p vs q ws
  cases (show u = Value.ref p from rx)
  cases (show v = Value.ref q from ry)
  obtain ⟨H', W', I, g, ok, hS⟩ := id J
  obtain ⟨H1, oa, I1, g1, ok1, f1, _⟩ := lock2 I ok (g.bx.dk _ _ e1)
  obtain ⟨H2, ob, I2, g2, ok2, f2, _⟩ := lock2 I1 ok1 (g1.bx.dk _ _ (g.bx.dk _ _ e2))
  have f1' := g2.bx.eq _ _ rfl f1
  have gg := (g.trans g1).trans g2
  obtain ⟨na1, _, _, es, ep, ka, da, _, kva, dA⟩ := I2.frzK (bs_le f1')
  obtain ⟨nb1, _, _, es', ep', kb, db, _, kvb, dB⟩ := I2.frzK (bs_le f2)
  have J2 : JX X pins σ Z S H2 W' s := ⟨H2, W', I2, .refl, ok2, hS⟩
  have la := l1.len
  have lb := l2.len
  have lka := (kv_keys kva)
  have lkb := (kv_keys kvb)
  have lka2 : vs.length = ka.length := by simpa using congrArg List.length lka
  have lkb2 : ws.length = kb.length := by simpa using congrArg List.length lkb
  have a1 := l1.mono gg.bx gg.dm.dt
  have a2 := l2.mono gg.bx gg.dm.dt
  refine PySem.W.rcJ_dicts (knd := mixKind X.prog X.w) (ka := ka) (kb := kb) (J := fun j s' => JX X pins σ Z S H2 W' s' ∧ EqRK X.K S tb n ys (xs.drop j) c) (F := fun s' => JX X pins σ Z S H2 W' s' ∧ c = false) na1 nb1 da db (fun i s' hj => ?_) dA.dictOf dB.dictOf (by omega) hr.units0 (fun i s' k v0 hj hk => ?_) ⟨J2, h⟩ (fun s' hj => ⟨?_, hj.1.of gg⟩) (fun s' hf => ⟨hf.2, hf.1.of gg⟩)
  · obtain ⟨H3, W3, I3, g3, ok3, _⟩ := hj.1
    exact ⟨(I3.hok p _ (bs_le (g3.bx.eq _ _ rfl f1'))).1, (I3.hok q _ (bs_le (g3.bx.eq _ _ rfl f2))).1⟩
  · obtain ⟨J3, hE⟩ := hj
    obtain ⟨x1, k1, r1⟩ := kv_get kva hk
    obtain ⟨d1, k2, at1⟩ := atK_get a1 k1
    have hi := (List.getElem?_eq_some_iff.mp k2)
    obtain ⟨hi, hd⟩ := hi
    rw [List.drop_eq_getElem_cons hi, hd] at hE
    have n1 := nfK_get na k2
    rcases a2.val (k := k) with ⟨hn, hv⟩ | ⟨d2, v2, hn, hv, at2⟩
    · rcases kv_val (k := k) kvb with ⟨_, hb⟩ | ⟨_, _, hb, _⟩
      · rw [hb]
        cases hE with
        | miss _ => exact ⟨J3, rfl⟩
        | no h1 _ => rw [hn] at h1; cases h1
        | yes h1 _ _ => rw [hn] at h1; cases h1
      · rw [hv] at hb; cases hb
    · rcases kv_val (k := k) kvb with ⟨hb, _⟩ | ⟨v3, u3, hb, hc, r3⟩
      · rw [hv] at hb; cases hb
      · rw [hv] at hb
        cases hb
        rw [hc]
        have n2 := nfK_lk nb hn
        cases hE with
        | miss h1 => rw [hn] at h1; cases h1
        | no h1 h2 =>
          rw [hn] at h1
          cases h1
          refine wpAny_mono (go _ _ _ h2 H2 W' A.in1 x1 v2 v0 u3 s' hr.in1 hA.in1 n1 n2 at1 at2 r1 r3 J3) (fun r s2 h => ?_) fun _ _ z => z
          cases r with
          | true => simp at h
          | false => simpa using h
        | yes h1 h2 h3 =>
          rw [hn] at h1
          cases h1
          refine wpAny_mono (go _ _ _ h2 H2 W' A.in1 x1 v2 v0 u3 s' hr.in1 hA.in1 n1 n2 at1 at2 r1 r3 J3) (fun r s2 h => ?_) fun _ _ z => z
          cases r with
          | true => simp at h; simpa using ⟨h, h3⟩
          | false => simp at h
  · have hE := hj.2
    rw [List.drop_of_length_le (by omega)] at hE
    exact eqRK_nil hE
theorem rc_obj (tk : TbOk X m tb) {C : Addr} {fs : List (Str × D)} {F : Sp2} {t : Value} (hC : tb C F) (hF : ∀ W, S W → F [.obj C fs, b] W (fun r W' => r = .bl c ∧ S W') fun _ _ _ => False) (ty : ∀ W, S W → TyD X.K W b t) (hn : PySem.W.notFirst X.K C t = true) (hr : Room (m + n + 4) A) (hA : AOk X pins σ A)
    (ha : At X.K (bs Z H W) W x (.obj C fs)) (hb : At X.K (bs Z H W) W y b) (rx : L2.RelV x u) (ry : L2.RelV y v) (J : JX X pins σ Z S H W s) :
    SeqAt.RcJ X.prog X.w X.xe A u v (fun s' => c = true ∧ JX X pins σ Z S H W s') (fun s' => c = false ∧ JX X pins σ Z S H W s') s := by
  intro Q qt qf
  obtain ⟨H', W', I, g, ok, hS⟩ := id J
  obtain ⟨f, CX, sp, k0, hk0, d, fn, l, hx⟩ := tk C F hC
  have ha' := ha.grow g
  have hb' := hb.grow g
  cases ha with
  | obj e l1 =>
  rename_i p dx vs
  cases (show u = Value.ref p from rx)
  have ins : Ins H' p C := ⟨dx, vs, bs_le (g.bx.eq _ _ rfl e)⟩
  obtain ⟨_, _, Ji⟩ := ins.at I
  obtain ⟨mm, hfr⟩ := I.fr
  obtain ⟨P, Zk, pk, _⟩ := kit_of I ry (TyX_of (Sv.of hb') ok (ty W' hS))
  refine PySem.W.cmp_K (op := .Eq) (tb := t) hr.units0 hfr I.ok.mod.kin Ji (Zk.ty _ _ I.kIn pk) hn d.at_ d.fn
    (run_op (Q := fun r H2 => r = .bl c ∧ ∃ W2, Grow Z H' W' H2 W2 ∧ WOk X.K Z H2 W2 ∧ S W2) (E := fun _ _ _ => False) fn (hr.mono (by omega)) (hA _ _ I) hx I (.cons rx (.cons ry .nil)) (l _ _ _ _ ⟨Z, [.obj C fs, b], W', _, _, ok, .cons ha' (.cons hb' .nil), hF W' hS, ?_, ?_⟩) ?_)
  · rintro r W2 v2 H2 ⟨rfl, hS2⟩ g2 ok2 sv
    cases (show At _ _ _ v2 _ from sv)
    exact ⟨rfl, W2, g2, ok2, hS2⟩
  · intro _ _ _ _ _ _ z
    exact z.elim
  · rintro r u2 s2 H2 I2 rv ⟨rfl, W2, g2, ok2, hS2⟩
    cases (show u2 = Value.bool c from rv)
    have J2 : JX X pins σ Z S H W s2 := ⟨H2, W2, I2, g.trans g2, ok2, hS2⟩
    cases c with
    | true => exact qt _ ⟨rfl, J2⟩
    | false => exact qf _ ⟨rfl, J2⟩
theorem rc_objN (tk : TbOk X m tb) {C : Addr} {fs : List (Str × D)} {F : Sp2} (hC : tb C F) (hF : ∀ W, S W → F [.obj C fs, .non] W (fun r W' => r = .bl c ∧ S W') fun _ _ _ => False) (hm : PySem.W.mroIn X.K C (.type "NoneType") = some false) (hr : Room (m + n + 4) A) (hA : AOk X pins σ A)
    (hb : At X.K (bs Z H W) W y (.obj C fs)) (ry : L2.RelV y v) (J : JX X pins σ Z S H W s) :
    SeqAt.RcJ X.prog X.w X.xe A .none v (fun s' => c = true ∧ JX X pins σ Z S H W s') (fun s' => c = false ∧ JX X pins σ Z S H W s') s := by
  intro Q qt qf
  obtain ⟨H', W', I, g, ok, hS⟩ := id J
  obtain ⟨f, CX, sp, k0, hk0, d, fn, l, hx⟩ := tk C F hC
  have hb' := hb.grow g
  cases hb with
  | obj e l1 =>
  rename_i p dx vs
  cases (show v = Value.ref p from ry)
  have ins : Ins H' p C := ⟨dx, vs, bs_le (g.bx.eq _ _ rfl e)⟩
  obtain ⟨_, _, Ji⟩ := ins.at I
  refine cmpN_K hr.units0 I.kIn Ji hm d.at_ d.fn
    (run_op (Q := fun r H2 => r = .bl c ∧ ∃ W2, Grow Z H' W' H2 W2 ∧ WOk X.K Z H2 W2 ∧ S W2) (E := fun _ _ _ => False) fn (hr.mono (by omega)) (hA _ _ I) hx I (.cons ry (.cons (show L2.RelV .non .none from rfl) .nil)) (l _ _ _ _ ⟨Z, [.obj C fs, .non], W', _, _, ok, .cons hb' (.cons .non .nil), hF W' hS, ?_, ?_⟩) ?_)
  · rintro r W2 v2 H2 ⟨rfl, hS2⟩ g2 ok2 sv
    cases (show At _ _ _ v2 _ from sv)
    exact ⟨rfl, W2, g2, ok2, hS2⟩
  · intro _ _ _ _ _ _ z
    exact z.elim
  · rintro r u2 s2 H2 I2 rv ⟨rfl, W2, g2, ok2, hS2⟩
    cases (show u2 = Value.bool c from rv)
    have J2 : JX X pins σ Z S H W s2 := ⟨H2, W2, I2, g.trans g2, ok2, hS2⟩
    cases c with
    | true => exact qt _ ⟨rfl, J2⟩
    | false => exact qf _ ⟨rfl, J2⟩
theorem EqJ_of_non {prog : Program} {w : World} {E0 : Value → Shared → Prop} {A : Around} {p : Addr} {T F : Shared → Prop} {s : Shared} (h : SeqAt.RcJ prog w E0 A .none (.ref p) T F s) : SeqAt.EqJ prog w E0 A .none (.ref p) T F s := by
  unfold SeqAt.EqJ eqBool
  refine wpAny_holding ?_
  refine wpAny_ite_split (fun hab => by cases eq_of_beq hab) (fun _ => ?_)
  exact wpAny_bind (h _ (fun s' q => wpAny_truthy_bool (by simpa using q)) fun s' q => wpAny_truthy_bool (by simpa using q))
theorem lst_lens {p q : Addr} {vs ws : List V} (e1 : bs Z H W p = some (.lst vs)) (e2 : bs Z H W q = some (.lst ws)) (hlen : vs.length ≠ ws.length) (hr : Room (m + n + 4) A) (J : JX X pins σ Z S H W s) :
    SeqAt.RcJ X.prog X.w X.xe A (.ref p) (.ref q) (fun s' => false = true ∧ JX X pins σ Z S H W s') (fun s' => false = false ∧ JX X pins σ Z S H W s') s := by
  obtain ⟨i1, k1, r1, g1⟩ := lst_now e1 J
  obtain ⟨i2, k2, r2, g2⟩ := lst_now e2 J
  have z1 := r1.length
  have z2 := r2.length
  exact SeqAt.RcJ.lists_len (items := i1.toArray) (items2 := i2.toArray) ⟨_, g1, rfl, _, rfl⟩ ⟨_, g2, rfl, _, rfl⟩ (by simp; omega) hr.units0 ⟨rfl, J⟩
theorem dic_lens {xs ys : List (Key × D)} (ha : At X.K (bs Z H W) W x (.dic xs)) (hb : At X.K (bs Z H W) W y (.dic ys)) (rx : L2.RelV x u) (ry : L2.RelV y v) (hlen : xs.length ≠ ys.length) (hr : Room (m + n + 4) A) (J : JX X pins σ Z S H W s) :
    SeqAt.RcJ X.prog X.w X.xe A u v (fun s' => false = true ∧ JX X pins σ Z S H W s') (fun s' => false = false ∧ JX X pins σ Z S H W s') s := by
  cases ha with
  | dic e1 l1 =>
  cases hb with
  | dic e2 l2 =>
  rename_i p vs q ws
  cases (show u = Value.ref p from rx)
  cases (show v = Value.ref q from ry)
  obtain ⟨H', W', I, g, ok, hS⟩ := id J
  obtain ⟨_, n1, ka, kva, dA⟩ := Rd.ok (Rd.up (g.bx.dk _ _ e1)) I.hok
  obtain ⟨_, n2, kb, kvb, dB⟩ := Rd.ok (Rd.up (g.bx.dk _ _ e2)) I.hok
  have lka2 : vs.length = ka.length := by simpa using congrArg List.length (kv_keys kva)
  have lkb2 : ws.length = kb.length := by simpa using congrArg List.length (kv_keys kvb)
  have la := l1.len
  have lb := l2.len
  have hne : (ka.length == kb.length) = false := by simp; omega
  refine fun Q qt qf => PySem.W.rcP_dicts (r := false) n1 n2 dA dB hr.units0 (fun e => absurd e (by omega)) X.xe Q ?_
  rw [hne]
  exact qf _ ⟨rfl, J⟩
end
theorem go_rc (tk : TbOk X m tb) : ∀ n, GoRc X pins σ Z S tb m n := by
  have eqOf : ∀ n, GoRc X pins σ Z S tb m n → GoEq X pins σ Z S tb m n := fun n go a b c h H W A x y u v s hr hA na nb ha hb rx ry J => by
    by_cases hd : ∃ p q, Py 64 a p ∧ Py 64 b q ∧ c = PyData.eqv p q
    · obtain ⟨p, q, hp, hq, rfl⟩ := hd
      exact (rc_data hp hq hr ha hb rx ry J).2
    · have hx : (∃ p, x = .ref p) ∨ (x = .non ∧ ∃ q, y = .ref q) := by
        cases h with
        | data p q => exact absurd ⟨_, _, p, q, rfl⟩ hd
        | lstN _ => cases ha; exact .inl ⟨_, rfl⟩
        | lst _ _ => cases ha; exact .inl ⟨_, rfl⟩
        | tup _ _ => cases ha; exact .inl ⟨_, rfl⟩
        | dicN _ => cases ha; exact .inl ⟨_, rfl⟩
        | dic _ _ => cases ha; exact .inl ⟨_, rfl⟩
        | obj _ _ _ _ _ _ => cases ha; exact .inl ⟨_, rfl⟩
        | objN _ _ _ => cases ha; cases hb; exact .inr ⟨rfl, _, rfl⟩
      rcases hx with ⟨p, rfl⟩ | ⟨rfl, q, rfl⟩
      rotate_left
      · cases (show u = Value.none from rx)
        cases (show v = Value.ref q from ry)
        exact EqJ_of_non (go a b c h H W A .non (.ref q) _ _ s hr hA na nb ha hb rx ry J)
      cases (show u = Value.ref p from rx)
      by_cases hv : v = .ref p
      · subst hv
        cases ry.inj (show L2.RelV (.ref p) (.ref p) from rfl)
        obtain ⟨H', W', I, g, ok, hS⟩ := id J
        have e := at_inj I na nb (ha.grow g) (hb.grow g)
        have hc := eqR_self I h e (ha.grow g)
        exact SeqAt.EqJ.same ⟨hc, J⟩
      · exact EqJ_of_ref hv (go a b c h H W A _ y _ v s hr hA na nb ha hb rx ry J)
  intro n
  induction n with
  | zero =>
    intro a b c h H W A x y u v s hr hA na nb ha hb rx ry J
    cases h with
    | data p q => exact (rc_data (m := m) (n := 0) p q hr ha hb rx ry J).1
    | lstN hl =>
      cases ha with
      | lst e1 l1 =>
      cases hb with
      | lst e2 l2 =>
      rename_i p vs q ws
      cases (show u = Value.ref p from rx)
      cases (show v = Value.ref q from ry)
      exact lst_lens (m := m) (n := 0) e1 e2 (by rw [l1.len, l2.len]; exact hl) hr J
    | dicN hl => exact dic_lens (m := m) (n := 0) ha hb rx ry hl hr J
    | obj h1 h2 _ h4 h5 _ => exact rc_obj (n := 0) tk h1 h2 (fun W _ => h4 W) h5 hr hA ha hb rx ry J
    | objN h1 h2 h3 =>
      cases ha
      cases (show u = Value.none from rx)
      exact rc_objN (n := 0) tk h1 h2 h3 hr hA hb ry J
  | succ n ih =>
    intro a b c h H W A x y u v s hr hA na nb ha hb rx ry J
    cases h with
    | data p q => exact (rc_data (m := m) (n := n + 1) p q hr ha hb rx ry J).1
    | lstN hl =>
      cases ha with
      | lst e1 l1 =>
      cases hb with
      | lst e2 l2 =>
      rename_i p vs q ws
      cases (show u = Value.ref p from rx)
      cases (show v = Value.ref q from ry)
      exact lst_lens (m := m) (n := n + 1) e1 e2 (by rw [l1.len, l2.len]; exact hl) hr J
    | dicN hl => exact dic_lens (m := m) (n := n + 1) ha hb rx ry hl hr J
    | obj h1 h2 _ h4 h5 _ => exact rc_obj (n := n + 1) tk h1 h2 (fun W _ => h4 W) h5 hr hA ha hb rx ry J
    | objN h1 h2 h3 =>
      cases ha
      cases (show u = Value.none from rx)
      exact rc_objN (n := n + 1) tk h1 h2 h3 hr hA hb ry J
    | lst h1 h2 =>
      unfold nf at na nb
      exact rc_lst (eqOf n ih) h1 h2 hr hA na nb ha hb rx ry J
    | tup h1 h2 =>
      unfold nf at na nb
      exact rc_tup (eqOf n ih) h1 h2 hr hA na nb ha hb rx ry J
    | dic h1 h2 =>
      unfold nf at na nb
      exact rc_dic (eqOf n ih) h1 h2 hr hA na nb ha hb rx ry J
end
end Fr
set_option Elab.async false
set_option linter.all false
set_option maxRecDepth 100000
set_option maxHeartbeats 4000000
namespace PySem.SeqAt
open AutoSeq1 (wpAny_loadPart')
open MeetsSeq MeetsSeq2 MeetsSeq3 SeqRoads2
theorem ne_loopJ {prog : Program} {w : World} {E0 : Value → Shared → Prop} (l b : Addr) (m : Nat) (J : Around → Nat → Shared → Prop) (F : Around → Shared → Prop)
    (hJ : ∀ A j s, J A j s → Two l b m (fun i1 i2 => ∀ (h1 : j < i1.size) (h2 : j < i2.size), EqJ prog w E0 A.in1 i1[j] i2[j] (J A (j + 1)) (F A) s) s)
    (hF : ∀ A s, F A s → Two l b m (fun _ _ => True) s) (k : Nat) :
    ∀ i : Nat, m - i = k → MeetsAt prog w (Builtin.«list.__eq__.loop» ⟨[.ref l, .ref b, rawInt i, rawInt 3], []⟩)
      (fun A R s => J A i s ∧ i ≤ m ∧ (∀ s', J A m s' → R (.ok (.ret (.bool false))) s') ∧ (∀ s', F A s' → R (.ok (.ret (.bool true))) s') ∧ ∀ e s', E0 e s' → R (.error e) s') := by
  induction k with
  | zero =>
    intro i hk A R s h
    obtain ⟨h0, hi, ht, hf, hE⟩ := h
    obtain ⟨items, items2, n, n2, dd, dd2, sl, sl2, hl, hb, z1, z2, _⟩ := hJ _ _ _ h0
    have e : i = m := by omega
    have h1 := ht s (e ▸ h0)
    obtain ⟨hp, g, d, tk, os⟩ := s
    wp_walk using wpAny_loadPart' hl, wpAny_loadPart' hb
    have hi1 : items[((i : Nat) : Int).toNat]? = none := by simp; omega
    have hi2 : items2[((i : Nat) : Int).toNat]? = none := by simp; omega
    rw [hi1, hi2]
    wp_walk using wpAny_loadPart' hl, wpAny_loadPart' hb
    show R (.ok (.ret (.bool (items.size != items2.size)))) _
    rw [z1, z2]
    simpa using h1
  | succ k ih =>
    intro i hk A R s h
    obtain ⟨h0, hi, ht, hf, hE⟩ := h
    obtain ⟨items, items2, n, n2, dd, dd2, sl, sl2, hl, hb, z1, z2, he⟩ := hJ _ _ _ h0
    have hlt : i < items.size := by omega
    have hlt2 : i < items2.size := by omega
    have hcmp := he hlt hlt2
    obtain ⟨hp, g, d, tk, os⟩ := s
    wp_walk using wpAny_loadPart' hl, wpAny_loadPart' hb
    have hi1 : items[((i : Nat) : Int).toNat]? = some items[i] := by simp [hlt]
    have hi2 : items2[((i : Nat) : Int).toNat]? = some items2[i] := by simp [hlt2]
    have hc : ((i : Int) + 1) = ((i + 1 : Nat) : Int) := by push_cast; rfl
    rw [hi1, hi2]
    refine wpAny_bind (wpAny_mono hcmp (fun r s' hr => ?_) fun _ _ z => hE _ _ z)
    cases r with
    | true =>
      have h1 : J A (i + 1) s' := by simpa using hr
      obtain ⟨hp, g, d, tk, os⟩ := s'
      wp_walk
      rw [hc]
      exact ⟨plainId_quiet plain_eq_loop _, codeAny_builtin entry_eq_loop (by
        rw [Around.under_plainId plain_eq_loop _]
        exact ih (i + 1) (by omega) A R _ ⟨h1, by omega, ht, hf, hE⟩)⟩
    | false =>
      have h1 : F A s' := by simpa using hr
      obtain ⟨items', items2', n', n2', dd', dd2', sl', sl2', hl', hb', z1', z2', _⟩ := hF _ _ h1
      have h2 := hf _ h1
      obtain ⟨hp, g, d, tk, os⟩ := s'
      have hi1' : items'[((i : Nat) : Int).toNat]? = some (items'[i]'(by omega)) := by simp [show i < items'.size by omega]
      have hi2' : items2'[((i : Nat) : Int).toNat]? = some (items2'[i]'(by omega)) := by simp [show i < items2'.size by omega]
      wp_walk using wpAny_loadPart' hl', wpAny_loadPart' hb'
      rw [hi1', hi2']
      wp_walk
      exact h2
theorem list_neJ {prog : Program} {w : World} {E0 : Value → Shared → Prop} (l b : Addr) (m : Nat) (J : Around → Nat → Shared → Prop) (F : Around → Shared → Prop)
    (hJ : ∀ A j s, J A j s → Two l b m (fun i1 i2 => ∀ (h1 : j < i1.size) (h2 : j < i2.size), EqJ prog w E0 A.in1 i1[j] i2[j] (J A (j + 1)) (F A) s) s)
    (hF : ∀ A s, F A s → Two l b m (fun _ _ => True) s) :
    MeetsAt prog w (Builtin.«list.__ne__» ⟨[.ref l, .ref b], []⟩)
      (fun A R s => J A 0 s ∧ (∀ s', J A m s' → R (.ok (.ret (.bool false))) s') ∧ (∀ s', F A s' → R (.ok (.ret (.bool true))) s') ∧ ∀ e s', E0 e s' → R (.error e) s') := by
  intro A R s h
  obtain ⟨h0, ht, hf, hE⟩ := h
  have h1 := ne_loopJ (prog := prog) (w := w) l b m J F hJ hF m 0 (by omega) A R s ⟨h0, by omega, ht, hf, hE⟩
  obtain ⟨items, items2, n, n2, dd, dd2, sl, sl2, hl, hb, z1, z2, he⟩ := hJ _ _ _ h0
  obtain ⟨hp, g, d, tk, os⟩ := s
  have f3 := AutoSeq1.sub_list_list
  have hne : ¬ (items.size != items2.size) = true := by simp [z1, z2]
  wp_walk using wpAny_loadPart' hl, wpAny_loadPart' hb
  exact ⟨plainId_quiet plain_eq_loop _, codeAny_builtin entry_eq_loop (by
    rw [Around.under_plainId plain_eq_loop _]
    exact h1)⟩
theorem tuple_neJ {prog : Program} {w : World} {E0 : Value → Shared → Prop} (l b : Addr) (items items2 : Array Value) (n n2 : Nat) (dd dd2 : Option Addr) (sl sl2 : Array (Option Value)) (hsz : items.size = items2.size) (J : Around → Nat → Shared → Prop) (F : Around → Shared → Prop)
    (hJ : ∀ A j s (h1 : j < items.size) (h2 : j < items2.size), J A j s → EqJ prog w E0 A.in1 items[j] items2[j] (J A (j + 1)) (F A) s) :
    MeetsAt prog w (Builtin.«tuple.__ne__» ⟨[.ref l, .ref b], []⟩)
      (fun A R s => s.heap.get? l = some { cls := .type "tuple", dict := dd, data := .seq items n, slots := sl } ∧ s.heap.get? b = some { cls := .type "tuple", dict := dd2, data := .seq items2 n2, slots := sl2 } ∧
        J A 0 s ∧ (∀ s', J A items.size s' → R (.ok (.ret (.bool false))) s') ∧ (∀ s', F A s' → R (.ok (.ret (.bool true))) s') ∧ ∀ e s', E0 e s' → R (.error e) s') := by
  intro A R s h
  obtain ⟨hl, hb, h0, ht, hf, hE⟩ := h
  have f2 := AutoSeq1.sub_tuple_tuple
  have hZ : (items.toList.zip items2.toList).length = items.size := by simp [hsz]
  suffices hs : wpAny (model prog w) A.in1 (Builtin.«tuple.__ne__» ⟨[.ref l, .ref b], []⟩) (fun fin s' => ∃ v, fin = .done (.ret v) ∧ R (.ok (.ret v)) s') (fun e s' => R (.error e) s') s from
    wpAny_mono hs (fun fin s' h' => by obtain ⟨v, rfl, hv⟩ := h'; exact hv) fun _ _ x => x
  obtain ⟨hp, g, d, tk, os⟩ := s
  wp_walk using wpAny_loadPart' hl, wpAny_loadPart' hb, wpAny_forIn_list _ (fun rest b s' => b.1 = none ∧ ∃ i, rest = (items.toList.zip items2.toList).drop i ∧ i ≤ items.size ∧ J A i s') _
  case turn =>
    rintro ⟨y, x⟩ rest b s' ⟨hb', i, hz, hi, hR⟩
    have hlt : i < (items.toList.zip items2.toList).length := by
      rcases Nat.lt_or_ge i (items.toList.zip items2.toList).length with h' | h'
      · exact h'
      · rw [List.drop_of_length_le h'] at hz; cases hz
    have h1 : i < items.size := by omega
    have h2 : i < items2.size := by omega
    rw [List.drop_eq_getElem_cons hlt] at hz
    injection hz with hyx hrest
    have hy : y = items[i] := by have := congrArg Prod.fst hyx; simpa using this
    have hx : x = items2[i] := by have := congrArg Prod.snd hyx; simpa using this
    subst hy hx
    refine wpAny_bind (wpAny_mono (hJ A i s' h1 h2 hR) (fun r s2 hr => ?_) fun _ _ z => hE _ _ z)
    cases r with
    | true =>
      have h3 : J A (i + 1) s2 := by simpa using hr
      obtain ⟨hp, g, d, tk, os⟩ := s2
      wp_walk
      exact ⟨rfl, i + 1, hrest, by omega, h3⟩
    | false =>
      have h3 : F A s2 := by simpa using hr
      have h4 := hf _ h3
      obtain ⟨hp, g, d, tk, os⟩ := s2
      wp_walk
      exact ⟨_, rfl, h4⟩
  case fin =>
    rintro ⟨b1, b2⟩ s' ⟨hb', i, hz, hi, hR⟩
    simp only at hb'
    subst hb'
    have hge : i = items.size := by
      rcases Nat.lt_or_ge i (items.toList.zip items2.toList).length with h' | h'
      · rw [List.drop_eq_getElem_cons h'] at hz; cases hz
      · omega
    have h4 := ht _ (hge ▸ hR)
    obtain ⟨hp, g, d, tk, os⟩ := s'
    wp_walk
    refine ⟨_, rfl, ?_⟩
    simpa [Builtin.Tuple.tupleCompareSizes, hsz, bne] using h4
  case h =>
    exact ⟨rfl, 0, rfl, Nat.zero_le _, h0⟩
section
variable {prog : Program} {w : World} {A : Around} {E E0 : Value → Shared → Prop} {s : Shared}
/-- the outcome of a comparison -/
def RcNJ (prog : Program) (w : World) (E0 : Value → Shared → Prop) (A : Around) (y x : Value) (T F : Shared → Prop) (s : Shared) : Prop :=
  ∀ Q : Value → Shared → Prop, (∀ s', T s' → Q (.bool false) s') → (∀ s', F s' → Q (.bool true) s') → wpAny (model prog w) A (richCompare .NotEq y x) Q E0 s
theorem RcNJ.lists {l b : Addr} {m : Nat} {J : Around → Nat → Shared → Prop} {F : Around → Shared → Prop} {T' F' : Shared → Prop} (hu : A.units < cLine)
    (hJ : ∀ A j s, J A j s → Two l b m (fun i1 i2 => ∀ (h1 : j < i1.size) (h2 : j < i2.size), EqJ prog w E0 A.in1 i1[j] i2[j] (J A (j + 1)) (F A) s) s)
    (hF : ∀ A s, F A s → Two l b m (fun _ _ => True) s) (h0 : J A 0 s) (ht : ∀ s, J A m s → T' s) (hf : ∀ s, F A s → F' s) : RcNJ prog w E0 A (.ref l) (.ref b) T' F' s := fun Q qt qf => by
  obtain ⟨items, items2, n, n2, dd, dd2, sl, sl2, hl, hb, _⟩ := hJ _ _ _ h0
  exact richCompare_meetsAt (op := .NotEq) ⟨_, hl, rfl⟩ ⟨_, hb, rfl⟩ PySem.F.slot_list_ne PySem.F.entry_list_ne (PySem.F.args_list_ne_2 _ _) (list_neJ l b m J F hJ hF)
    ⟨h0, fun s' j => ⟨(fun x => nomatch x), qt _ (ht _ j)⟩, fun s' j => ⟨(fun x => nomatch x), qf _ (hf _ j)⟩, fun _ _ z => z⟩ hu
theorem RcNJ.lists_len {l b : Addr} {items items2 : Array Value} {T F : Shared → Prop} (hl : s.heap.IsList l items) (hb : s.heap.IsList b items2) (hsz : (items.size != items2.size) = true) (hu : A.units < cLine) (h : F s) : RcNJ prog w E0 A (.ref l) (.ref b) T F s :=
  fun Q qt qf => RcNeAt.lists_lengths hl hb hsz hu prog w _ Q (qf _ h)
theorem RcNJ.tuples {l b : Addr} {items items2 : Array Value} {J : Around → Nat → Shared → Prop} {F : Around → Shared → Prop} {T' F' : Shared → Prop} (hl : s.heap.IsTuple l items) (hb : s.heap.IsTuple b items2) (hu : A.units < cLine) (hsz : items.size = items2.size)
    (hJ : ∀ A j s (h1 : j < items.size) (h2 : j < items2.size), J A j s → EqJ prog w E0 A.in1 items[j] items2[j] (J A (j + 1)) (F A) s) (h0 : J A 0 s) (ht : ∀ s, J A items.size s → T' s) (hf : ∀ s, F A s → F' s) : RcNJ prog w E0 A (.ref l) (.ref b) T' F' s := fun Q qt qf => by
  obtain ⟨⟨cls, dd, data, sl⟩, ho, hc, n, hd⟩ := id hl
  obtain ⟨⟨cls2, dd2, data2, sl2⟩, ho2, hc2, n2, hd2⟩ := id hb
  simp only at hc hd hc2 hd2
  subst hc hd hc2 hd2
  exact richCompare_meetsAt (op := .NotEq) ⟨_, ho, rfl⟩ ⟨_, ho2, rfl⟩ PySem.F.slot_tuple_ne PySem.F.entry_tuple_ne (PySem.F.args_tuple_ne_2 _ _) (tuple_neJ l b items items2 n n2 dd dd2 sl sl2 hsz J F hJ)
    ⟨ho, ho2, h0, fun s' j => ⟨(fun x => nomatch x), qt _ (ht _ j)⟩, fun s' j => ⟨(fun x => nomatch x), qf _ (hf _ j)⟩, fun _ _ z => z⟩ hu
end
end PySem.SeqAt
namespace PySem.W
open Lean Elab Tactic Meta PySem PySem.Calls PyProof.Rows PyProof.V PySem.Spec
section
variable {prog : Program} {w : World} {K : Type} [DecidableEq K] {knd : KeyKind prog w K} {A : Around} {E0 : Value → Shared → Prop} {s : Shared}
theorem rcNJ_dicts {a b : Addr} {ka kb : List (K × Value)} {oa ob : Obj} {es es' : Array DictEntry} {ep ep' : Nat} {J : Nat → Shared → Prop} {F T' F' : Shared → Prop} (ha : (a == sysModules) = false) (hb : (b == sysModules) = false)
    (hda : oa.data = .dict es ep) (hdb : ob.data = .dict es' ep')
    (da : ∀ i s, J i s → s.heap.get? a = some oa ∧ s.heap.get? b = some ob)
    (dA : s.heap.DictOf knd a ka) (dB : s.heap.DictOf knd b kb) (hl : ka.length = kb.length) (hu : A.units < cLine)
    (hits : ∀ i s k v, J i s → ka[i]? = some (k, v) → match valueAt kb k with
      | none => F s
      | some y => SeqAt.EqJ prog w E0 A.in1 v y (J (i + 1)) F s)
    (h0 : J 0 s) (ht : ∀ s, J ka.length s → T' s) (hf : ∀ s, F s → F' s) : SeqAt.RcNJ prog w E0 A (.ref a) (.ref b) T' F' s := fun Q qt qf => by
  refine wpAny_richCompare_same_room (op := .NotEq) dA.typeIs dB.typeIs PySem.F.slot_dict_ne (wpAny_call_entry PySem.F.slot_dict_ne dA.typeIs PySem.F.entry_dict_ne ?_ (PySem.F.args_dict_ne_2 _ _)) hu
  show wpAny _ _ (Builtin.Dict.dictSlotArgs "__ne__" ⟨[.ref a, .ref b], []⟩ >>= _) _ _ s
  refine wpAny_bind ?_
  unfold Builtin.Dict.dictSlotArgs
  refine wpAny_bind (wpAny_notOrdered_dict dA.typeIs ?_)
  show wpAny _ _ (pure (Value.ref a, Value.ref b)) _ _ s
  refine wpAny_pure ?_
  refine wpAny_bind (wpAny_isInstance (T := "dict") dB.typeIs PySem.F.sub_dict_dict ?_)
  simp only [Bool.not_true, Bool.false_eq_true, if_false]
  refine wpAny_bind (wpAny_pure (wpAny_bind (wpAny_pure ?_)))
  refine wpAny_bind (samePairsJ (J := J) (F := F) ha hb hda hdb da dA dB hl hits h0 (fun s' j => ?_) fun s' j => ?_)
  · exact wpAny_pure ⟨_, rfl, (fun x => nomatch x), qt _ (ht _ j)⟩
  · exact wpAny_pure ⟨_, rfl, (fun x => nomatch x), qf _ (hf _ j)⟩
theorem rcN_dicts {a b : Addr} {ka kb : List (K × Value)} {r : Bool} (ha : (a == sysModules) = false) (hb : (b == sysModules) = false)
    (da : s.heap.DictOf knd a ka) (db : s.heap.DictOf knd b kb) (hu : A.units < cLine) (hits : ka.length = kb.length → KeqHitsP prog w A.in1 s kb ka r) (E Q : Value → Shared → Prop) (h : Q (.bool ((ka.length == kb.length && r) == false)) s) : wpAny (model prog w) A (richCompare .NotEq (.ref a) (.ref b)) Q E s := by
  refine wpAny_richCompare_same_room (op := .NotEq) da.typeIs db.typeIs PySem.F.slot_dict_ne (wpAny_call_entry PySem.F.slot_dict_ne da.typeIs PySem.F.entry_dict_ne ?_ (PySem.F.args_dict_ne_2 _ _)) hu
  show wpAny _ _ (Builtin.Dict.dictSlotArgs "__ne__" ⟨[.ref a, .ref b], []⟩ >>= _) _ _ s
  refine wpAny_bind ?_
  unfold Builtin.Dict.dictSlotArgs
  refine wpAny_bind (wpAny_notOrdered_dict da.typeIs ?_)
  show wpAny _ _ (pure (Value.ref a, Value.ref b)) _ _ s
  refine wpAny_pure ?_
  refine wpAny_bind (wpAny_isInstance (T := "dict") db.typeIs PySem.F.sub_dict_dict ?_)
  simp only [Bool.not_true, Bool.false_eq_true, if_false]
  refine wpAny_bind (wpAny_pure (wpAny_bind (wpAny_pure ?_)))
  refine wpAny_bind (samePairsP ha hb da db hits ?_)
  refine wpAny_pure ⟨_, rfl, ?_, ?_⟩
  · exact fun x => nomatch x
  · simpa using h
end
end PySem.W
namespace Fr
open PySem PySem.Spec PyProof.Rows L2
section
variable {X : Cx} {pins : List (Addr × Obj)} {σ : L2.St} {s : Shared} {Z : List Addr} {S : Wd → Prop} {tb : Addr → Sp2 → Prop} {m : Nat}
theorem go_eq (tk : TbOk X m tb) (n : Nat) : GoEq X pins σ Z S tb m n := fun a b c h H W A x y u v s hr hA na nb ha hb rx ry J => by
  have go := go_rc (pins := pins) (σ := σ) (Z := Z) (S := S) tk n
  by_cases hd : ∃ p q, Py 64 a p ∧ Py 64 b q ∧ c = PyData.eqv p q
  · obtain ⟨p, q, hp, hq, rfl⟩ := hd
    exact (rc_data hp hq hr ha hb rx ry J).2
  · have hx : (∃ p, x = .ref p) ∨ (x = .non ∧ ∃ q, y = .ref q) := by
      cases h with
      | data p q => exact absurd ⟨_, _, p, q, rfl⟩ hd
      | lstN _ => cases ha; exact .inl ⟨_, rfl⟩
      | lst _ _ => cases ha; exact .inl ⟨_, rfl⟩
      | tup _ _ => cases ha; exact .inl ⟨_, rfl⟩
      | dicN _ => cases ha; exact .inl ⟨_, rfl⟩
      | dic _ _ => cases ha; exact .inl ⟨_, rfl⟩
      | obj _ _ _ _ _ _ => cases ha; exact .inl ⟨_, rfl⟩
      | objN _ _ _ => cases ha; cases hb; exact .inr ⟨rfl, _, rfl⟩
    rcases hx with ⟨p, rfl⟩ | ⟨rfl, q, rfl⟩
    rotate_left
    · cases (show u = Value.none from rx)
      cases (show v = Value.ref q from ry)
      exact EqJ_of_non (go a b c h H W A .non (.ref q) _ _ s hr hA na nb ha hb rx ry J)
    cases (show u = Value.ref p from rx)
    by_cases hv : v = .ref p
    · subst hv
      cases ry.inj (show L2.RelV (.ref p) (.ref p) from rfl)
      obtain ⟨H', W', I, g, ok, hS⟩ := id J
      have e := at_inj I na nb (ha.grow g) (hb.grow g)
      have hc := eqR_self I h e (ha.grow g)
      exact SeqAt.EqJ.same ⟨hc, J⟩
    · exact EqJ_of_ref hv (go a b c h H W A _ y _ v s hr hA na nb ha hb rx ry J)
/-- == at the top -/
def r2EqO (K : PySem.W.Frag) (tb : Addr → Sp2 → Prop) : R22 := fun a b W Q => ∃ (n : Nat) (S : Wd → Prop) (c : Bool), n ≤ 8 ∧ nf a = true ∧ nf b = true ∧ S W ∧ EqR K S tb n a b c ∧ ∀ W', S W' → Q (.bl c) W'
def rEqX (K : PySem.W.Frag) (tb : Addr → Sp2 → Prop) : R2 := fun x y H Q => ∃ Z W a b Q2, WOk K Z H W ∧ At K (bs Z H W) W x a ∧ At K (bs Z H W) W y b ∧ r2EqO K tb a b W Q2 ∧ Co K Z H W Q2 Q
theorem pl_nf {d : D} (h : nf d = true) : Pl d := by cases d <;> first | trivial | (unfold nf at h; cases h)
theorem l_eqO {K : PySem.W.Frag} : L22 K (rEqX K tb) (r2EqO K tb) := fun Z x y a b H W Q Q2 ok s1 s2 h co => by
  obtain ⟨n, S, c, hn, na, nb, r⟩ := id h
  exact ⟨Z, W, a, b, Q2, ok, s1.at (pl_nf na), s2.at (pl_nf nb), h, co⟩
theorem op_eqX (tk : TbOk X m tb) (hr : Room (m + 12) X.A) : OpR X (compareOp .Eq) (rEqX X.K tb) := by
  intro pins s σ H x y v u Q I rx ry h
  obtain ⟨Z, W, a, b, Q2, ok, ha, hb, ⟨n, S, c, hn, na, nb, hS, hE, hq⟩, co⟩ := h
  refine go_rc (pins := pins) (σ := σ) (Z := Z) (S := S) tk n a b c hE H W X.A x y v u s (hr.mono (by omega)) (fun H s I => I.env0) na nb ha hb rx ry ⟨H, W, I, .refl, ok, hS⟩ _ (fun s' q => ?_) (fun s' q => ?_)
  · obtain ⟨rfl, H', W', I', g, ok', hS'⟩ := q
    exact ⟨.bl true, H', I', rfl, co (.bl true) W' (.bl true) H' (hq W' hS') g ok' (At.bl (K := X.K) true)⟩
  · obtain ⟨rfl, H', W', I', g, ok', hS'⟩ := q
    exact ⟨.bl false, H', I', rfl, co (.bl false) W' (.bl false) H' (hq W' hS') g ok' (At.bl (K := X.K) false)⟩
def r2NeO (K : PySem.W.Frag) (tb : Addr → Sp2 → Prop) : R22 := fun a b W Q => ∃ (n : Nat) (S : Wd → Prop) (c : Bool), n ≤ 8 ∧ nf a = true ∧ nf b = true ∧ S W ∧ (EqR K S tb n a b c ∧ (a = .non → ∃ p, Py 64 b p)) ∧ ∀ W', S W' → Q (.bl (!c)) W'
def rNeX (K : PySem.W.Frag) (tb : Addr → Sp2 → Prop) : R2 := fun x y H Q => ∃ Z W a b Q2, WOk K Z H W ∧ At K (bs Z H W) W x a ∧ At K (bs Z H W) W y b ∧ r2NeO K tb a b W Q2 ∧ Co K Z H W Q2 Q
theorem l_neO {K : PySem.W.Frag} : L22 K (rNeX K tb) (r2NeO K tb) := fun Z x y a b H W Q Q2 ok s1 s2 h co => by
  obtain ⟨n, S, c, hn, na, nb, r⟩ := id h
  exact ⟨Z, W, a, b, Q2, ok, s1.at (pl_nf na), s2.at (pl_nf nb), h, co⟩
/-- .. of objects: the inverse of their __eq__ -/
def NeOk (X : Cx) (tb : Addr → Sp2 → Prop) : Prop := ∀ C F, tb C F → PySem.W.findIn X.K (.ref C) "__ne__" = some (some (.builtin "object.__ne__")) ∧ PySem.W.mroIn X.K C (.type "object") = some true
section
variable {n : Nat} {a b : D} {c : Bool} {H : Hp} {W : Wd} {A : Around} {x y : V} {u v : Value}
theorem rn_lst (go : GoEq X pins σ Z S tb m n) {xs ys : List D} (h : EqRL X.K S tb n xs ys c) (hlen : xs.length = ys.length) (hr : Room (m + (n + 1) + 4) A) (hA : AOk X pins σ A) (na : nfL xs = true) (nb : nfL ys = true)
    (ha : At X.K (bs Z H W) W x (.lst xs)) (hb : At X.K (bs Z H W) W y (.lst ys)) (rx : L2.RelV x u) (ry : L2.RelV y v) (J : JX X pins σ Z S H W s) :
    SeqAt.RcNJ X.prog X.w X.xe A u v (fun s' => c = true ∧ JX X pins σ Z S H W s') (fun s' => c = false ∧ JX X pins σ Z S H W s') s := by
  cases ha with
  | lst e1 l1 =>
  cases hb with
  | lst e2 l2 =>
  rename_i p vs q ws
  cases (show u = Value.ref p from rx)
  cases (show v = Value.ref q from ry)
  have lv := l1.len
  have lw := l2.len
  refine SeqAt.RcNJ.lists (m := xs.length) (J := fun A' j s' => A' = A ∧ JX X pins σ Z S H W s' ∧ EqRL X.K S tb n (xs.drop j) (ys.drop j) c) (F := fun A' s' => A' = A ∧ JX X pins σ Z S H W s' ∧ c = false) hr.units0 (fun A' j s' hj => ?_) (fun A' s' hf => ?_) ⟨rfl, J, h⟩ (fun s' hj => ⟨?_, hj.2.1⟩) (fun s' hf => ⟨hf.2.2, hf.2.1⟩)
  · obtain ⟨rfl, J', hE⟩ := hj
    obtain ⟨i1, k1, r1, g1⟩ := lst_now e1 J'
    obtain ⟨i2, k2, r2, g2⟩ := lst_now e2 J'
    have z1 := r1.length
    have z2 := r2.length
    refine ⟨i1.toArray, i2.toArray, k1, k2, none, none, #[], #[], g1, g2, by simp; omega, by simp; omega, fun h1 h2 => ?_⟩
    have h1 : j < i1.length := by simpa using h1
    have h2 : j < i2.length := by simpa using h2
    obtain ⟨x1, f1, t1⟩ := vals_at r1 h1
    obtain ⟨x2, f2, t2⟩ := vals_at r2 h2
    have := turnL (P := fun _ => True) go (by omega) (by omega) hE hr.in1 hA.in1 na nb (atL_at l1 f1 (by omega)) (atL_at l2 f2 (by omega)) t1 t2 J'
    refine wpAny_mono this (fun r s2 h => ?_) fun _ _ z => z
    cases r with
    | true => simp at h; simpa using h
    | false => simp at h; simpa using h
  · obtain ⟨i1, k1, r1, g1⟩ := lst_now e1 hf.2.1
    obtain ⟨i2, k2, r2, g2⟩ := lst_now e2 hf.2.1
    have z1 := r1.length
    have z2 := r2.length
    exact ⟨i1.toArray, i2.toArray, k1, k2, none, none, #[], #[], g1, g2, by simp; omega, by simp; omega, trivial⟩
  · have hE := hj.2.2
    rw [List.drop_of_length_le (Nat.le_refl _), List.drop_of_length_le (by omega)] at hE
    exact eqRL_len hE
theorem rn_tup (go : GoEq X pins σ Z S tb m n) {xs ys : List D} (h : EqRL X.K S tb n xs ys c) (hlen : xs.length = ys.length) (hr : Room (m + (n + 1) + 4) A) (hA : AOk X pins σ A) (na : nfL xs = true) (nb : nfL ys = true)
    (ha : At X.K (bs Z H W) W x (.tup xs)) (hb : At X.K (bs Z H W) W y (.tup ys)) (rx : L2.RelV x u) (ry : L2.RelV y v) (J : JX X pins σ Z S H W s) :
    SeqAt.RcNJ X.prog X.w X.xe A u v (fun s' => c = true ∧ JX X pins σ Z S H W s') (fun s' => c = false ∧ JX X pins σ Z S H W s') s := by
  cases ha with
  | tup e1 l1 =>
  cases hb with
  | tup e2 l2 =>
  rename_i p vs q ws
  cases (show u = Value.ref p from rx)
  cases (show v = Value.ref q from ry)
  have lv := l1.len
  have lw := l2.len
  obtain ⟨H', W', I, g, ok, hS⟩ := id J
  obtain ⟨i1, r1, t1, _⟩ := I.tuple (sqT_up (g.bx.sqT e1))
  obtain ⟨i2, r2, t2, _⟩ := I.tuple (sqT_up (g.bx.sqT e2))
  have z1 := r1.length
  have z2 := r2.length
  refine SeqAt.RcNJ.tuples (items := i1.toArray) (items2 := i2.toArray) (J := fun A' j s' => A' = A ∧ JX X pins σ Z S H W s' ∧ EqRL X.K S tb n (xs.drop j) (ys.drop j) c) (F := fun A' s' => A' = A ∧ JX X pins σ Z S H W s' ∧ c = false) t1 t2 hr.units0 (by simp; omega) (fun A' j s' h1 h2 hj => ?_) ⟨rfl, J, h⟩ (fun s' hj => ⟨?_, hj.2.1⟩) (fun s' hf => ⟨hf.2.2, hf.2.1⟩)
  · obtain ⟨rfl, J', hE⟩ := hj
    have h1 : j < i1.length := by simpa using h1
    have h2 : j < i2.length := by simpa using h2
    obtain ⟨x1, f1, t1⟩ := vals_at r1 h1
    obtain ⟨x2, f2, t2⟩ := vals_at r2 h2
    have := turnL (P := fun _ => True) go (by omega) (by omega) hE hr.in1 hA.in1 na nb (atL_at l1 f1 (by omega)) (atL_at l2 f2 (by omega)) t1 t2 J'
    refine wpAny_mono this (fun r s2 h => ?_) fun _ _ z => z
    cases r with
    | true => simp at h; simpa using h
    | false => simp at h; simpa using h
  · have hE := hj.2.2
    rw [show i1.toArray.size = xs.length by simp; omega, List.drop_of_length_le (Nat.le_refl _), List.drop_of_length_le (by omega)] at hE
    exact eqRL_len hE
theorem rn_dic (go : GoEq X pins σ Z S tb m n) {xs ys : List (Key × D)} (h : EqRK X.K S tb n ys xs c) (hlen : xs.length = ys.length) (hr : Room (m + (n + 1) + 4) A) (hA : AOk X pins σ A) (na : nfK xs = true) (nb : nfK ys = true)
    (ha : At X.K (bs Z H W) W x (.dic xs)) (hb : At X.K (bs Z H W) W y (.dic ys)) (rx : L2.RelV x u) (ry : L2.RelV y v) (J : JX X pins σ Z S H W s) :
    SeqAt.RcNJ X.prog X.w X.xe A u v (fun s' => c = true ∧ JX X pins σ Z S H W s') (fun s' => c = false ∧ JX X pins σ Z S H W s') s := by
  cases ha with
  | dic e1 l1 =>
  cases hb with
  | dic e2 l2 =>
  rename_i p vs q ws
  cases (show u = Value.ref p from rx)
  cases (show v = Value.ref q from ry)
  obtain ⟨H', W', I, g, ok, hS⟩ := id J
  obtain ⟨H1, oa, I1, g1, ok1, f1, _⟩ := lock2 I ok (g.bx.dk _ _ e1)
  obtain ⟨H2, ob, I2, g2, ok2, f2, _⟩ := lock2 I1 ok1 (g1.bx.dk _ _ (g.bx.dk _ _ e2))
  have f1' := g2.bx.eq _ _ rfl f1
  have gg := (g.trans g1).trans g2
  obtain ⟨na1, _, _, es, ep, ka, da, _, kva, dA⟩ := I2.frzK (bs_le f1')
  obtain ⟨nb1, _, _, es', ep', kb, db, _, kvb, dB⟩ := I2.frzK (bs_le f2)
  have J2 : JX X pins σ Z S H2 W' s := ⟨H2, W', I2, .refl, ok2, hS⟩
  have la := l1.len
  have lb := l2.len
  have lka := (kv_keys kva)
  have lkb := (kv_keys kvb)
  have lka2 : vs.length = ka.length := by simpa using congrArg List.length lka
  have lkb2 : ws.length = kb.length := by simpa using congrArg List.length lkb
  have a1 := l1.mono gg.bx gg.dm.dt
  have a2 := l2.mono gg.bx gg.dm.dt
  refine PySem.W.rcNJ_dicts (knd := mixKind X.prog X.w) (ka := ka) (kb := kb) (J := fun j s' => JX X pins σ Z S H2 W' s' ∧ EqRK X.K S tb n ys (xs.drop j) c) (F := fun s' => JX X pins σ Z S H2 W' s' ∧ c = false) na1 nb1 da db (fun i s' hj => ?_) dA.dictOf dB.dictOf (by omega) hr.units0 (fun i s' k v0 hj hk => ?_) ⟨J2, h⟩ (fun s' hj => ⟨?_, hj.1.of gg⟩) (fun s' hf => ⟨hf.2, hf.1.of gg⟩)
  · obtain ⟨H3, W3, I3, g3, ok3, _⟩ := hj.1
    exact ⟨(I3.hok p _ (bs_le (g3.bx.eq _ _ rfl f1'))).1, (I3.hok q _ (bs_le (g3.bx.eq _ _ rfl f2))).1⟩
  · obtain ⟨J3, hE⟩ := hj
    obtain ⟨x1, k1, r1⟩ := kv_get kva hk
    obtain ⟨d1, k2, at1⟩ := atK_get a1 k1
    have hi := (List.getElem?_eq_some_iff.mp k2)
    obtain ⟨hi, hd⟩ := hi
    rw [List.drop_eq_getElem_cons hi, hd] at hE
    have n1 := nfK_get na k2
    rcases a2.val (k := k) with ⟨hn, hv⟩ | ⟨d2, v2, hn, hv, at2⟩
    · rcases kv_val (k := k) kvb with ⟨_, hb⟩ | ⟨_, _, hb, _⟩
      · rw [hb]
        cases hE with
        | miss _ => exact ⟨J3, rfl⟩
        | no h1 _ => rw [hn] at h1; cases h1
        | yes h1 _ _ => rw [hn] at h1; cases h1
      · rw [hv] at hb; cases hb
    · rcases kv_val (k := k) kvb with ⟨hb, _⟩ | ⟨v3, u3, hb, hc, r3⟩
      · rw [hv] at hb; cases hb
      · rw [hv] at hb
        cases hb
        rw [hc]
        have n2 := nfK_lk nb hn
        cases hE with
        | miss h1 => rw [hn] at h1; cases h1
        | no h1 h2 =>
          rw [hn] at h1
          cases h1
          refine wpAny_mono (go _ _ _ h2 H2 W' A.in1 x1 v2 v0 u3 s' hr.in1 hA.in1 n1 n2 at1 at2 r1 r3 J3) (fun r s2 h => ?_) fun _ _ z => z
          cases r with
          | true => simp at h
          | false => simpa using h
        | yes h1 h2 h3 =>
          rw [hn] at h1
          cases h1
          refine wpAny_mono (go _ _ _ h2 H2 W' A.in1 x1 v2 v0 u3 s' hr.in1 hA.in1 n1 n2 at1 at2 r1 r3 J3) (fun r s2 h => ?_) fun _ _ z => z
          cases r with
          | true => simp at h; simpa using ⟨h, h3⟩
          | false => simp at h
  · have hE := hj.2
    rw [List.drop_of_length_le (by omega)] at hE
    exact eqRK_nil hE
theorem lstN_lens {p q : Addr} {vs ws : List V} (e1 : bs Z H W p = some (.lst vs)) (e2 : bs Z H W q = some (.lst ws)) (hlen : vs.length ≠ ws.length) (hr : Room (m + n + 4) A) (J : JX X pins σ Z S H W s) :
    SeqAt.RcNJ X.prog X.w X.xe A (.ref p) (.ref q) (fun s' => false = true ∧ JX X pins σ Z S H W s') (fun s' => false = false ∧ JX X pins σ Z S H W s') s := by
  obtain ⟨i1, k1, r1, g1⟩ := lst_now e1 J
  obtain ⟨i2, k2, r2, g2⟩ := lst_now e2 J
  have z1 := r1.length
  have z2 := r2.length
  exact SeqAt.RcNJ.lists_len (items := i1.toArray) (items2 := i2.toArray) ⟨_, g1, rfl, _, rfl⟩ ⟨_, g2, rfl, _, rfl⟩ (by simp; omega) hr.units0 ⟨rfl, J⟩
theorem dicN_lens {xs ys : List (Key × D)} (ha : At X.K (bs Z H W) W x (.dic xs)) (hb : At X.K (bs Z H W) W y (.dic ys)) (rx : L2.RelV x u) (ry : L2.RelV y v) (hlen : xs.length ≠ ys.length) (hr : Room (m + n + 4) A) (J : JX X pins σ Z S H W s) :
    SeqAt.RcNJ X.prog X.w X.xe A u v (fun s' => false = true ∧ JX X pins σ Z S H W s') (fun s' => false = false ∧ JX X pins σ Z S H W s') s := by
  cases ha with
  | dic e1 l1 =>
  cases hb with
  | dic e2 l2 =>
  rename_i p vs q ws
  cases (show u = Value.ref p from rx)
  cases (show v = Value.ref q from ry)
  obtain ⟨H', W', I, g, ok, hS⟩ := id J
  obtain ⟨_, n1, ka, kva, dA⟩ := Rd.ok (Rd.up (g.bx.dk _ _ e1)) I.hok
  obtain ⟨_, n2, kb, kvb, dB⟩ := Rd.ok (Rd.up (g.bx.dk _ _ e2)) I.hok
  have lka2 : vs.length = ka.length := by simpa using congrArg List.length (kv_keys kva)
  have lkb2 : ws.length = kb.length := by simpa using congrArg List.length (kv_keys kvb)
  have la := l1.len
  have lb := l2.len
  have hne : (ka.length == kb.length) = false := by simp; omega
  refine fun Q qt qf => PySem.W.rcN_dicts (r := false) n1 n2 dA dB hr.units0 (fun e => absurd e (by omega)) X.xe Q ?_
  rw [hne]
  exact qf _ ⟨rfl, J⟩
theorem rn_data {p0 q0 : PyData} (p : Py 64 a p0) (q : Py 64 b q0) (hr : Room (m + n + 4) A) (ha : At X.K (bs Z H W) W x a) (hb : At X.K (bs Z H W) W y b) (rx : L2.RelV x u) (ry : L2.RelV y v) (J : JX X pins σ Z S H W s) :
    SeqAt.RcNJ X.prog X.w X.xe A u v (fun s' => PyData.eqv p0 q0 = true ∧ JX X pins σ Z S H W s') (fun s' => PyData.eqv p0 q0 = false ∧ JX X pins σ Z S H W s') s := by
  obtain ⟨H', W', I, g, ok, hS⟩ := id J
  obtain ⟨as, r1⟩ := Dp.reads I _ _ _ (p.dp (ha.grow g)) rx
  obtain ⟨bs, r2⟩ := Dp.reads I _ _ _ (q.dp (hb.grow g)) ry
  have hu := hr.units
  have h1 := p.ok
  have h2 := q.ok
  refine fun Q qt qf => SeqAt.compareNe_reads r1 r2 h1.1 h2.1 (by omega) ?_
  cases e : PyData.eqv p0 q0 with
  | true => exact qt _ ⟨e, J⟩
  | false => exact qf _ ⟨e, J⟩
theorem rn_obj (tk : TbOk X m tb) (tn : NeOk X tb) {C : Addr} {fs : List (Str × D)} {F : Sp2} {t : Value} (hC : tb C F) (hF : ∀ W, S W → F [.obj C fs, b] W (fun r W' => r = .bl c ∧ S W') fun _ _ _ => False) (ty : ∀ W, S W → TyD X.K W b t) (hn : PySem.W.notFirst X.K C t = true) (hr : Room (m + n + 4) A) (hA : AOk X pins σ A)
    (ha : At X.K (bs Z H W) W x (.obj C fs)) (hb : At X.K (bs Z H W) W y b) (rx : L2.RelV x u) (ry : L2.RelV y v) (J : JX X pins σ Z S H W s) :
    SeqAt.RcNJ X.prog X.w X.xe A u v (fun s' => c = true ∧ JX X pins σ Z S H W s') (fun s' => c = false ∧ JX X pins σ Z S H W s') s := by
  intro Q qt qf
  obtain ⟨H', W', I, g, ok, hS⟩ := id J
  obtain ⟨f, CX, sp, k0, hk0, d, fn, l, hx⟩ := tk C F hC
  have ha' := ha.grow g
  have hb' := hb.grow g
  cases ha with
  | obj e l1 =>
  rename_i p dx vs
  cases (show u = Value.ref p from rx)
  have ins : Ins H' p C := ⟨dx, vs, bs_le (g.bx.eq _ _ rfl e)⟩
  obtain ⟨_, _, Ji⟩ := ins.at I
  obtain ⟨P, Zk, pk, _⟩ := kit_of I ry (TyX_of (Sv.of hb') ok (ty W' hS))
  have hu := hr.un
  refine PySem.W.fr_ne (tb := t) (by omega) I.kIn Ji (Zk.ty _ _ I.kIn pk) hn (tn C F hC).1 (tn C F hC).2 d.at_ d.fn
    (run_op (Q := fun r H2 => r = .bl c ∧ ∃ W2, Grow Z H' W' H2 W2 ∧ WOk X.K Z H2 W2 ∧ S W2) (E := fun _ _ _ => False) fn ((hr.mono (show k0 + 1 ≤ m + n + 4 by omega)).in1) (hA.in1 _ _ I) hx I (.cons rx (.cons ry .nil)) (l _ _ _ _ ⟨Z, [.obj C fs, b], W', _, _, ok, .cons ha' (.cons hb' .nil), hF W' hS, ?_, ?_⟩) ?_)
  · rintro r W2 v2 H2 ⟨rfl, hS2⟩ g2 ok2 sv
    cases (show At _ _ _ v2 _ from sv)
    exact ⟨rfl, W2, g2, ok2, hS2⟩
  · intro _ _ _ _ _ _ z
    exact z.elim
  · rintro r u2 s2 H2 I2 rv ⟨rfl, W2, g2, ok2, hS2⟩
    cases (show u2 = Value.bool c from rv)
    have J2 : JX X pins σ Z S H W s2 := ⟨H2, W2, I2, g.trans g2, ok2, hS2⟩
    cases c with
    | true => exact qt _ ⟨rfl, J2⟩
    | false => exact qf _ ⟨rfl, J2⟩
theorem go_rn (tk : TbOk X m tb) (tn : NeOk X tb) : ∀ n (a b : D) (c : Bool), EqR X.K S tb n a b c → (a = .non → ∃ p, Py 64 b p) → ∀ (H : Hp) (W : Wd) (A : Around) (x y : V) (u v : Value) (s : Shared), Room (m + n + 4) A → AOk X pins σ A → nf a = true → nf b = true →
    At X.K (bs Z H W) W x a → At X.K (bs Z H W) W y b → L2.RelV x u → L2.RelV y v → JX X pins σ Z S H W s → SeqAt.RcNJ X.prog X.w X.xe A u v (fun s' => c = true ∧ JX X pins σ Z S H W s') (fun s' => c = false ∧ JX X pins σ Z S H W s') s := by
  intro n a b c h hno H W A x y u v s hr hA na nb ha hb rx ry J
  cases h with
  | objN _ _ _ =>
    obtain ⟨p, hp⟩ := hno rfl
    cases hp
  | data p q => exact rn_data (m := m) (n := n) p q hr ha hb rx ry J
  | lstN hl =>
    cases ha with
    | lst e1 l1 =>
    cases hb with
    | lst e2 l2 =>
    rename_i p vs q ws
    cases (show u = Value.ref p from rx)
    cases (show v = Value.ref q from ry)
    exact lstN_lens (m := m) (n := n) e1 e2 (by rw [l1.len, l2.len]; exact hl) hr J
  | dicN hl => exact dicN_lens (m := m) (n := n) ha hb rx ry hl hr J
  | obj h1 h2 _ h4 h5 _ => exact rn_obj (n := n) tk tn h1 h2 (fun W _ => h4 W) h5 hr hA ha hb rx ry J
  | lst h1 h2 =>
    unfold nf at na nb
    exact rn_lst (go_eq tk _) h1 h2 hr hA na nb ha hb rx ry J
  | tup h1 h2 =>
    unfold nf at na nb
    exact rn_tup (go_eq tk _) h1 h2 hr hA na nb ha hb rx ry J
  | dic h1 h2 =>
    unfold nf at na nb
    exact rn_dic (go_eq tk _) h1 h2 hr hA na nb ha hb rx ry J
end
theorem op_neX (tk : TbOk X m tb) (tn : NeOk X tb) (hr : Room (m + 12) X.A) : OpR X (compareOp .NotEq) (rNeX X.K tb) := by
  intro pins s σ H x y v u Q I rx ry h
  obtain ⟨Z, W, a, b, Q2, ok, ha, hb, ⟨n, S, c, hn, na, nb, hS, ⟨hE, hno⟩, hq⟩, co⟩ := h
  refine go_rn (pins := pins) (σ := σ) (Z := Z) (S := S) tk tn n a b c hE hno H W X.A x y v u s (hr.mono (by omega)) (fun H s I => I.env0) na nb ha hb rx ry ⟨H, W, I, .refl, ok, hS⟩ _ (fun s' q => ?_) (fun s' q => ?_)
  · obtain ⟨rfl, H', W', I', g, ok', hS'⟩ := q
    exact ⟨.bl false, H', I', rfl, co (.bl false) W' (.bl false) H' (hq W' hS') g ok' (At.bl (K := X.K) false)⟩
  · obtain ⟨rfl, H', W', I', g, ok', hS'⟩ := q
    exact ⟨.bl true, H', I', rfl, co (.bl true) W' (.bl true) H' (hq W' hS') g ok' (At.bl (K := X.K) true)⟩
/-- .. from the program's facts -/
def TbOkP (P : Program) (w : World) (K : PySem.W.Frag) (mg : Str → Option Value) (base : Heap) (m : Nat) (tb : Addr → Sp2 → Prop) : Prop := ∀ C F, tb C F → ∃ g k, k ≤ m ∧ Dun K C "__eq__" g ∧ FnR P w K mg base CX0 k g (spL K F)
theorem tbk (h : TbOkP X.prog X.w X.K X.mg X.base m tb) : TbOk X m tb := fun C F t => by
  obtain ⟨g, k, hk, d, f⟩ := h C F t
  exact ⟨g, CX0, _, k, hk, d, f, spIs, pass0⟩
def NeOkP (K : PySem.W.Frag) (tb : Addr → Sp2 → Prop) : Prop := ∀ C F, tb C F → PySem.W.findIn K (.ref C) "__ne__" = some (some (.builtin "object.__ne__")) ∧ PySem.W.mroIn K C (.type "object") = some true
end
end Fr
set_option Elab.async false
set_option linter.all false
set_option maxRecDepth 100000
set_option maxHeartbeats 4000000
namespace Fr
open PySem PySem.Spec PyProof.Rows L2
mutual
def nfE : E → Bool
  | .non => true | .bl _ => true | .int _ => true | .str _ => true | .ty _ => true
  | .lst ds => nfEs ds | .tup ds => nfEs ds | .dic kvs => nfEk kvs | .obj _ fs => nfEf fs
  | _ => false
def nfEs : List E → Bool
  | [] => true
  | d :: ds => nfE d && nfEs ds
def nfEk : List (Key × E) → Bool
  | [] => true
  | (_, d) :: ds => nfE d && nfEk ds
def nfEf : List (Str × E) → Bool
  | [] => true
  | (_, d) :: ds => nfE d && nfEf ds
end
section
variable {K : PySem.W.Frag}
mutual
theorem nf_t : ∀ e : E, nfE e = true → nf (tD K e) = true
  | .non, _ => by simp [tD, nf]
  | .bl _, _ => by simp [tD, nf]
  | .int _, _ => by simp [tD, nf]
  | .str _, _ => by simp [tD, nf]
  | .ty _, _ => by simp [tD, nf]
  | .lst ds, h => by
    simp only [nfE] at h
    simp only [tD, nf]
    exact nfs_t ds h
  | .tup ds, h => by
    simp only [nfE] at h
    simp only [tD, nf]
    exact nfs_t ds h
  | .dic ds, h => by
    simp only [nfE] at h
    simp only [tD, nf]
    exact nfk_t ds h
  | .obj _ ds, h => by
    simp only [nfE] at h
    simp only [tD, nf]
    exact nff_t ds h
  | .fn _, h => by simp [nfE] at h
  | .scr _, h => by simp [nfE] at h
  | .cel _, h => by simp [nfE] at h
  | .ety _, h => by simp [nfE] at h
theorem nfs_t : ∀ e : List E, nfEs e = true → nfL (tDs K e) = true
  | [], _ => by simp [tDs, nfL]
  | d :: ds, h => by
    simp only [nfEs, Bool.and_eq_true] at h
    simp only [tDs, nfL, nf_t d h.1, nfs_t ds h.2, Bool.and_self]
theorem nfk_t : ∀ e : List (Key × E), nfEk e = true → nfK (tDk K e) = true
  | [], _ => by simp [tDk, nfK]
  | (k, d) :: ds, h => by
    simp only [nfEk, Bool.and_eq_true] at h
    simp only [tDk, nfK, nf_t d h.1, nfk_t ds h.2, Bool.and_self]
theorem nff_t : ∀ e : List (Str × E), nfEf e = true → nfF (tDf K e) = true
  | [], _ => by simp [tDf, nfF]
  | (k, d) :: ds, h => by
    simp only [nfEf, Bool.and_eq_true] at h
    simp only [tDf, nfF, nf_t d h.1, nff_t ds h.2, Bool.and_self]
end
end
/-- a class, what its __eq__ comes to, the __eq__ itself -/
structure ETb where
  cls : String
  f : List (Str × E) → E → Option Bool
  run : F3
def eqL (f : E → E → Option Bool) : List E → List E → Option Bool
  | [], [] => some true
  | x :: xs, y :: ys => (f x y).bind fun c => if c = true then eqL f xs ys else some false
  | _, _ => none
def eqK (f : E → E → Option Bool) (ys : List (Key × E)) : List (Key × E) → Option Bool
  | [] => some true
  | (k, a) :: xs => match lkE ys k with
    | none => some false
    | some b => (f a b).bind fun c => if c = true then eqK f ys xs else some false
def eqS (tb : List ETb) (f : E → E → Option Bool) : E → E → Option Bool
  | .lst xs, .lst ys => if xs.length = ys.length then eqL f xs ys else some false
  | .tup xs, .tup ys => if xs.length = ys.length then eqL f xs ys else none
  | .dic xs, .dic ys => if xs.length = ys.length then eqK f ys xs else some false
  | .obj C fs, b => (tb.find? fun e => e.cls == C).bind fun e => e.f fs b
  | .non, .obj C fs => (tb.find? fun e => e.cls == C).bind fun e => e.f fs .non
  | _, _ => none
def eqE (tb : List ETb) : Nat → E → E → Option Bool
  | 0, _, _ => none
  | n + 1, a, b => match pyE 64 a, pyE 64 b with
    | some p, some q => some (PyData.eqv p q)
    | _, _ => eqS tb (eqE tb n) a b
def oEqO (tb : List ETb) : OE2 := fun a b _ => if nfE a = true ∧ nfE b = true then (eqE tb 8 a b).map .bl else none
def oNeO (tb : List ETb) : OE2 := fun a b _ => if nfE a = true ∧ nfE b = true ∧ (!isNonE a || (pyE 64 b).isSome) = true then (eqE tb 8 a b).map fun c => .bl (!c) else none
/-- what a class's entry must keep -/
structure EqOk (cs : List String) (e : ETb) : Prop where
  run : ∀ fs b c, e.f fs b = some c → ∀ W, e.run [.obj e.cls fs, b] W = .ret (.bl c) W
  refl : ∀ K, IsF K cs → ∀ fs b c, e.f fs b = some c → tD K b = tD K (.obj e.cls fs) → c = true
  ty : ∀ fs b c, e.f fs b = some c → (∃ C gs, b = .obj C gs ∧ C ∈ cs) ∨ (∃ t, tyE b = some (.b t) ∧ t ∈ offTys)
def tb2 (K : PySem.W.Frag) (tb : List ETb) (C : Addr) (F : Sp2) : Prop := ∃ e ∈ tb, C = He.ga K e.cls ∧ F = spF K e.run
/-- no class of the program goes first against another -/
def NfOk (K : PySem.W.Frag) (cs : List String) (tb : List ETb) : Prop := ∀ e ∈ tb, (∀ C ∈ cs, PySem.W.notFirst K (He.ga K e.cls) (.ref (He.ga K C)) = true) ∧ (∀ t ∈ offTys, PySem.W.notFirst K (He.ga K e.cls) (.type t) = true) ∧ PySem.W.mroIn K (He.ga K e.cls) (.type "NoneType") = some false
section
variable {K : PySem.W.Frag} {cs : List String} {tb : List ETb} {W : Wd} {W3 : WE}
theorem len_tDs {ds : List E} : (tDs K ds).length = ds.length := by rw [tDs_map, List.length_map]
theorem len_tDk {ds : List (Key × E)} : (tDk K ds).length = ds.length := by rw [tDk_map, List.length_map]
theorem lk_tDk {ds : List (Key × E)} {k : Key} : lkD (tDk K ds) k = (lkE ds k).map (tD K) := by
  rw [tDk_map]
  unfold lkD lkE
  rw [List.find?_map, Option.map_map, Option.map_map]
  rfl
def SS (K : PySem.W.Frag) (W : Wd) (W3 : WE) : Wd → Prop := fun W' => Kp W W' ∧ Shr K W3 W'
theorem eqL_ok {n : Nat} (ih : ∀ a b c, eqE tb n a b = some c → nfE a = true → nfE b = true → EqR K (SS K W W3) (tb2 K tb) n (tD K a) (tD K b) c) : ∀ {xs ys : List E} {c : Bool}, eqL (eqE tb n) xs ys = some c → nfEs xs = true → nfEs ys = true → EqRL K (SS K W W3) (tb2 K tb) n (tDs K xs) (tDs K ys) c
  | [], [], c, h, _, _ => by
    simp only [eqL] at h
    cases h
    simp only [tDs]
    exact .nil
  | [], _ :: _, c, h, _, _ => by simp [eqL] at h
  | _ :: _, [], c, h, _, _ => by simp [eqL] at h
  | x :: xs, y :: ys, c, h, n1, n2 => by
    simp only [nfEs, Bool.and_eq_true] at n1 n2
    simp only [eqL] at h
    obtain ⟨k, e, h⟩ := bind_some h
    have q := ih _ _ _ e n1.1 n2.1
    simp only [tDs]
    cases k with
    | true =>
      rw [if_pos rfl] at h
      exact .yes q (eqL_ok ih h n1.2 n2.2)
    | false =>
      rw [if_neg (by decide)] at h
      cases h
      exact .no q
theorem nfk_lk {ys : List (Key × E)} (h : nfEk ys = true) {k : Key} {b : E} (e : lkE ys k = some b) : nfE b = true := by
  induction ys with
  | nil => cases e
  | cons a l ih =>
    obtain ⟨k0, a⟩ := a
    simp only [nfEk, Bool.and_eq_true] at h
    unfold lkE at e
    rw [List.find?_cons] at e
    by_cases z : k0 = k
    · rw [show decide ((k0, a).1 = k) = true from decide_eq_true z] at e
      cases e
      exact h.1
    · rw [show decide ((k0, a).1 = k) = false from decide_eq_false z] at e
      exact ih h.2 e
theorem eqK_ok {n : Nat} (ih : ∀ a b c, eqE tb n a b = some c → nfE a = true → nfE b = true → EqR K (SS K W W3) (tb2 K tb) n (tD K a) (tD K b) c) {ys : List (Key × E)} (n2 : nfEk ys = true) : ∀ {xs : List (Key × E)} {c : Bool}, eqK (eqE tb n) ys xs = some c → nfEk xs = true → EqRK K (SS K W W3) (tb2 K tb) n (tDk K ys) (tDk K xs) c
  | [], c, h, _ => by
    simp only [eqK] at h
    cases h
    rw [show tDk K [] = [] by simp only [tDk]]
    exact .nil
  | (k, a) :: xs, c, h, n1 => by
    simp only [nfEk, Bool.and_eq_true] at n1
    simp only [eqK] at h
    rw [show tDk K ((k, a) :: xs) = (k, tD K a) :: tDk K xs by simp only [tDk]]
    cases z : lkE ys k with
    | none =>
      rw [z] at h
      cases h
      exact .miss (by rw [lk_tDk, z]; rfl)
    | some b =>
      rw [z] at h
      obtain ⟨c0, e, h⟩ := bind_some h
      have q := ih _ _ _ e n1.1 (nfk_lk n2 z)
      have lk : lkD (tDk K ys) k = some (tD K b) := by rw [lk_tDk, z]; rfl
      cases c0 with
      | true =>
        rw [if_pos rfl] at h
        exact .yes lk q (eqK_ok ih n2 h n1.2)
      | false =>
        rw [if_neg (by decide)] at h
        cases h
        exact .no lk q
theorem eqE_ok (F : IsF K cs) (tk : ∀ e ∈ tb, EqOk cs e) (nk : NfOk K cs tb) (sh : Shr K W3 W) : ∀ (n : Nat) (a b : E) (c : Bool), eqE tb n a b = some c → nfE a = true → nfE b = true → EqR K (SS K W W3) (tb2 K tb) n (tD K a) (tD K b) c
  | 0, a, b, c, h, _, _ => by cases h
  | n + 1, a, b, c, h, n1, n2 => by
    have ih := eqE_ok F tk nk sh n
    unfold eqE at h
    split at h
    · rename_i p q e1 e2
      cases h
      exact .data (pyE_ok 64 _ _ e1) (pyE_ok 64 _ _ e2)
    · unfold eqS at h
      split at h
      · rename_i xs ys
        simp only [nfE] at n1 n2
        simp only [tD]
        split at h
        · rename_i hl
          exact .lst (eqL_ok ih h n1 n2) (by rw [len_tDs, len_tDs]; exact hl)
        · rename_i hl
          cases h
          exact .lstN (by rw [len_tDs, len_tDs]; exact hl)
      · rename_i xs ys
        simp only [nfE] at n1 n2
        simp only [tD]
        split at h
        · rename_i hl
          exact .tup (eqL_ok ih h n1 n2) (by rw [len_tDs, len_tDs]; exact hl)
        · cases h
      · rename_i xs ys
        simp only [nfE] at n1 n2
        simp only [tD]
        split at h
        · rename_i hl
          exact .dic (eqK_ok ih n2 h n1) (by rw [len_tDk, len_tDk]; exact hl)
        · rename_i hl
          cases h
          exact .dicN (by rw [len_tDk, len_tDk]; exact hl)
      · rename_i C fs hno
        obtain ⟨e, he, h2⟩ := bind_some h
        have hm := List.mem_of_find?_eq_some he
        have hc := List.find?_some he
        have hc : e.cls = C := by simpa using hc
        subst hc
        have ok := tk e hm
        have to : tD K (.obj e.cls fs) = .obj (He.ga K e.cls) (tDf K fs) := by simp only [tD]
        have hF : ∀ W1, SS K W W3 W1 → spF K e.run [.obj (He.ga K e.cls) (tDf K fs), tD K b] W1 (fun r W' => r = .bl c ∧ SS K W W3 W') fun _ _ _ => False := fun W1 hS => by
          refine ⟨[.obj e.cls fs, b], W3, by simp only [tDs, tD], hS.2, ?_⟩
          rw [ok.run fs b c h2 W3]
          exact fun W' k s => ⟨by simp only [tD], hS.1.trans k, s⟩
        have hr : tD K b = .obj (He.ga K e.cls) (tDf K fs) → c = true := fun z => ok.refl K F fs b c h2 (by rw [z, to])
        rw [to]
        rcases ok.ty fs b c h2 with ⟨D, gs, rfl, hD⟩ | ⟨t, ht, hm2⟩
        · refine .obj (t := .ref (He.ga K D)) ⟨e, hm, rfl, rfl⟩ hF hr (fun W' => ?_) ((nk e hm).1 D hD) (pl_tD _)
          simp only [tD]
          exact .obj rfl (F.cl D hD)
        · refine .obj (t := .type t) ⟨e, hm, rfl, rfl⟩ hF hr (fun W' => ?_) ((nk e hm).2.1 t hm2) (pl_tD _)
          cases b <;> simp only [tyE] at ht <;> cases ht <;> simp only [tD]
          · exact .non
          · exact .bl _
          · exact .int _
          · exact .str _
          · exact .lst rfl
          · exact .tup _
          · exact .dic rfl
      · rename_i C fs hno
        obtain ⟨e, he, h2⟩ := bind_some h
        have hm := List.mem_of_find?_eq_some he
        have hc := List.find?_some he
        have hc : e.cls = C := by simpa using hc
        subst hc
        have ok := tk e hm
        have to : tD K (.obj e.cls fs) = .obj (He.ga K e.cls) (tDf K fs) := by simp only [tD]
        have tn : tD K E.non = .non := by simp only [tD]
        rw [to, tn]
        refine .objN ⟨e, hm, rfl, rfl⟩ (fun W1 hS => ?_) (nk e hm).2.2
        refine ⟨[.obj e.cls fs, .non], W3, by simp only [tDs, tD], hS.2, ?_⟩
        rw [ok.run fs .non c h2 W3]
        exact fun W' k s => ⟨by simp only [tD], hS.1.trans k, s⟩
      · cases h
/-- operators of values that are no cells, that may run defs -/
def Lk2P (K : PySem.W.Frag) (r2 : R22) (o : OE2) : Prop := ∀ W W3 a b d (Q : DK), Shr K W3 W → o a b W3 = some d → (∀ W', Kp W W' → Shr K W3 W' → Q (tD K d) W') → r2 (tD K a) (tD K b) W Q
theorem v_opP {w0 kb : Wd} {Ex : XS2} {Ta Tb : T2} {ma mb : E3} {r2 : R22} {o : OE2} (l : Lk2P K r2 o) (h : EvP K w0 kb Ex Ta ma) (h2 : EvP K w0 kb Ex Tb mb) : EvP K w0 kb Ex (t2Op r2 Ta Tb) (e3Op o ma mb) := fun env W env3 W3 Q R sh st =>
  h env W env3 W3 _ R sh ((sat_bind.mp st).mono (fun x W4 q W1 k1 sh1 => h2 env W1 env3 W4 _ (R.step k1) sh1 ((sat_bind.mp q).mono (fun y W5 q2 W2 k2 sh2 => by
    obtain ⟨d, e, q3⟩ := sat_ofO q2
    exact l W2 W5 x y d _ sh2 e fun W' k s => q3 W' ((k1.trans k2).trans k) s) fun C fs W5 x => x.step k1)) fun _ _ _ x => x)
theorem k_eqO (F : IsF K cs) (tk : ∀ e ∈ tb, EqOk cs e) (nk : NfOk K cs tb) : Lk2P K (r2EqO K (tb2 K tb)) (oEqO tb) := fun W W3 a b d Q sh e q => by
  unfold oEqO at e
  split at e
  · rename_i hn
    obtain ⟨c, h, rfl⟩ := map_some e
    refine ⟨8, SS K W W3, c, Nat.le_refl _, nf_t a hn.1, nf_t b hn.2, ⟨.refl, sh⟩, eqE_ok F tk nk sh 8 a b c h hn.1 hn.2, fun W' s => ?_⟩
    have := q W' s.1 s.2
    simpa only [tD] using this
  · cases e
theorem k_neO (F : IsF K cs) (tk : ∀ e ∈ tb, EqOk cs e) (nk : NfOk K cs tb) : Lk2P K (r2NeO K (tb2 K tb)) (oNeO tb) := fun W W3 a b d Q sh e q => by
  unfold oNeO at e
  split at e
  · rename_i hn
    obtain ⟨c, h, rfl⟩ := map_some e
    have hz : tD K a = .non → ∃ p, Py 64 (tD K b) p := fun z => by
      have ha : isNonE a = true := by cases a <;> simp only [tD] at z <;> first | rfl | cases z
      have h3 := hn.2.2
      rw [ha, Bool.not_true, Bool.false_or] at h3
      obtain ⟨p, hp⟩ := Option.isSome_iff_exists.mp h3
      exact ⟨p, pyE_ok _ _ _ hp⟩
    refine ⟨8, SS K W W3, c, Nat.le_refl _, nf_t a hn.1, nf_t b hn.2.1, ⟨.refl, sh⟩, ⟨eqE_ok F tk nk sh 8 a b c h hn.1 hn.2.1, hz⟩, fun W' s => ?_⟩
    have := q W' s.1 s.2
    simpa only [tD] using this
  · cases e
end
end Fr
set_option Elab.async false
set_option linter.all false
set_option maxRecDepth 100000
set_option maxHeartbeats 4000000
namespace Fr
open PySem PySem.Spec PyProof.Rows L2
section
variable {K : PySem.W.Frag} {φ : Phi} {T Ta Tb : T2} {As : A2} {F : Sp2} {Ex : XK2} {E : XK} {C : Addr} {sp : Sp}
theorem insOf {Z : List Addr} {H : Hp} {W : Wd} {v : V} {d : D} {fs : List (Str × D)} (s : Sv K Z H W v d) (ok : WOk K Z H W) (e : vw W d = .obj C fs) : ∃ p, v = .ref p ∧ Ins H p C := by
  obtain ⟨p, dx, vs, rfl, e1, _⟩ := s.obj ok e
  exact ⟨p, rfl, dx, vs, e1⟩
/-- x in o, x not in o -/
def t2InO (C : Addr) (F : Sp2) (fb : Bool → Bool) (Ex : XK2) (Ta Tb : T2) : T2 := fun env W Q => Ta env W fun a W1 => Tb env W1 fun b W2 => ∃ fs, vw W2 b = .obj C fs ∧ Pl a ∧ Pl b ∧ F [b, a] W2 (fun r W' => ∃ c, r = .bl c ∧ Q (.bl (fb c)) W') Ex
theorem i_inO {fb : Bool → Bool} (l : SpIs K sp F) (hx : XOk K φ Ex E) : ∀ σ H Q, LE K φ (t2InO C F fb Ex Ta Tb) σ H Q → tOp (rInO C sp E fb) (LE K φ Ta) (LE K φ Tb) σ H Q := fun σ H Q ⟨Z, env, W, Q2, R, t, co⟩ =>
  ⟨Z, env, W, _, R, t, fun a W1 x H1 q1 g1 ok1 s1 => ⟨Z, env, W1, _, R.grow g1 ok1, q1, fun b W2 y H2 ⟨fs, e2, p1, p2, f⟩ g2 ok2 s2 => by
    obtain ⟨q, rfl, i2⟩ := insOf s2 ok2 e2
    have g := g1.trans g2
    refine ⟨q, rfl, i2, l _ _ _ _ ⟨Z, _, W2, _, _, ok2, .cons (s2.at p2) (.cons ((s1.grow g2).at p1) .nil), f, ?_, hx Z H2 W2 (R.grow g ok2).ph (R.grow g ok2).dm⟩⟩
    rintro r W3 v H3 ⟨c, rfl, q3⟩ g3 ok3 s3
    cases (show At _ _ _ v _ from s3)
    exact ⟨c, rfl, co _ W3 _ H3 q3 (g.trans g3) ok3 (At.bl (K := K) _)⟩⟩⟩
theorem log2_lt {n : Nat} (h : n < 1000000000000) : n.log2 < 1920 := by
  by_cases z : n = 0
  · subst z
    decide
  · rw [Nat.log2_lt z]
    exact Nat.lt_of_lt_of_le h (Nat.le_trans (show 1000000000000 ≤ 2 ^ 40 by decide) (Nat.pow_le_pow_right (by decide) (by decide)))
end
end Fr
set_option Elab.async false
set_option linter.all false
set_option maxRecDepth 100000
set_option maxHeartbeats 4000000
namespace Fr
open PySem PySem.Spec PyProof.Rows L2
def strOk : E → Option E
  | .str s => some (.str s)
  | _ => none
def e3InO (C : String) (f : F3) (fb : Bool → Bool) (a b : E3) : E3 := fun env W => (a env W).bind fun x W1 => (b env W1).bind fun y W2 => (ofO (isObjE C (vE W2 y)) W2).bind fun u W2 => (f [y, x] W2).bind fun r W3 => (ofO (isBlE r) W3).bind fun c W3 => .ret (.bl (fb c)) W3
section
variable {K : PySem.W.Frag} {w0 kb : Wd} {Ec : XK2} {Ex : XS2} {T Ta Tb : T2} {m ma mb : E3} {As : A2} {as_ : A3} {F : Sp2} {f : F3} {C : String}
theorem v_inOC {fb : Bool → Bool} (hf : FnE K F (calmF f)) (ha : EvP K w0 kb Ex Ta ma) (hb : EvP K w0 kb Ex Tb mb) : EvP K w0 kb Ex (t2InO (He.ga K C) F fb Ec Ta Tb) (e3InO C (calmF f) fb ma mb) := fun env W env3 W3 Q R sh st =>
  ha env W env3 W3 _ R sh ((sat_bind.mp st).mono (fun x W4 q W1 k1 sh1 => hb env W1 env3 W4 _ (R.step k1) sh1 ((sat_bind.mp q).mono (fun y W5 q2 W2 k2 sh2 => by
    obtain ⟨fs, he, q3⟩ := sat_ofO (sat_bind.mp q2)
    refine ⟨tDf K fs, rv_obj (vp y) sh2 he, pl_tD x, pl_tD y, ?_⟩
    have := fne_goC (Ed := Ec) (W := W) (Q := fun r W' => ∃ c, r = .bl c ∧ Q (.bl (fb c)) W') hf (k1.trans k2) sh2 ((sat_bind.mp q3).mono (fun r W6 q4 W' k s => by
      obtain ⟨c, e2, q5⟩ := sat_ofO (sat_bind.mp q4)
      cases isBl_some e2
      have := q5 W' k s
      simp only [tD] at this
      exact ⟨c, by simp only [tD], this⟩) fun _ _ _ x => x)
    simp only [tDs] at this
    exact this) fun _ _ _ x => x.step k1)) fun _ _ _ x => x)
end
end Fr
set_option Elab.async false
set_option linter.all false
set_option maxRecDepth 100000
set_option maxHeartbeats 4000000
namespace Fr
open PySem PySem.Spec PyProof.Rows L2
mutual
inductive PyQ : D → PyData → Prop
  | non : PyQ .non .none
  | bl (b : Bool) : PyQ (.bl b) (.bool b)
  | int (i : Int) : PyQ (.int i) (.int i)
  | str (s : Str) : PyQ (.str s) (.str s)
  | lst {ds : List D} {ps : List PyData} : PyQs ds ps → PyQ (.lst ds) (.list ps)
  | tup {ds : List D} {ps : List PyData} : PyQs ds ps → PyQ (.tup ds) (.tuple ps)
  | dic {kvs : List (Key × D)} {kds : List (PyData × PyData)} : PyQk kvs kds → PyQ (.dic kvs) (.dict kds)
inductive PyQs : List D → List PyData → Prop
  | nil : PyQs [] []
  | cons {d : D} {ds : List D} {p : PyData} {ps : List PyData} : PyQ d p → PyQs ds ps → PyQs (d :: ds) (p :: ps)
inductive PyQk : List (Key × D) → List (PyData × PyData) → Prop
  | nil : PyQk [] []
  | cons {k : Key} {d : D} {ds : List (Key × D)} {p : PyData} {ps : List (PyData × PyData)} : PyQ d p → PyQk ds ps → PyQk ((k, d) :: ds) ((kD k, p) :: ps)
end
section
variable {K : PySem.W.Frag} {Z : List Addr} {H : Hp} {W : Wd}
mutual
theorem PyQ.dq : ∀ {d : D} {p : PyData} {v : V}, PyQ d p → At K (bs Z H W) W v d → Dq K H v p
  | _, _, _, .non, a => by cases a; exact .non
  | _, _, _, .bl b, a => by cases a; exact .bl b
  | _, _, _, .int b, a => by cases a; exact .int b
  | _, _, _, .str b, a => by cases a; exact .str b
  | _, _, _, .lst l, a => by cases a with | lst e m => exact .lst (SqL.of (bs_le e)) (PyQs.dq l m)
  | _, _, _, .tup l, a => by cases a with | tup e m => exact .tup (sqT_up e) (PyQs.dq l m)
  | _, _, _, .dic l, a => by
    cases a with
    | dic e m =>
      obtain ⟨h1, h2⟩ := PyQk.dq l m
      exact .dic (Rd.up e) h1 h2
theorem PyQs.dq : ∀ {d : List D} {p : List PyData} {v : List V}, PyQs d p → AtL K (bs Z H W) W v d → DqAll K H v p
  | _, _, _, .nil, .nil => .nil
  | _, _, _, .cons a l, .cons b m => .cons (PyQ.dq a b) (PyQs.dq l m)
theorem PyQk.dq : ∀ {d : List (Key × D)} {p : List (PyData × PyData)} {v : List (Key × V)}, PyQk d p → AtK K (bs Z H W) W v d → DqAll K H (v.map (·.2)) (p.map (·.2)) ∧ p.map (·.1) = v.map fun kv => kD kv.1
  | _, _, _, .nil, .nil => ⟨.nil, rfl⟩
  | _, _, _, .cons a l, .cons b m => by
    obtain ⟨h1, h2⟩ := PyQk.dq l m
    exact ⟨.cons (PyQ.dq a b) h1, by simp only [List.map_cons, h2]⟩
end
end
theorem FnG.to {P : Program} {w : World} {K : PySem.W.Frag} {mg : Str → Option Value} {base : Heap} {CX : CXT} {k : Nat} {f : Addr} {fd : FuncData} {ps : List Str} {sp sp' : Sp} (F : FnG P w K mg base CX k f fd ps sp) (h : ∀ vs H Q E, sp' vs H Q E → sp vs H Q E) : FnG P w K mg base CX k f fd ps sp' :=
  ⟨fun vs H Q E s => F.len vs H Q E (h _ _ _ _ s), fun A outer s H args us vs Q E gd hr e0 hb r hs => F.run A outer s H args us vs Q E gd hr e0 hb r (h _ _ _ _ hs)⟩
end Fr
set_option Elab.async false
set_option linter.all false
set_option maxRecDepth 100000
set_option maxHeartbeats 4000000
namespace Fr
open PySem PySem.Spec PyProof.Rows L2
mutual
def pyQ : E → Option PyData
  | .non => some .none | .bl b => some (.bool b) | .int i => some (.int i) | .str s => some (.str s)
  | .lst ds => (pyQs ds).map .list | .tup ds => (pyQs ds).map .tuple | .dic kvs => (pyQk kvs).map .dict
  | _ => none
def pyQs : List E → Option (List PyData)
  | [] => some []
  | e :: es => (pyQ e).bind fun p => (pyQs es).map (p :: ·)
def pyQk : List (Key × E) → Option (List (PyData × PyData))
  | [] => some []
  | (k, e) :: es => (pyQ e).bind fun p => (pyQk es).map ((kD k, p) :: ·)
end
section
variable {K : PySem.W.Frag}
mutual
theorem pyQ_ok : ∀ (e : E) (p : PyData), pyQ e = some p → PyQ (tD K e) p
  | .non, p, h => by simp only [pyQ] at h; cases h; simp only [tD]; exact .non
  | .bl b, p, h => by simp only [pyQ] at h; cases h; simp only [tD]; exact .bl b
  | .int b, p, h => by simp only [pyQ] at h; cases h; simp only [tD]; exact .int b
  | .str b, p, h => by simp only [pyQ] at h; cases h; simp only [tD]; exact .str b
  | .lst ds, p, h => by
    simp only [pyQ] at h
    obtain ⟨q, h1, rfl⟩ := map_some h
    simp only [tD]
    exact .lst (pyQs_ok ds q h1)
  | .tup ds, p, h => by
    simp only [pyQ] at h
    obtain ⟨q, h1, rfl⟩ := map_some h
    simp only [tD]
    exact .tup (pyQs_ok ds q h1)
  | .dic ds, p, h => by
    simp only [pyQ] at h
    obtain ⟨q, h1, rfl⟩ := map_some h
    simp only [tD]
    exact .dic (pyQk_ok ds q h1)
  | .ty _, p, h => by simp only [pyQ] at h; cases h
  | .fn _, p, h => by simp only [pyQ] at h; cases h
  | .scr _, p, h => by simp only [pyQ] at h; cases h
  | .obj _ _, p, h => by simp only [pyQ] at h; cases h
  | .cel _, p, h => by simp only [pyQ] at h; cases h
  | .ety _, p, h => by simp only [pyQ] at h; cases h
theorem pyQs_ok : ∀ (e : List E) (p : List PyData), pyQs e = some p → PyQs (tDs K e) p
  | [], p, h => by simp only [pyQs] at h; cases h; simp only [tDs]; exact .nil
  | e :: es, p, h => by
    simp only [pyQs] at h
    obtain ⟨q, h1, h⟩ := bind_some h
    obtain ⟨r, h2, rfl⟩ := map_some h
    simp only [tDs]
    exact .cons (pyQ_ok e q h1) (pyQs_ok es r h2)
theorem pyQk_ok : ∀ (e : List (Key × E)) (p : List (PyData × PyData)), pyQk e = some p → PyQk (tDk K e) p
  | [], p, h => by simp only [pyQk] at h; cases h; simp only [tDk]; exact .nil
  | (k, e) :: es, p, h => by
    simp only [pyQk] at h
    obtain ⟨q, h1, h⟩ := bind_some h
    obtain ⟨r, h2, rfl⟩ := map_some h
    simp only [tDk]
    exact .cons (pyQ_ok e q h1) (pyQk_ok es r h2)
end
def LkLP (K : PySem.W.Frag) (rl : R2L) (o : OEL) : Prop := ∀ W W3 a d (Q : DK), Shr K W3 W → o a W3 = some d → Q (tD K d) W → rl (tDs K a) W Q
theorem v_cbP {w0 kb : Wd} {Ex : XS2} {As : A2} {as_ : A3} {rl : R2L} {o : OEL} (l : LkLP K rl o) (h : EvA K w0 kb Ex As as_) : EvP K w0 kb Ex (t2CB rl As) (e3CB o as_) := fun env W env3 W3 Q R sh st =>
  h env W env3 W3 _ R sh ((sat_bind.mp st).mono (fun x W4 q W1 k1 sh1 => by
    obtain ⟨d, e, q3⟩ := sat_ofO q
    exact l W1 W4 x d _ sh1 e (q3 W1 k1 sh1)) fun _ _ _ x => x)
end
end Fr
set_option Elab.async false
set_option linter.all false
set_option maxRecDepth 100000
set_option maxHeartbeats 4000000
namespace Fr
open PySem PySem.Spec PyProof.Rows L2
def fk1_e3InO (fb : Bool → Bool) (c : Bool) (W3 : WE) : Tr (E) := .ret (.bl (fb c)) W3
theorem q_fk1_e3InO {fb : Bool → Bool} {c : Bool} {W3 : WE} : fk1_e3InO fb c W3 = .ret (.bl (fb c)) W3 := rfl
def fk2_e3InO (fb : Bool → Bool) (r : E) (W3 : WE) : Tr (E) := (ofO (isBlE r) W3).bind  (fk1_e3InO fb)
theorem q_fk2_e3InO {fb : Bool → Bool} {r : E} {W3 : WE} : fk2_e3InO fb r W3 = (ofO (isBlE r) W3).bind  (fk1_e3InO fb) := rfl
def fk3_e3InO (f : F3) (fb : Bool → Bool) (x : E) (y : E) (u : List (Str × E)) (W2 : WE) : Tr (E) := (f [y, x] W2).bind  (fk2_e3InO fb)
theorem q_fk3_e3InO {f : F3} {fb : Bool → Bool} {x : E} {y : E} {u : List (Str × E)} {W2 : WE} : fk3_e3InO f fb x y u W2 = (f [y, x] W2).bind  (fk2_e3InO fb) := rfl
def fk4_e3InO (C : String) (f : F3) (fb : Bool → Bool) (x : E) (y : E) (W2 : WE) : Tr (E) := (ofO (isObjE C (vE W2 y)) W2).bind  (fk3_e3InO f fb x y)
theorem q_fk4_e3InO {C : String} {f : F3} {fb : Bool → Bool} {x : E} {y : E} {W2 : WE} : fk4_e3InO C f fb x y W2 = (ofO (isObjE C (vE W2 y)) W2).bind  (fk3_e3InO f fb x y) := rfl
def fk5_e3InO (C : String) (f : F3) (fb : Bool → Bool) (b : E3) (env : En3) (x : E) (W1 : WE) : Tr (E) := (b env W1).bind  (fk4_e3InO C f fb x)
theorem q_fk5_e3InO {C : String} {f : F3} {fb : Bool → Bool} {b : E3} {env : En3} {x : E} {W1 : WE} : fk5_e3InO C f fb b env x W1 = (b env W1).bind  (fk4_e3InO C f fb x) := rfl
theorem q_e3InO {C : String} {f : F3} {fb : Bool → Bool} {a : E3} {b : E3} {env : En3} {W : WE} : e3InO C f fb a b env W = (a env W).bind  (fk5_e3InO C f fb b env) := rfl
end Fr
set_option Elab.async false
set_option linter.all false
set_option maxRecDepth 100000
set_option maxHeartbeats 4000000
set_option Elab.async false
set_option linter.all false
set_option maxRecDepth 100000
set_option maxHeartbeats 4000000
set_option Elab.async false
set_option linter.all false
set_option maxRecDepth 100000
set_option maxHeartbeats 4000000
set_option Elab.async false
set_option linter.all false
set_option maxRecDepth 100000
set_option maxHeartbeats 4000000
namespace Fr
open PySem PySem.Spec PyProof.Rows L2
section
variable {K : PySem.W.Frag} {w0 kb : Wd} {Ec : XK2} {Ex : XS2} {As : A2} {as_ : A3}
/-- the candidates, side by side: what they let out is nothing -/
inductive CandE (K : PySem.W.Frag) : List (Addr × Sp2) → List (String × F3) → Prop
  | nil : CandE K [] []
  | cons {n : String} {F : Sp2} {f : F3} {cs : List (Addr × Sp2)} {fs : List (String × F3)} : FnE K F (calmF f) → CandE K cs fs → CandE K ((He.ga K n, F) :: cs) ((n, calmF f) :: fs)
theorem CandE.get {cs : List (Addr × Sp2)} {fs : List (String × F3)} (h : CandE K cs fs) : ∀ n f, fs.lookup n = some f → ∃ F g, (He.ga K n, F) ∈ cs ∧ f = calmF g ∧ FnE K F (calmF g) := by
  induction h with
  | nil => intro n f e; cases e
  | @cons m F f0 cs fs hf h ih =>
    intro n f e
    rw [List.lookup_cons] at e
    by_cases z : (n == m) = true
    · rw [z] at e
      cases e
      have : n = m := by simpa using z
      subst this
      exact ⟨F, f0, List.mem_cons_self .., rfl, hf⟩
    · rw [Bool.not_eq_true] at z
      rw [z] at e
      obtain ⟨F', g, h1, h2, h3⟩ := ih n f e
      exact ⟨F', g, List.mem_cons_of_mem _ h1, h2, h3⟩
end
end Fr
set_option Elab.async false
set_option linter.all false
set_option maxRecDepth 100000
set_option maxHeartbeats 4000000
namespace Fr
open PySem PySem.Spec PyProof.Rows L2
/-- the place of an entry's value -/
def ea (K : PySem.W.Frag) (d : Addr) (k : Str) : Addr := match K.lookup d with
  | some ⟨_, _, .dict es _, _⟩ => (match es.toList.find? fun e => Value.isStrOf k e.key with
    | some e => (match e.val with
      | .ref a => a
      | _ => 0)
    | none => 0)
  | _ => 0
end Fr
set_option Elab.async false
set_option linter.all false
set_option maxRecDepth 100000
set_option maxHeartbeats 4000000
set_option Elab.async false
set_option linter.all false
set_option maxRecDepth 100000
set_option maxHeartbeats 4000000
set_option Elab.async false
set_option linter.all false
set_option maxRecDepth 100000
set_option maxHeartbeats 4000000
set_option Elab.async false
set_option linter.all false
set_option maxRecDepth 100000
set_option maxHeartbeats 4000000
set_option Elab.async false
set_option linter.all false
set_option maxRecDepth 100000
set_option maxHeartbeats 4000000
set_option Elab.async false
set_option linter.all false
set_option maxRecDepth 100000
set_option maxHeartbeats 4000000
set_option Elab.async false
set_option linter.all false
set_option maxRecDepth 100000
set_option maxHeartbeats 4000000
set_option Elab.async false
set_option linter.all false
set_option maxRecDepth 100000
set_option maxHeartbeats 4000000
set_option Elab.async false
set_option linter.all false
set_option maxRecDepth 100000
set_option maxHeartbeats 4000000
namespace Fr
open PySem PySem.Spec PyProof.Rows L2
def eqO (tb : List ETb) (a b : E) : Option Bool := if nfE a = true ∧ nfE b = true then eqE tb 8 a b else none
section
variable {K : PySem.W.Frag} {cs : List String} {tb : List ETb} {f : E → E → Option Bool}
/-- what is equal as fields -/
theorem tDf_lk : ∀ {fs gs : List (Str × E)} {k : Str} {a b : E}, tDf K fs = tDf K gs → fs.lookup k = some a → gs.lookup k = some b → tD K a = tD K b
  | [], _, _, _, _, _, h, _ => by cases h
  | (k0, x) :: fs, [], _, _, _, e, _, _ => by simp only [tDf] at e; cases e
  | (k0, x) :: fs, (k1, y) :: gs, k, a, b, e, h, h2 => by
    simp only [tDf] at e
    injection e with e1 e2
    injection e1 with e3 e4
    subst e3
    rw [List.lookup_cons] at h h2
    cases hk : k == k0
    · rw [hk] at h h2
      exact tDf_lk e2 h h2
    · rw [hk] at h h2
      cases h
      cases h2
      exact e4
theorem ga_ne (F : IsF K cs) {C D : String} (hC : C ∈ cs) (hD : D ∈ cs) (n : C ≠ D) : He.ga K C ≠ He.ga K D := fun e => by
  have h := F.ne C hC D hD n
  rw [e] at h
  unfold PySem.W.kitOne at h
  rw [if_pos (beq_self_eq_true _)] at h
  cases h
/-- what is no object at all -/
def plainB : E → Bool
  | .non => true | .bl _ => true | .int _ => true | .str _ => true | .lst _ => true | .tup _ => true | .dic _ => true
  | _ => false
theorem plain_ty {b : E} (h : plainB b = true) : ∃ t, tyE b = some (.b t) ∧ t ∈ offTys := by
  cases b <;> first | (cases h; done) | exact ⟨_, rfl, by decide⟩
theorem plain_obj {b : E} {C : Addr} {fs : List (Str × D)} (h : plainB b = true) : tD K b ≠ .obj C fs := by
  cases b <;> first | (cases h; done) | (simp only [tD]; intro e; cases e)
end
end Fr
set_option Elab.async false
set_option linter.all false
set_option maxRecDepth 100000
set_option maxHeartbeats 4000000
namespace Fr
open PySem PySem.Spec PyProof.Rows L2
section
variable {W : WE}
theorem isi_obj {cs : List String} {C D : String} {fs : List (Str × E)} (h1 : cs.contains C = true) (h2 : cs.contains D = true) : oIsi cs [.obj C fs, .fn D] W = some (.bl (C == D)) := by
  show (some (Ty3.c C)).bind (fun t => (some (Ty3.c D)).bind fun u => (isiE cs t u).map E.bl) = _
  simp only [Option.bind_some, isiE]
  rw [if_pos ⟨h1, h2⟩]
  rfl
theorem isi_plain {cs : List String} {D : String} {b : E} (h2 : cs.contains D = true) (h : plainB b = true) : oIsi cs [b, .fn D] W = some (.bl false) := by
  cases b <;> first | (cases h; done) | skip
  all_goals
    show (some (Ty3.b _)).bind (fun t => (some (Ty3.c D)).bind fun u => (isiE cs t u).map E.bl) = _
    simp only [Option.bind_some, isiE]
    rw [if_pos ⟨h2, by decide⟩]
    rfl
end
end Fr
set_option Elab.async false
set_option linter.all false
set_option maxRecDepth 100000
set_option maxHeartbeats 4000000
namespace Fr
open PySem PySem.Spec PyProof.Rows L2
/-- where a list stands from now on -/
def Src (K : PySem.W.Frag) (S : Wd → Prop) (Z : List Addr) (H : Hp) (W : Wd) (x : V) (xs : List D) : Prop := ∃ p, x = .ref p ∧ ∀ H' W', Grow Z H W H' W' → WOk K Z H' W' → S W' → ∃ vs, H' p = some (.lst vs) ∧ AtL K (bs Z H' W') W' vs xs
section
variable {K : PySem.W.Frag} {X : Cx} {pins : List (Addr × Obj)} {σ : L2.St} {s : Shared} {Z : List Addr} {S : Wd → Prop} {tb : Addr → Sp2 → Prop} {m n : Nat} {c : Bool} {H : Hp} {W : Wd} {A : Around} {x y : V} {u v : Value} {xs ys : List D}
theorem src_at (h : At K (bs Z H W) W x (.lst xs)) : Src K S Z H W x xs := by
  cases h with
  | lst e l => exact ⟨_, rfl, fun H' W' g ok hS => ⟨_, bs_le (g.bx.eq _ _ rfl e), l.grow g⟩⟩
theorem src_cell {p : Addr} {f : Bool} (h : ∀ W', S W' → W' p = some (f, .lst xs)) : Src K S Z H W (.ref p) xs := ⟨p, rfl, fun H' W' g ok hS => by
  obtain ⟨vs, e, l⟩ := ok.c p f _ (h W' hS)
  exact ⟨vs, e, l⟩⟩
theorem src_now {p q : Addr} (fa : ∀ H' W', Grow Z H W H' W' → WOk X.K Z H' W' → S W' → ∃ vs, H' p = some (.lst vs) ∧ AtL X.K (bs Z H' W') W' vs xs) (fb : ∀ H' W', Grow Z H W H' W' → WOk X.K Z H' W' → S W' → ∃ vs, H' q = some (.lst vs) ∧ AtL X.K (bs Z H' W') W' vs ys) (J : JX X pins σ Z S H W s) :
    ∃ H' W' vs ws i1 k1 i2 k2, JX X pins σ Z S H' W' s ∧ Grow Z H W H' W' ∧ AtL X.K (bs Z H' W') W' vs xs ∧ AtL X.K (bs Z H' W') W' ws ys ∧ L2.Vals vs i1 ∧ L2.Vals ws i2 ∧
      s.heap.get? p = some { cls := .type "list", data := .seq i1.toArray k1 } ∧ s.heap.get? q = some { cls := .type "list", data := .seq i2.toArray k2 } := by
  obtain ⟨H', W', I, g, ok, hS⟩ := J
  obtain ⟨vs, e1, l1⟩ := fa H' W' g ok hS
  obtain ⟨ws, e2, l2⟩ := fb H' W' g ok hS
  obtain ⟨_, i1, k1, r1, g1⟩ := I.hok p _ e1
  obtain ⟨_, i2, k2, r2, g2⟩ := I.hok q _ e2
  exact ⟨H', W', vs, ws, i1, k1, i2, k2, ⟨H', W', I, .refl, ok, hS⟩, g, l1, l2, r1, r2, g1, g2⟩
theorem two_turn (go : GoEq X pins σ Z S tb m n) (hlen : xs.length = ys.length) (hr : Room (m + (n + 1) + 4) A) (hA : AOk X pins σ A) (na : nfL xs = true) (nb : nfL ys = true)
    {p q : Addr} (fa : ∀ H' W', Grow Z H W H' W' → WOk X.K Z H' W' → S W' → ∃ vs, H' p = some (.lst vs) ∧ AtL X.K (bs Z H' W') W' vs xs) (fb : ∀ H' W', Grow Z H W H' W' → WOk X.K Z H' W' → S W' → ∃ vs, H' q = some (.lst vs) ∧ AtL X.K (bs Z H' W') W' vs ys)
    {j : Nat} (J : JX X pins σ Z S H W s) (hE : EqRL X.K S tb n (xs.drop j) (ys.drop j) c) :
    SeqAt.Two p q xs.length (fun i1 i2 => ∀ (h1 : j < i1.size) (h2 : j < i2.size), SeqAt.EqJ X.prog X.w X.xe A.in1 i1[j] i2[j] (fun s' => JX X pins σ Z S H W s' ∧ EqRL X.K S tb n (xs.drop (j + 1)) (ys.drop (j + 1)) c) (fun s' => JX X pins σ Z S H W s' ∧ c = false) s) s := by
  obtain ⟨H', W', vs, ws, i1, k1, i2, k2, J1, g, l1, l2, r1, r2, g1, g2⟩ := src_now fa fb J
  have lv := l1.len
  have lw := l2.len
  have z1 := r1.length
  have z2 := r2.length
  refine ⟨i1.toArray, i2.toArray, k1, k2, none, none, #[], #[], g1, g2, by simp; omega, by simp; omega, fun h1 h2 => ?_⟩
  have h1 : j < i1.length := by simpa using h1
  have h2 : j < i2.length := by simpa using h2
  obtain ⟨x1, f1, t1⟩ := vals_at r1 h1
  obtain ⟨x2, f2, t2⟩ := vals_at r2 h2
  have := turnL (P := fun _ => True) go (by omega) (by omega) hE hr.in1 hA.in1 na nb (atL_at l1 f1 (by omega)) (atL_at l2 f2 (by omega)) t1 t2 J1
  refine wpAny_mono this (fun r s2 h => ?_) fun _ _ z => z
  cases r with
  | true =>
    simp at h
    simpa using ⟨h.1.of g, h.2⟩
  | false =>
    simp at h
    simpa using ⟨h.1.of g, h.2⟩
theorem two_end {p q : Addr} (hlen : xs.length = ys.length) (fa : ∀ H' W', Grow Z H W H' W' → WOk X.K Z H' W' → S W' → ∃ vs, H' p = some (.lst vs) ∧ AtL X.K (bs Z H' W') W' vs xs) (fb : ∀ H' W', Grow Z H W H' W' → WOk X.K Z H' W' → S W' → ∃ vs, H' q = some (.lst vs) ∧ AtL X.K (bs Z H' W') W' vs ys)
    (J : JX X pins σ Z S H W s) : SeqAt.Two p q xs.length (fun _ _ => True) s := by
  obtain ⟨H', W', vs, ws, i1, k1, i2, k2, J1, g, l1, l2, r1, r2, g1, g2⟩ := src_now fa fb J
  have lv := l1.len
  have lw := l2.len
  have z1 := r1.length
  have z2 := r2.length
  exact ⟨i1.toArray, i2.toArray, k1, k2, none, none, #[], #[], g1, g2, by simp; omega, by simp; omega, trivial⟩
theorem eqRL_end (hlen : xs.length = ys.length) (hE : EqRL K S tb n (xs.drop xs.length) (ys.drop xs.length) c) : c = true := by
  rw [List.drop_of_length_le (Nat.le_refl _), List.drop_of_length_le (by omega)] at hE
  exact eqRL_len hE
def CmpL (K : PySem.W.Frag) (tb : Addr → Sp2 → Prop) (S : Wd → Prop) (c : Bool) (xs ys : List D) : Prop := nfL xs = true ∧ nfL ys = true ∧ ((xs.length = ys.length ∧ EqRL K S tb 7 xs ys c) ∨ (xs.length ≠ ys.length ∧ c = false))
theorem rcS (tk : TbOk X m tb) (h : CmpL X.K tb S c xs ys) (hr : Room (m + 12) A) (hA : AOk X pins σ A) (ha : Src X.K S Z H W x xs) (hb : Src X.K S Z H W y ys) (rx : L2.RelV x u) (ry : L2.RelV y v) (J : JX X pins σ Z S H W s) :
    SeqAt.RcJ X.prog X.w X.xe A u v (fun s' => c = true ∧ JX X pins σ Z S H W s') (fun s' => c = false ∧ JX X pins σ Z S H W s') s := by
  obtain ⟨p, rfl, fa⟩ := ha
  obtain ⟨q, rfl, fb⟩ := hb
  cases (show u = Value.ref p from rx)
  cases (show v = Value.ref q from ry)
  obtain ⟨na, nb, ⟨hlen, hE⟩ | ⟨hlen, rfl⟩⟩ := h
  · exact SeqAt.RcJ.lists (m := xs.length) (J := fun A' j s' => A' = A ∧ JX X pins σ Z S H W s' ∧ EqRL X.K S tb 7 (xs.drop j) (ys.drop j) c) (F := fun A' s' => A' = A ∧ JX X pins σ Z S H W s' ∧ c = false) hr.units0
      (fun A' j s' hj => by
        obtain ⟨rfl, J', hE⟩ := hj
        obtain ⟨i1, i2, a1, a2, a3, a4, a5, a6, b1, b2, b3, b4, b5⟩ := two_turn (go_eq tk 7) hlen hr hA na nb fa fb J' hE
        refine ⟨i1, i2, a1, a2, a3, a4, a5, a6, b1, b2, b3, b4, fun h1 h2 => wpAny_mono (b5 h1 h2) (fun r s2 h => ?_) fun _ _ z => z⟩
        cases r with
        | true => simp at h; simpa using h
        | false => simp at h; simpa using h)
      (fun A' s' hf => two_end hlen fa fb hf.2.1) ⟨rfl, J, hE⟩ (fun s' hj => ⟨eqRL_end hlen hj.2.2, hj.2.1⟩) fun s' hf => ⟨hf.2.2, hf.2.1⟩
  · obtain ⟨H', W', vs, ws, i1, k1, i2, k2, J1, g, l1, l2, r1, r2, g1, g2⟩ := src_now fa fb J
    have lv := l1.len
    have lw := l2.len
    have z1 := r1.length
    have z2 := r2.length
    exact SeqAt.RcJ.lists_len (items := i1.toArray) (items2 := i2.toArray) ⟨_, g1, rfl, _, rfl⟩ ⟨_, g2, rfl, _, rfl⟩ (by simp; omega) hr.units0 ⟨rfl, J⟩
theorem rnS (tk : TbOk X m tb) (h : CmpL X.K tb S c xs ys) (hr : Room (m + 12) A) (hA : AOk X pins σ A) (ha : Src X.K S Z H W x xs) (hb : Src X.K S Z H W y ys) (rx : L2.RelV x u) (ry : L2.RelV y v) (J : JX X pins σ Z S H W s) :
    SeqAt.RcNJ X.prog X.w X.xe A u v (fun s' => c = true ∧ JX X pins σ Z S H W s') (fun s' => c = false ∧ JX X pins σ Z S H W s') s := by
  obtain ⟨p, rfl, fa⟩ := ha
  obtain ⟨q, rfl, fb⟩ := hb
  cases (show u = Value.ref p from rx)
  cases (show v = Value.ref q from ry)
  obtain ⟨na, nb, ⟨hlen, hE⟩ | ⟨hlen, rfl⟩⟩ := h
  · exact SeqAt.RcNJ.lists (m := xs.length) (J := fun A' j s' => A' = A ∧ JX X pins σ Z S H W s' ∧ EqRL X.K S tb 7 (xs.drop j) (ys.drop j) c) (F := fun A' s' => A' = A ∧ JX X pins σ Z S H W s' ∧ c = false) hr.units0
      (fun A' j s' hj => by
        obtain ⟨rfl, J', hE⟩ := hj
        obtain ⟨i1, i2, a1, a2, a3, a4, a5, a6, b1, b2, b3, b4, b5⟩ := two_turn (go_eq tk 7) hlen hr hA na nb fa fb J' hE
        refine ⟨i1, i2, a1, a2, a3, a4, a5, a6, b1, b2, b3, b4, fun h1 h2 => wpAny_mono (b5 h1 h2) (fun r s2 h => ?_) fun _ _ z => z⟩
        cases r with
        | true => simp at h; simpa using h
        | false => simp at h; simpa using h)
      (fun A' s' hf => two_end hlen fa fb hf.2.1) ⟨rfl, J, hE⟩ (fun s' hj => ⟨eqRL_end hlen hj.2.2, hj.2.1⟩) fun s' hf => ⟨hf.2.2, hf.2.1⟩
  · obtain ⟨H', W', vs, ws, i1, k1, i2, k2, J1, g, l1, l2, r1, r2, g1, g2⟩ := src_now fa fb J
    have lv := l1.len
    have lw := l2.len
    have z1 := r1.length
    have z2 := r2.length
    exact SeqAt.RcNJ.lists_len (items := i1.toArray) (items2 := i2.toArray) ⟨_, g1, rfl, _, rfl⟩ ⟨_, g2, rfl, _, rfl⟩ (by simp; omega) hr.units0 ⟨rfl, J⟩
/-- two lists compared; g: what is made of the outcome -/
def rCmpL (g : Bool → Bool) (K : PySem.W.Frag) (tb : Addr → Sp2 → Prop) : R2 := fun x y H Q => ∃ Z W S c xs ys Q2, WOk K Z H W ∧ S W ∧ CmpL K tb S c xs ys ∧ Src K S Z H W x xs ∧ Src K S Z H W y ys ∧ (∀ W', S W' → Q2 (.bl (g c)) W') ∧ Co K Z H W Q2 Q
theorem op_eqL (tk : TbOk X m tb) (hr : Room (m + 12) X.A) : OpR X (compareOp .Eq) (rCmpL id X.K tb) := by
  intro pins s σ H x y v u Q I rx ry h
  obtain ⟨Z, W, S, c, xs, ys, Q2, ok, hS, hc, ha, hb, hq, co⟩ := h
  refine rcS (pins := pins) (σ := σ) (Z := Z) (S := S) tk hc hr (fun H s I => I.env0) ha hb rx ry ⟨H, W, I, .refl, ok, hS⟩ _ (fun s' q => ?_) (fun s' q => ?_)
  · obtain ⟨rfl, H', W', I', g, ok', hS'⟩ := q
    exact ⟨.bl true, H', I', rfl, co (.bl true) W' (.bl true) H' (hq W' hS') g ok' (At.bl (K := X.K) true)⟩
  · obtain ⟨rfl, H', W', I', g, ok', hS'⟩ := q
    exact ⟨.bl false, H', I', rfl, co (.bl false) W' (.bl false) H' (hq W' hS') g ok' (At.bl (K := X.K) false)⟩
theorem op_neL (tk : TbOk X m tb) (hr : Room (m + 12) X.A) : OpR X (compareOp .NotEq) (rCmpL (!·) X.K tb) := by
  intro pins s σ H x y v u Q I rx ry h
  obtain ⟨Z, W, S, c, xs, ys, Q2, ok, hS, hc, ha, hb, hq, co⟩ := h
  refine rnS (pins := pins) (σ := σ) (Z := Z) (S := S) tk hc hr (fun H s I => I.env0) ha hb rx ry ⟨H, W, I, .refl, ok, hS⟩ _ (fun s' q => ?_) (fun s' q => ?_)
  · obtain ⟨rfl, H', W', I', g, ok', hS'⟩ := q
    exact ⟨.bl false, H', I', rfl, co (.bl false) W' (.bl false) H' (hq W' hS') g ok' (At.bl (K := X.K) false)⟩
  · obtain ⟨rfl, H', W', I', g, ok', hS'⟩ := q
    exact ⟨.bl true, H', I', rfl, co (.bl true) W' (.bl true) H' (hq W' hS') g ok' (At.bl (K := X.K) true)⟩
theorem op_eqLB (e : X.K = K) (tk : TbOkP X.prog X.w X.K X.mg X.base m tb) (hr : Room (m + 12) X.A) : OpR X (compareOp .Eq) (rCmpL id K tb) := by subst e; exact op_eqL (tbk tk) hr
theorem op_neLB (e : X.K = K) (tk : TbOkP X.prog X.w X.K X.mg X.base m tb) (hr : Room (m + 12) X.A) : OpR X (compareOp .NotEq) (rCmpL (!·) K tb) := by subst e; exact op_neL (tbk tk) hr
def sideL (S : Wd → Prop) (a : D) (xs : List D) : Prop := a = .lst xs ∨ ∃ p f, ((f = true ∧ a = .cel p) ∨ (f = false ∧ a = .own p)) ∧ ∀ W', S W' → W' p = some (f, .lst xs)
def r2CmpL (g : Bool → Bool) (K : PySem.W.Frag) (tb : Addr → Sp2 → Prop) : R22 := fun a b W Q => ∃ S c xs ys, S W ∧ CmpL K tb S c xs ys ∧ sideL S a xs ∧ sideL S b ys ∧ ∀ W', S W' → Q (.bl (g c)) W'
theorem side_src {a : D} (s : Sv K Z H W x a) (h : sideL S a xs) : Src K S Z H W x xs := by
  rcases h with rfl | ⟨p, f, ⟨rfl, rfl⟩ | ⟨rfl, rfl⟩, h⟩
  · exact src_at s
  · cases (show At K (bs Z H W) W x (.cel p) from s)
    exact src_cell h
  · obtain ⟨rfl, _⟩ := s
    exact src_cell h
theorem l_cmpL {g : Bool → Bool} : L22 K (rCmpL g K tb) (r2CmpL g K tb) := fun Z x y a b H W Q Q2 ok s1 s2 h co => by
  obtain ⟨S, c, xs, ys, hS, hc, ha, hb, hq⟩ := h
  exact ⟨Z, W, S, c, xs, ys, Q2, ok, hS, hc, side_src s1 ha, side_src s2 hb, hq, co⟩
def CmpC (K : PySem.W.Frag) (tb : Addr → Sp2 → Prop) (S : Wd → Prop) (c : Bool) (a b : D) : Prop := ∃ C fs p F t, a = .obj C fs ∧ b = .cel p ∧ nf a = true ∧ tb C F ∧ (∀ W, S W → F [.obj C fs, .cel p] W (fun r W' => r = .bl c ∧ S W') fun _ _ _ => False) ∧ (∀ W, S W → TyD K W (.cel p) t) ∧ PySem.W.notFirst K C t = true
def r2EqC (K : PySem.W.Frag) (tb : Addr → Sp2 → Prop) : R22 := fun a b W Q => r2EqO K tb a b W Q ∨ ∃ S c, S W ∧ CmpC K tb S c a b ∧ ∀ W', S W' → Q (.bl c) W'
def r2NeC (K : PySem.W.Frag) (tb : Addr → Sp2 → Prop) : R22 := fun a b W Q => r2NeO K tb a b W Q ∨ ∃ S c, S W ∧ CmpC K tb S c a b ∧ ∀ W', S W' → Q (.bl (!c)) W'
def rEqC (K : PySem.W.Frag) (tb : Addr → Sp2 → Prop) : R2 := fun x y H Q => rEqX K tb x y H Q ∨ ∃ Z W S c a b Q2, WOk K Z H W ∧ At K (bs Z H W) W x a ∧ At K (bs Z H W) W y b ∧ S W ∧ CmpC K tb S c a b ∧ (∀ W', S W' → Q2 (.bl c) W') ∧ Co K Z H W Q2 Q
def rNeC (K : PySem.W.Frag) (tb : Addr → Sp2 → Prop) : R2 := fun x y H Q => rNeX K tb x y H Q ∨ ∃ Z W S c a b Q2, WOk K Z H W ∧ At K (bs Z H W) W x a ∧ At K (bs Z H W) W y b ∧ S W ∧ CmpC K tb S c a b ∧ (∀ W', S W' → Q2 (.bl (!c)) W') ∧ Co K Z H W Q2 Q
theorem l_eqC : L22 K (rEqC K tb) (r2EqC K tb) := fun Z x y a b H W Q Q2 ok s1 s2 h co => by
  rcases h with h | ⟨S, c, hS, hc, hq⟩
  · exact .inl (l_eqO Z x y a b H W Q Q2 ok s1 s2 h co)
  · obtain ⟨C, fs, p, F, t, ea, eb, r⟩ := id hc
    subst ea eb
    exact .inr ⟨Z, W, S, c, _, _, Q2, ok, s1, s2, hS, hc, hq, co⟩
theorem l_neC : L22 K (rNeC K tb) (r2NeC K tb) := fun Z x y a b H W Q Q2 ok s1 s2 h co => by
  rcases h with h | ⟨S, c, hS, hc, hq⟩
  · exact .inl (l_neO Z x y a b H W Q Q2 ok s1 s2 h co)
  · obtain ⟨C, fs, p, F, t, ea, eb, r⟩ := id hc
    subst ea eb
    exact .inr ⟨Z, W, S, c, _, _, Q2, ok, s1, s2, hS, hc, hq, co⟩
theorem op_eqC (tk : TbOk X m tb) (hr : Room (m + 12) X.A) : OpR X (compareOp .Eq) (rEqC X.K tb) := by
  intro pins s σ H x y v u Q I rx ry h
  rcases h with h | ⟨Z, W, S, c, a, b, Q2, ok, ha, hb, hS, ⟨C, fs, p, F, t, rfl, rfl, na, h1, h2, h4, h5⟩, hq, co⟩
  · exact op_eqX tk hr pins s σ H x y v u Q I rx ry h
  refine rc_obj (n := 8) (pins := pins) (σ := σ) (Z := Z) (S := S) tk h1 h2 h4 h5 (hr.mono (by omega)) (fun H s I => I.env0) ha hb rx ry ⟨H, W, I, .refl, ok, hS⟩ _ (fun s' q => ?_) (fun s' q => ?_)
  · obtain ⟨rfl, H', W', I', g, ok', hS'⟩ := q
    exact ⟨.bl true, H', I', rfl, co (.bl true) W' (.bl true) H' (hq W' hS') g ok' (At.bl (K := X.K) true)⟩
  · obtain ⟨rfl, H', W', I', g, ok', hS'⟩ := q
    exact ⟨.bl false, H', I', rfl, co (.bl false) W' (.bl false) H' (hq W' hS') g ok' (At.bl (K := X.K) false)⟩
theorem op_neC (tk : TbOk X m tb) (tn : NeOk X tb) (hr : Room (m + 12) X.A) : OpR X (compareOp .NotEq) (rNeC X.K tb) := by
  intro pins s σ H x y v u Q I rx ry h
  rcases h with h | ⟨Z, W, S, c, a, b, Q2, ok, ha, hb, hS, ⟨C, fs, p, F, t, rfl, rfl, na, h1, h2, h4, h5⟩, hq, co⟩
  · exact op_neX tk tn hr pins s σ H x y v u Q I rx ry h
  refine rn_obj (n := 8) (pins := pins) (σ := σ) (Z := Z) (S := S) tk tn h1 h2 h4 h5 (hr.mono (by omega)) (fun H s I => I.env0) ha hb rx ry ⟨H, W, I, .refl, ok, hS⟩ _ (fun s' q => ?_) (fun s' q => ?_)
  · obtain ⟨rfl, H', W', I', g, ok', hS'⟩ := q
    exact ⟨.bl false, H', I', rfl, co (.bl false) W' (.bl false) H' (hq W' hS') g ok' (At.bl (K := X.K) false)⟩
  · obtain ⟨rfl, H', W', I', g, ok', hS'⟩ := q
    exact ⟨.bl true, H', I', rfl, co (.bl true) W' (.bl true) H' (hq W' hS') g ok' (At.bl (K := X.K) true)⟩
theorem op_eqCB (e : X.K = K) (tk : TbOkP X.prog X.w X.K X.mg X.base m tb) (hr : Room (m + 12) X.A) : OpR X (compareOp .Eq) (rEqC K tb) := by subst e; exact op_eqC (tbk tk) hr
theorem op_neCB (e : X.K = K) (tk : TbOkP X.prog X.w X.K X.mg X.base m tb) (tn : NeOkP K tb) (hr : Room (m + 12) X.A) : OpR X (compareOp .NotEq) (rNeC K tb) := by subst e; exact op_neC (tbk tk) tn hr
end
end Fr
set_option Elab.async false
set_option linter.all false
set_option maxRecDepth 100000
set_option maxHeartbeats 4000000
namespace Fr
open PySem PySem.Spec PyProof.Rows L2
def oEqL (g : Bool → Bool) (tb : List ETb) : OE2 := fun a b W => match vE W a, vE W b with
  | .lst xs, .lst ys => if nfEs xs = true ∧ nfEs ys = true then (if xs.length = ys.length then (eqL (eqE tb 7) xs ys).map fun c => .bl (g c) else some (.bl (g false))) else none
  | _, _ => none
/-- what a class's __eq__ does against a list or a dict that is a cell -/
structure EqCel (e : ETb) : Prop where
  lst : ∀ fs c, e.f fs (.lst []) = some c → ∀ W p ds, W p = some (.lst ds) → e.run [.obj e.cls fs, .cel p] W = .ret (.bl c) W
  dic : ∀ fs c, e.f fs (.dic []) = some c → ∀ W p ds, W p = some (.dic ds) → e.run [.obj e.cls fs, .cel p] W = .ret (.bl c) W
def celE : CellE → Option E
  | .lst _ => some (.lst [])
  | .dic _ => some (.dic [])
  | _ => none
def celO (tb : List ETb) (g : Bool → Bool) (o : OE2) : OE2 := fun a b W => match b with
  | .cel p => (match a with
    | .obj C fs => if nfE (.obj C fs) = true then (W p).bind fun c => (celE c).bind fun B => (tb.find? fun e => e.cls == C).bind fun e => (e.f fs B).map fun c => .bl (g c) else none
    | _ => none)
  | _ => o a b W
def oEqC (tb : List ETb) : OE2 := celO tb id (oEqO tb)
def oNeC (tb : List ETb) : OE2 := celO tb (!·) (oNeO tb)
section
variable {K : PySem.W.Frag} {cs : List String} {tb : List ETb} {W : Wd} {W3 : WE}
/-- operators that may run defs, over values and cells -/
def Lk2V (K : PySem.W.Frag) (r2 : R22) (o : OE2) : Prop := ∀ W W3 a b a' b' d (Q : DK), Shr K W3 W → RV K W a a' → RV K W b b' → o a b W3 = some d → (∀ W', Kp W W' → Shr K W3 W' → Q (tD K d) W') → r2 a' b' W Q
theorem v_opV {w0 kb : Wd} {Ex : XS2} {Ta Tb : T2} {ma mb : E3} {r2 : R22} {o : OE2} (l : Lk2V K r2 o) (h : EvV K w0 kb Ex Ta ma) (h2 : EvV K w0 kb Ex Tb mb) : EvP K w0 kb Ex (t2Op r2 Ta Tb) (e3Op o ma mb) := fun env W env3 W3 Q R sh st =>
  h env W env3 W3 _ R sh ((sat_bind.mp st).mono (fun x W4 q a W1 k1 sh1 rv => h2 env W1 env3 W4 _ (R.step k1) sh1 ((sat_bind.mp q).mono (fun y W5 q2 b W2 k2 sh2 rv2 => by
    obtain ⟨d, e, q3⟩ := sat_ofO q2
    exact l W2 W5 x y a b d _ sh2 (rv.mono k2) rv2 e fun W' k s => q3 W' ((k1.trans k2).trans k) s) fun C fs W5 x => x.step k1)) fun _ _ _ x => x)
theorem rv_side {a : E} {a' : D} {xs : List E} (sh : Shr K W3 W) (rv : RV K W a a') (h : vE W3 a = .lst xs) : sideL (SS K W W3) a' (tDs K xs) := by
  rcases rv with rfl | ⟨p, c, rfl, h2, h3⟩
  · cases a with
    | lst ds =>
      cases (show E.lst ds = .lst xs from h)
      exact .inl (by simp only [tD])
    | cel p =>
      unfold vE at h
      dsimp only at h
      cases e : W3 p with
      | none => rw [e] at h; cases h
      | some c =>
        rw [e] at h
        cases c with
        | lst ds =>
          cases h
          refine .inr ⟨p, true, .inl ⟨rfl, by simp only [tD]⟩, fun W' s => ?_⟩
          have := s.2 p _ e
          simpa only [tC] using this
        | dic ds => cases h
        | ins C ds => cases h
        | bag n => cases h
        | ldic n => cases h
    | _ => cases h
  · have e : tD K a = .lst (tDs K xs) := by
      cases a with
      | lst ds =>
        cases (show E.lst ds = .lst xs from h)
        simp only [tD]
      | cel p =>
        simp only [tD] at h3
        cases c <;> cases h3
      | _ => cases h
    rw [e] at h3
    cases c with
    | lst ds =>
      cases h3
      exact .inr ⟨p, false, .inr ⟨rfl, rfl⟩, fun W' s => s.1.f p _ h2⟩
    | dic ds => cases h3
    | ins C ds => cases h3
    | bag n => cases h3
    | ldic n => cases h3
    | tbl n => cases h3
theorem k_eqL {g : Bool → Bool} (F : IsF K cs) (tk : ∀ e ∈ tb, EqOk cs e) (nk : NfOk K cs tb) : Lk2V K (r2CmpL g K (tb2 K tb)) (oEqL g tb) := fun W W3 a b a' b' d Q sh ra rb e q => by
  unfold oEqL at e
  split at e
  · rename_i xs ys h1 h2
    split at e
    · rename_i hn
      have s1 := rv_side sh ra h1
      have s2 := rv_side sh rb h2
      split at e
      · rename_i hl
        obtain ⟨c, hc, rfl⟩ := map_some e
        refine ⟨SS K W W3, c, _, _, ⟨.refl, sh⟩, ⟨nfs_t xs hn.1, nfs_t ys hn.2, .inl ⟨by rw [len_tDs, len_tDs]; exact hl, eqL_ok (eqE_ok F tk nk sh 7) hc hn.1 hn.2⟩⟩, s1, s2, fun W' s => ?_⟩
        have := q W' s.1 s.2
        simpa only [tD] using this
      · rename_i hl
        cases e
        refine ⟨SS K W W3, false, _, _, ⟨.refl, sh⟩, ⟨nfs_t xs hn.1, nfs_t ys hn.2, .inr ⟨by rw [len_tDs, len_tDs]; exact hl, rfl⟩⟩, s1, s2, fun W' s => ?_⟩
        have := q W' s.1 s.2
        simpa only [tD] using this
    · cases e
  · cases e
theorem celO_ok {g : Bool → Bool} {o : OE2} (F : IsF K cs) (tk : ∀ e ∈ tb, EqOk cs e) (nk : NfOk K cs tb) (ck : ∀ e ∈ tb, EqCel e) (sh : Shr K W3 W) {a b d : E} (e : celO tb g o a b W3 = some d) : o a b W3 = some d ∨ ∃ c, d = .bl (g c) ∧ CmpC K (tb2 K tb) (SS K W W3) c (tD K a) (tD K b) := by
  unfold celO at e
  split at e
  · rename_i p
    split at e
    · rename_i C fs
      split at e
      · rename_i hn
        obtain ⟨cc, hW, e⟩ := bind_some e
        obtain ⟨B, hB, e⟩ := bind_some e
        obtain ⟨en, he, e⟩ := bind_some e
        obtain ⟨c, hc, rfl⟩ := map_some e
        have hm := List.mem_of_find?_eq_some he
        have hcl := List.find?_some he
        have hcl : en.cls = C := by simpa using hcl
        subst hcl
        refine .inr ⟨c, rfl, He.ga K en.cls, tDf K fs, p, spF K en.run, ?_⟩
        have hna := nf_t (K := K) _ hn
        have run : ∀ W4, W4 p = some cc → en.run [.obj en.cls fs, .cel p] W4 = .ret (.bl c) W4 := fun W4 h4 => by
          cases cc with
          | lst ds => cases hB; exact (ck en hm).lst fs c hc W4 p ds h4
          | dic ds => cases hB; exact (ck en hm).dic fs c hc W4 p ds h4
          | ins C ds => cases hB
          | bag n => cases hB
          | ldic n => cases hB
        have hF : ∀ W1, SS K W W3 W1 → spF K en.run [.obj (He.ga K en.cls) (tDf K fs), .cel p] W1 (fun r W' => r = .bl c ∧ SS K W W3 W') fun _ _ _ => False := fun W1 hS => by
          refine ⟨[.obj en.cls fs, .cel p], W3, by simp only [tDs, tD], hS.2, ?_⟩
          rw [run W3 hW]
          exact fun W' k s => ⟨by simp only [tD], hS.1.trans k, s⟩
        cases cc with
        | lst ds => exact ⟨.type "list", by simp only [tD], by simp only [tD], hna, ⟨en, hm, rfl, rfl⟩, hF, fun W1 hS => .lst (ds := tDs K ds) (by
            have := hS.2 p _ hW
            simp only [vw]
            rw [this]
            simp only [tC]), (nk en hm).2.1 "list" (by decide)⟩
        | dic ds => exact ⟨.type "dict", by simp only [tD], by simp only [tD], hna, ⟨en, hm, rfl, rfl⟩, hF, fun W1 hS => .dic (ds := tDk K ds) (by
            have := hS.2 p _ hW
            simp only [vw]
            rw [this]
            simp only [tC]), (nk en hm).2.1 "dict" (by decide)⟩
        | ins C ds => cases hB
        | bag n => cases hB
        | ldic n => cases hB
      · cases e
    · cases e
  · exact .inl e
theorem k_eqC (F : IsF K cs) (tk : ∀ e ∈ tb, EqOk cs e) (nk : NfOk K cs tb) (ck : ∀ e ∈ tb, EqCel e) : Lk2P K (r2EqC K (tb2 K tb)) (oEqC tb) := fun W W3 a b d Q sh e q => by
  rcases celO_ok F tk nk ck sh e with h | ⟨c, rfl, h⟩
  · exact .inl (k_eqO F tk nk W W3 a b d Q sh h q)
  · refine .inr ⟨_, c, ⟨.refl, sh⟩, h, fun W' s => ?_⟩
    have := q W' s.1 s.2
    simpa only [tD, id] using this
theorem k_neC (F : IsF K cs) (tk : ∀ e ∈ tb, EqOk cs e) (nk : NfOk K cs tb) (ck : ∀ e ∈ tb, EqCel e) : Lk2P K (r2NeC K (tb2 K tb)) (oNeC tb) := fun W W3 a b d Q sh e q => by
  rcases celO_ok F tk nk ck sh e with h | ⟨c, rfl, h⟩
  · exact .inl (k_neO F tk nk W W3 a b d Q sh h q)
  · refine .inr ⟨_, c, ⟨.refl, sh⟩, h, fun W' s => ?_⟩
    have := q W' s.1 s.2
    simpa only [tD] using this
theorem isi_cel {cs : List String} {D : String} {p : Addr} {W : WE} (h2 : cs.contains D = true) (h : (∃ ds, W p = some (.lst ds)) ∨ ∃ ds, W p = some (.dic ds)) : oIsi cs [.cel p, .fn D] W = some (.bl false) := by
  unfold oIsi
  dsimp only
  rcases h with ⟨ds, h⟩ | ⟨ds, h⟩
  · have : vE W (.cel p) = .lst ds := by unfold vE; dsimp only; rw [h]
    rw [this]
    simp only [tyE, clE, Option.bind_some, isiE]
    rw [if_pos ⟨h2, by decide⟩]
    rfl
  · have : vE W (.cel p) = .dic ds := by unfold vE; dsimp only; rw [h]
    rw [this]
    simp only [tyE, clE, Option.bind_some, isiE]
    rw [if_pos ⟨h2, by decide⟩]
    rfl
end
end Fr
set_option Elab.async false
set_option linter.all false
set_option maxRecDepth 100000
set_option maxHeartbeats 4000000
set_option Elab.async false
set_option linter.all false
set_option maxRecDepth 100000
set_option maxHeartbeats 4000000
namespace Fr
open PySem PySem.Spec PyProof.Rows L2
def keyS : Int × Value → Str
  | (_, .str k _) => k
  | _ => Str.empty
def GoodS (w : World) (e : Int × Value) : Prop := ∃ k tk, e = (hashStr w k, .str k tk)
/-- the set at a holds the texts L, each once -/
def SetS (w : World) (h : Heap) (a : Addr) (L : List Str) : Prop := ∃ o es ep t, h.get? a = some o ∧ o.ExactSet ∧ o.data = .set es ep t ∧ (∀ e ∈ es.toList, GoodS w e) ∧ (es.toList.map keyS).Perm L ∧ L.Nodup ∧ es.size < scanBound ∧ t.fits es.size = true ∧ Ris t.place.toList ∧ (w.params.followText "set-order" = true ∨ t.led = true)
theorem goodS_elems {P : Program} {w : World} {l : List (Int × Value)} (h : ∀ e ∈ l, GoodS w e) : ElemsOf (PySem.strKind P w) l := fun e he => by
  obtain ⟨k, tk, rfl⟩ := h e he
  exact ⟨⟨k, PySem.W.isStrOf_self k tk, rfl⟩, rfl⟩
theorem goodS_is {P : Program} {w : World} {e : Int × Value} (h : GoodS w e) (k : Str) : (PySem.strKind P w).is k e.2 = true ↔ keyS e = k := by
  obtain ⟨j, tk, rfl⟩ := h
  show Value.isStrOf k (.str j tk) = true ↔ j = k
  rw [Value.isStrOf.eq_1]
  exact beq_iff_eq
theorem SetS.at {w : World} {h h' : Heap} {a : Addr} {L : List Str} (S : SetS w h a L) (k : ∀ o, h.get? a = some o → h'.get? a = some o) : SetS w h' a L := by
  obtain ⟨o, es, ep, t, ho, r⟩ := S
  exact ⟨o, es, ep, t, k o ho, r⟩
section
variable {P : Program} {w : World} {A : Around} {E : Value → Shared → Prop} {s : Shared} {a : Addr} {L : List Str}
theorem setS_add_tail {g : Bool → Sem Unit} (hg : ∀ (b : Bool) (s₁ : Shared) (Q' : Unit → Shared → Prop), Q' () s₁ → wpAny (model P w) A (g b) Q' E s₁)
    {o : Obj} {es : Array (Int × Value)} {ep : Nat} {t : SetTable} (ho : s.heap.get? a = some o) (hx : o.ExactSet) (hd : o.data = .set es ep t)
    {es1 : Array (Int × Value)} {t2 : SetTable} (g1 : ∀ e ∈ es1.toList, GoodS w e) (pm : (es1.toList.map keyS).Perm L) (nd : L.Nodup) (sz : es1.size < scanBound) (ft : t2.fits es1.size = true) (rs : Ris t2.place.toList) (ld : w.params.followText "set-order" = true ∨ t2.led = true)
    {wasDummy : Bool} {R : Option Bool → Shared → Prop} (h : ∀ h', Heap.SameBut a s.heap h' → SetS w h' a L → R (some true) { heap := h', gens := s.gens, drawn := s.drawn, toks := s.toks, os := s.os }) :
    wpAny (model P w) A (do
      storeSet a es1 t2
      if (!wasDummy && t2.tooFull) = true then do
        g (relayAll t2 es1 (SetTable.grown es1.size)).2.2
        storeSet a (relayAll t2 es1 (SetTable.grown es1.size)).1 (relayAll t2 es1 (SetTable.grown es1.size)).2.1
        pure (some true)
      else pure (some true)) R E s := by
  obtain ⟨x1, x2, x3⟩ := hx
  refine wpAny_bind (wpAny_storeSet_of ho hd ?_ (fits_of_scanBound sz))
  have h1 := store_at (es' := es1) (t' := t2) ho hd
  have sb := Heap.SameBut.update s.heap a (Obj.putSet es1 t2)
  by_cases c : (!wasDummy && t2.tooFull) = true
  · rw [if_pos c]
    refine wpAny_bind (hg _ _ _ ?_)
    have pr := relayAll_perm t2 es1 (SetTable.grown es1.size)
    have hsz : (relayAll t2 es1 (SetTable.grown es1.size)).1.size = es1.size := by
      have := pr.length_eq
      simpa using this
    refine wpAny_bind (wpAny_storeSet_of h1 rfl ?_ (fits_of_scanBound (by rw [hsz]; exact sz)))
    refine wpAny_pure (h _ (sb.trans (Heap.SameBut.update _ a _)) ?_)
    refine ⟨_, _, _, _, store_at h1 rfl, ⟨x1, x2, x3⟩, rfl, fun e he => g1 e (pr.mem_iff.mp he), (pr.map keyS).trans pm, nd, by rw [hsz]; exact sz, relayAll_fits _ _ _, relayAll_ris _ _ _, ?_⟩
    rw [relayAll_led]
    exact ld
  · rw [if_neg c]
    exact wpAny_pure (h _ sb ⟨_, _, _, _, h1, ⟨x1, x2, x3⟩, rfl, g1, pm, nd, sz, ft, rs, ld⟩)
def addL (L : List Str) (k : Str) : List Str := if k ∈ L then L else L ++ [k]
theorem setS_add_hashed {k : Str} {tk : Tok} {Q : Bool → Shared → Prop} (S : SetS w s.heap a L) (hn : L.length + 1 < scanBound)
    (q : ∀ h', Heap.SameBut a s.heap h' → SetS w h' a (addL L k) → ∀ b, Q b { heap := h', gens := s.gens, drawn := s.drawn, toks := s.toks, os := s.os }) :
    wpAny (model P w) A (setAddHashed a (.str k tk) ((PySem.strKind P w).hash k)) Q E s := by
  obtain ⟨o, es, ep, t, ho, hx, hd, g, pm, nd, sz, ft, rs, ld⟩ := S
  have hk : (PySem.strKind P w).is k (.str k tk) = true := PySem.W.isStrOf_self k tk
  have el := goodS_elems (P := P) g
  have hsc : (Value.str k tk).scannable = true := rfl
  have hlen : es.size = L.length := by
    have := pm.length_eq
    simpa using this
  unfold setAddHashed
  refine wpAny_holding ?_
  rw [setAddHashedIn.eq_def]
  refine wpAny_bind (wpAny_setState_of ho hd ft ?_)
  dsimp only
  rw [if_pos (byScan_of (knd := PySem.strKind P w) hsc sz el)]
  unfold setAddByScan
  refine wpAny_bind (wpAny_bind (wpAny_rule ?_))
  refine wpAny_bind (wpAny_setScan_of hk ho hd ft el ?_)
  cases hf : es.toList.findIdx? fun e => (PySem.strKind P w).is k e.2 with
  | some j =>
    obtain ⟨hj, hp, _⟩ := List.findIdx?_eq_some_iff_getElem.mp hf
    have hm : k ∈ L := by
      refine pm.mem_iff.mp (List.mem_map.mpr ⟨es.toList[j], List.getElem_mem hj, ?_⟩)
      exact (goodS_is (P := P) (g _ (List.getElem_mem hj)) k).mp hp
    dsimp only
    refine wpAny_pure (wpAny_pure ?_)
    refine q s.heap (Heap.SameBut.refl _ _) ?_ _
    rw [addL, if_pos hm]
    exact ⟨o, es, ep, t, ho, hx, hd, g, pm, nd, sz, ft, rs, ld⟩
  | none =>
    have hm : k ∉ L := fun hm => by
      obtain ⟨e, he, hke⟩ := List.mem_map.mp (pm.mem_iff.mpr hm)
      have := List.findIdx?_eq_none_iff.mp hf e he
      rw [(goodS_is (P := P) (g e he) k).mpr hke] at this
      cases this
    dsimp only
    have pr := layNew_perm t es ((PySem.strKind P w).hash k) (.str k tk)
    have ft1 := layNew_fits t es ((PySem.strKind P w).hash k) (.str k tk)
    have rs1 := layNew_ris t es ((PySem.strKind P w).hash k) (.str k tk) rs
    have ld1 := layNew_led t es ((PySem.strKind P w).hash k) (.str k tk)
    generalize layNew t es ((PySem.strKind P w).hash k) (.str k tk) = r at pr ft1 rs1 ld1
    obtain ⟨es1, t1, wd, gv⟩ := r
    dsimp only at pr ft1 rs1 ld1 ⊢
    rw [← ld1] at ld
    have pr2 : es1.toList.Perm (es.toList ++ [((PySem.strKind P w).hash k, .str k tk)]) := by
      rw [Array.toList_push] at pr
      exact pr
    have g1 : ∀ e ∈ es1.toList, GoodS w e := fun e he => by
      rcases List.mem_append.mp (pr2.mem_iff.mp he) with h | h
      · exact g e h
      · rw [List.mem_singleton.mp h]
        exact ⟨k, tk, rfl⟩
    have pm1 : (es1.toList.map keyS).Perm (addL L k) := by
      rw [addL, if_neg hm]
      have := pr2.map keyS
      rw [List.map_append] at this
      exact this.trans (pm.append_right _)
    have nd1 : (addL L k).Nodup := by
      rw [addL, if_neg hm]
      exact List.nodup_append.mpr ⟨nd, by simp, fun x hx y hy e => hm (by rw [List.mem_singleton.mp hy] at e; rw [← e]; exact hx)⟩
    have sz1 : es1.size < scanBound := by
      have := pr2.length_eq
      simp at this
      omega
    refine (fun hs => wpAny_bind (by cases gv <;> first | exact wpAny_pure hs | exact wpAny_rule hs)) ?_
    have hf2 : ∀ (b : Bool), (if b = true then t1 else { t1 with plain := false }).fits es1.size = true ∧ Ris (if b = true then t1 else { t1 with plain := false }).place.toList ∧ (w.params.followText "set-order" = true ∨ (if b = true then t1 else { t1 with plain := false }).led = true) := fun b => by
      cases b
      · exact ⟨SetTable.fits_plain_off ft1, rs1, ld⟩
      · exact ⟨ft1, rs1, ld⟩
    by_cases hp : t1.plain = true
    · rw [if_pos hp, hashByValue_scannable 8 hsc]
      refine wpAny_bind (wpAny_pure ?_)
      obtain ⟨f1, f2, f3⟩ := hf2 (plainKind (.str k tk))
      refine setS_add_tail (fun b s₁ Q0 h => by cases b <;> first | exact wpAny_pure h | exact wpAny_rule h) ho hx hd g1 pm1 nd1 sz1 f1 f2 f3 fun h' sb S => ?_
      exact wpAny_pure (q h' sb S _)
    · rw [if_neg hp]
      refine wpAny_bind (wpAny_pure ?_)
      obtain ⟨f1, f2, f3⟩ := hf2 true
      refine setS_add_tail (fun b s₁ Q0 h => by cases b <;> first | exact wpAny_pure h | exact wpAny_rule h) ho hx hd g1 pm1 nd1 sz1 f1 f2 f3 fun h' sb S => ?_
      exact wpAny_pure (q h' sb S _)
end
end Fr
namespace Fr
open PySem PySem.Spec PyProof.Rows L2
section
variable {P : Program} {w : World} {A : Around} {E : Value → Shared → Prop} {s : Shared} {a : Addr} {L : List Str}
theorem SetS.typeIs (S : SetS w s.heap a L) : s.TypeIs (.ref a) "set" := by
  obtain ⟨o, es, ep, t, ho, hx, hd, _⟩ := S
  exact ⟨o, ho, hx.1⟩
theorem setS_fresh {h : Heap} (w : World) : SetS w (h.push { cls := Value.type "set", data := Data.set #[] 0 (SetTable.fresh 0 0 !w.params.followText "set-order") }) h.objs.size [] := by
  have ld : w.params.followText "set-order" = true ∨ (SetTable.fresh 0 0 !w.params.followText "set-order").led = true := by
    show _ ∨ (!w.params.followText "set-order") = true
    cases w.params.followText "set-order"
    · exact .inr rfl
    · exact .inl rfl
  have g : ∀ e ∈ (#[] : Array (Int × Value)).toList, GoodS w e := fun e he => by simp at he
  have r : Ris (SetTable.fresh 0 0 !w.params.followText "set-order").place.toList := List.Pairwise.nil
  have z : (#[] : Array (Int × Value)).size < scanBound := by decide
  exact ⟨_, #[], 0, SetTable.fresh 0 0 !w.params.followText "set-order", Heap.get?_push_size h rfl, ⟨rfl, rfl, rfl⟩, rfl, g, List.Perm.nil, List.nodup_nil, z, rfl, r, ld⟩
def SetSO (w : World) (a : Addr) (L : List Str) : HO := .ext fun h => SetS w h a L
theorem setSO_new {H : Hp} {h : Heap} (S : SetS w h a L) : ObjOk P w H h a (SetSO w a L) := by
  show SetS w h a L ∧ (∃ o, h.get? a = some o) ∧ ∀ (h1 h2 : Heap), SetS w h1 a L → (∀ (o : Obj), h1.get? a = some o → h2.get? a = some o) → SetS w h2 a L
  obtain ⟨o, es, ep, t, ho, r⟩ := id S
  exact ⟨S, ⟨o, ho⟩, fun h1 h2 S1 k => S1.at k⟩
theorem setSO_get {X : Cx} {pins : List (Addr × Obj)} {σ : L2.St} {H : Hp} {s : Shared} {a : Addr} {L : List Str} (I : Inv X pins σ H s) (e : H a = some (SetSO X.w a L)) : SetS X.w s.heap a L :=
  (show SetS X.w s.heap a L ∧ _ from I.hok a _ e).1
end
end Fr
set_option Elab.async false
set_option linter.all false
set_option maxRecDepth 100000
set_option maxHeartbeats 4000000
set_option Elab.async false
set_option linter.all false
set_option maxRecDepth 100000
set_option maxHeartbeats 4000000
namespace Fr
open PySem PySem.Spec PyProof.Rows L2
structure Cl where
  tg : Expr
  it : Expr
  ifs : List Expr
  wi : TI
  g : TG
  tt : TT
  vs : List Nat
abbrev Emt := L2.St → Hp → (Hp → Prop) → Prop
def Cl.cm (c : Cl) : Comprehension := ⟨c.tg, c.it, c.ifs, 0⟩
section
variable {B : Cx} {e : Expr} {gens : List Comprehension} {em' : Value → Env → Sem Unit} {em : Emt} {acc : Value}
def RestRun (B : Cx) (e : Expr) (em' : Value → Env → Sem Unit) (acc : Value) (k : Nat) (P : Shared → Prop) (E : Value → Shared → Prop) : List Cl → Shared → Prop
  | [], s => wpAny (model B.prog B.w) B.A (em' acc B.env) (fun _ s' => P s') E s
  | c :: _, s => wpAny (model B.prog B.w) B.A (eval c.it B.env) (fun x s4 => wpAny (model B.prog B.w) B.A (pyIter x) (fun it1 s5 => codeAny (model B.prog B.w) B.A (.compStart e k it1 acc B.env) (fun r s' => match r with
      | .ok _ => P s'
      | .error _ => False) s5) E s4) E s
theorem RestRun.imp {k : Nat} {P P' : Shared → Prop} {E : Value → Shared → Prop} (hp : ∀ s, P s → P' s) : ∀ {cs : List Cl} {s : Shared}, RestRun B e em' acc k P (fun _ _ => False) cs s → RestRun B e em' acc k P' E cs s
  | [], s, h => thnF h fun _ s' q => hp s' q
  | c :: _, s, h => thnF h fun x s4 h4 => thnF h4 fun it1 s5 h5 => codeAny_mono h5 fun r s' hr => by
    cases r with
    | ok f => exact hp s' hr
    | error e => exact hr
end
end Fr
set_option Elab.async false
set_option linter.all false
set_option maxRecDepth 100000
set_option maxHeartbeats 4000000
namespace Fr
open PySem PySem.Spec PyProof.Rows L2
abbrev C2 := A2 × G2 × B2 × List Nat
def GD (Dl : Addr) (Z : List Addr) (H : Hp) (W : Wd) (H' : Hp) (W' : Wd) : Prop := Bx (bs (Dl :: Z) H W) (bs (Dl :: Z) H' W') ∧ Dm W W' ∧ ∀ a ∈ Z, H' a = H a
section
variable {K : PySem.W.Frag} {φ : Phi} {Z : List Addr} {Dl : Addr} {T : T2} {W W' W2 : Wd} {H H' H2 : Hp}
theorem GD.refl : GD Dl Z H W H W := ⟨.refl, .refl, fun _ _ => rfl⟩
theorem GD.trans (x : GD Dl Z H W H' W') (y : GD Dl Z H' W' H2 W2) : GD Dl Z H W H2 W2 := ⟨x.1.trans y.1, x.2.1.trans y.2.1, fun a m => (y.2.2 a m).trans (x.2.2 a m)⟩
theorem Grow.gd (g : Grow (Dl :: Z) H W H' W') : GD Dl Z H W H' W' := ⟨g.bx, g.dm, fun a m => g.hid a (List.mem_cons_of_mem _ m)⟩
def dedupS (ks : List Str) : List Str := ks.foldl addL []
theorem addL_len (L : List Str) (z : Str) : (addL L z).length ≤ L.length + 1 := by
  unfold addL
  split
  · omega
  · rw [List.length_append, List.length_singleton]; exact Nat.le_refl _
end
end Fr
set_option Elab.async false
set_option linter.all false
set_option maxRecDepth 100000
set_option maxHeartbeats 4000000
namespace Fr
open PySem PySem.Spec PyProof.Rows L2
section
variable {P : Program} {w : World} {A : Around} {E : Value → Shared → Prop} {s : Shared} {a : Addr} {L : List Str}
theorem setS_len (S : SetS w s.heap a L) : ∃ o es ep t, s.heap.get? a = some o ∧ o.ExactSet ∧ o.data = .set es ep t ∧ t.fits es.size = true ∧ es.size = L.length ∧ es.size < scanBound := by
  obtain ⟨o, es, ep, t, ho, hx, hd, g, pm, nd, sz, ft, rs, ld⟩ := S
  refine ⟨o, es, ep, t, ho, hx, hd, ft, ?_, sz⟩
  have := pm.length_eq
  simpa using this
end
section
variable {X : Cx}
def rLenSS (w : World) : List V → Hp → VK → Prop := fun vs H Q => ∃ (a : Addr) (L : List Str), vs = [V.ref a] ∧ H a = some (SetSO w a L) ∧ Q (.int L.length) H
theorem cr_lenSS : CallR X (.builtin "len") (rLenSS X.w) := by
  intro pins s σ H vs us Q I r h
  obtain ⟨a, L, rfl, ha, q⟩ := h
  have R := setSO_get I ha
  rw [Vals.ref1 r]
  obtain ⟨o, es, ep, t, ho, hx, hd, hf, hl, hb⟩ := setS_len R
  refine call_len_set ho hx hd hf ?_ ?_
  · have : scanBound ≤ 2 ^ 62 := by decide
    omega
  · rw [hl]
    exact ⟨.int _, H, (I.tok _).tok _, ⟨_, rfl⟩, q⟩
end
end Fr
set_option Elab.async false
set_option linter.all false
set_option maxRecDepth 100000
set_option maxHeartbeats 4000000
namespace Fr
open PySem PySem.Spec PyProof.Rows L2
abbrev C3 := A3 × G3 × B3 × List Nat
abbrev Em3 := En3 → List E → WE → Tr (List E)
end Fr
set_option Elab.async false
set_option linter.all false
set_option maxRecDepth 100000
set_option maxHeartbeats 4000000
set_option Elab.async false
set_option linter.all false
set_option maxRecDepth 100000
set_option maxHeartbeats 4000000
set_option Elab.async false
set_option linter.all false
set_option maxRecDepth 100000
set_option maxHeartbeats 4000000
set_option Elab.async false
set_option linter.all false
set_option maxRecDepth 100000
set_option maxHeartbeats 4000000
set_option Elab.async false
set_option linter.all false
set_option maxRecDepth 100000
set_option maxHeartbeats 4000000
set_option Elab.async false
set_option linter.all false
set_option maxRecDepth 100000
set_option maxHeartbeats 4000000
set_option Elab.async false
set_option linter.all false
set_option maxRecDepth 100000
set_option maxHeartbeats 4000000
namespace Fr
open PySem PySem.Spec PyProof.Rows L2
def addsL (L : List Str) (xs : List Str) : List Str := xs.foldl addL L
section
variable {P : Program} {w : World} {A : Around} {E : Value → Shared → Prop} {s : Shared} {R : Result → Shared → Prop} {I : Addr} {fp wr : List Addr} {G : Array GenState → Array GenState → Prop} {n : Nat} {Pi : Nat → Value → Prop} {St : Nat → Shared → Prop}
theorem loopSt (W : WalksS P w A.in1 I fp wr G n Pi St) (S : Addr) (hSf : S ∉ fp) (xs : List Str) (hsz : xs.length = n) (hn : n < 4000)
    (hval : ∀ i v, Pi i v → ∃ t, v = .str (xs.getD i Str.empty) t) :
    ∀ (k i : Nat) (s : Shared) (L : List Str), n - i = k → i ≤ n → L.length ≤ i → St i s → SetS w s.heap S L →
      (∀ s', Moved (S :: wr) G s s' → SetS w s'.heap S (addsL L (xs.drop i)) → R (.ok (.ret .none)) s') →
      codeAny (model P w) A (.builtin "set.update.loop" ⟨[.ref S, .ref I], []⟩) R s := by
  have hSw : S ∉ wr := fun h => hSf (W.sub _ h)
  have hsub : ∀ b ∈ wr, b ∈ S :: wr := fun b hb => List.mem_cons_of_mem _ hb
  intro k
  induction k with
  | zero =>
    intro i s L hk hi hL hst hS hR
    have hin : i = n := by omega
    subst hin
    refine codeAny_builtin PyProof.Rows.F.entry_set_update_loop ?_
    rw [Around.under_plainId PyProof.Rows.F.plain_set_update_loop _]
    show wpAny _ A.in1 (pyNext (.ref I) >>= _) _ _ s
    refine wpAny_bind (W.done s _ _ hst fun s' hm => ?_)
    show wpAny _ A.in1 (ret Value.none) _ _ s'
    refine wpAny_pure (hR s' (hm.mono hsub) ?_)
    rw [List.drop_of_length_le (by omega)]
    exact hS.at fun o ho => hm.heap S _ hSw ho
  | succ k ih =>
    intro i s L hk hi hL hst hS hR
    have hlt : i < n := by omega
    refine codeAny_builtin PyProof.Rows.F.entry_set_update_loop ?_
    rw [Around.under_plainId PyProof.Rows.F.plain_set_update_loop _]
    show wpAny _ A.in1 (pyNext (.ref I) >>= _) _ _ s
    refine wpAny_bind (W.item i s _ _ hlt hst fun v s' hP hst' hm => ?_)
    obtain ⟨t, rfl⟩ := hval i v hP
    have hS' : SetS w s'.heap S L := hS.at fun o ho => hm.heap S _ hSw ho
    show wpAny _ A.in1 (holding [Value.str (xs.getD i Str.empty) t] (setAdd S (.str (xs.getD i Str.empty) t)) >>= _) _ _ s'
    refine wpAny_bind (wpAny_holding ?_)
    unfold setAdd
    refine wpAny_holding ?_
    refine wpAny_bind ((PySem.strKind P w).pyHash (k := xs.getD i Str.empty) (PySem.W.isStrOf_self _ t) ?_)
    refine setS_add_hashed (s := { s' with toks := s'.toks + 1 }) hS' (by unfold scanBound; omega) fun h' hsb hS2 b => ?_
    have hd : xs.drop i = xs.getD i Str.empty :: xs.drop (i + 1) := by
      rw [List.drop_eq_getElem_cons (by omega), List.getD_eq_getElem?_getD, List.getElem?_eq_getElem (by omega)]
      rfl
    refine wpAny_pure ⟨plainId_quiet PyProof.Rows.F.plain_set_update_loop _, ih (i + 1) _ _ (by omega) hlt (Nat.le_trans (addL_len _ _) (by omega)) (W.frame _ s' _ _ hst' (Nat.le_succ _) fun b hb o e => ?_) hS2 fun s'' hm'' hS'' => ?_⟩
    · rw [hsb.2 b (fun h : b = S => hSf (by rw [← h]; exact hb))]; exact e
    · refine hR s'' (Moved.trans W.gtrans ((hm.mono hsub).then_heap (Nat.le_succ _) fun b o hb e => ?_) hm'') ?_
      · rw [hsb.2 b (fun h : b = S => hb (by rw [h]; exact List.mem_cons_self))]; exact e
      · rw [hd]
        exact hS''
set_option maxHeartbeats 8000000 in
end
end Fr
set_option Elab.async false
set_option linter.all false
set_option maxRecDepth 100000
set_option maxHeartbeats 4000000
set_option Elab.async false
set_option linter.all false
set_option maxRecDepth 100000
set_option maxHeartbeats 4000000
set_option Elab.async false
set_option linter.all false
set_option maxRecDepth 100000
set_option maxHeartbeats 4000000
set_option Elab.async false
set_option linter.all false
set_option maxRecDepth 100000
set_option maxHeartbeats 4000000
set_option Elab.async false
set_option linter.all false
set_option maxRecDepth 100000
set_option maxHeartbeats 4000000
namespace Fr
open PySem PySem.Spec PyProof.Rows L2
section
variable {X : Cx} {K : PySem.W.Frag}
def rSetL (K : PySem.W.Frag) (w : World) : List V → Hp → VK → Prop := fun vs H Q => ∃ (l : Addr) (ks : List Str), vs = [V.ref l] ∧ SqL K H l (ks.map V.str) ∧ ks.length < 4000 ∧ ∀ a, H a = none → Q (.ref a) (upd H a (SetSO w a (dedupS ks)))
end
end Fr
set_option Elab.async false
set_option linter.all false
set_option maxRecDepth 100000
set_option maxHeartbeats 4000000
set_option Elab.async false
set_option linter.all false
set_option maxRecDepth 100000
set_option maxHeartbeats 4000000
set_option Elab.async false
set_option linter.all false
set_option maxRecDepth 100000
set_option maxHeartbeats 4000000
set_option Elab.async false
set_option linter.all false
set_option maxRecDepth 100000
set_option maxHeartbeats 4000000
set_option Elab.async false
set_option linter.all false
set_option maxRecDepth 100000
set_option maxHeartbeats 4000000
namespace HN
open PySem PySem.Spec PyProof.Rows PySem.SeqAt
end HN
set_option Elab.async false
set_option linter.all false
set_option maxRecDepth 100000
set_option maxHeartbeats 4000000
set_option Elab.async false
set_option linter.all false
set_option maxRecDepth 100000
set_option maxHeartbeats 4000000
namespace Fr
open PySem PySem.Spec PyProof.Rows L2
mutual
inductive PyW (W : Wd) : Nat → D → PyData → Prop
  | non {n : Nat} : PyW W n .non .none
  | bl {n : Nat} (b : Bool) : PyW W n (.bl b) (.bool b)
  | int {n : Nat} (i : Int) : PyW W n (.int i) (.int i)
  | str {n : Nat} {s : Str} : Asc s → PyW W n (.str s) (.str s)
  | lst {n : Nat} {ds : List D} {ps : List PyData} : PyWL W n ds ps → PyW W (n + 1) (.lst ds) (.list ps)
  | tup {n : Nat} {ds : List D} {ps : List PyData} : PyWL W n ds ps → PyW W (n + 1) (.tup ds) (.tuple ps)
  | cel {n : Nat} {a : Addr} {ds : List D} {ps : List PyData} : W a = some (true, .lst ds) → PyWL W n ds ps → PyW W (n + 1) (.cel a) (.list ps)
inductive PyWL (W : Wd) : Nat → List D → List PyData → Prop
  | nil {n : Nat} : PyWL W n [] []
  | cons {n : Nat} {d : D} {ds : List D} {p : PyData} {ps : List PyData} : PyW W n d p → PyWL W n ds ps → PyWL W n (d :: ds) (p :: ps)
end
mutual
theorem PyW.ok {W : Wd} {n : Nat} {d : D} {p : PyData} (h : PyW W n d p) : p.canLay0 = true ∧ p.depth ≤ n := by
  cases h with
  | non => exact ⟨rfl, by simp [PyData.depth]⟩
  | bl b => exact ⟨rfl, by simp [PyData.depth]⟩
  | int i => exact ⟨rfl, by simp [PyData.depth]⟩
  | str h => exact ⟨by simp [PyData.canLay0, h.ok], by simp [PyData.depth]⟩
  | lst l =>
    obtain ⟨a, b⟩ := PyWL.ok l
    exact ⟨by simp [PyData.canLay0, a], by simp only [PyData.depth]; omega⟩
  | tup l =>
    obtain ⟨a, b⟩ := PyWL.ok l
    exact ⟨by simp [PyData.canLay0, a], by simp only [PyData.depth]; omega⟩
  | cel _ l =>
    obtain ⟨a, b⟩ := PyWL.ok l
    exact ⟨by simp [PyData.canLay0, a], by simp only [PyData.depth]; omega⟩
theorem PyWL.ok {W : Wd} {n : Nat} {d : List D} {p : List PyData} (h : PyWL W n d p) : PyData.canLayAll0 p = true ∧ PyData.depthAll p ≤ n := by
  cases h with
  | nil => exact ⟨rfl, by simp [PyData.depthAll]⟩
  | cons a l =>
    obtain ⟨a1, a2⟩ := PyW.ok a
    obtain ⟨b1, b2⟩ := PyWL.ok l
    exact ⟨by simp [PyData.canLayAll0, a1, b1], by simp only [PyData.depthAll]; omega⟩
end
theorem PyW.shaped {W : Wd} {n : Nat} {d : D} {p : PyData} (h : PyW W n d p) (hn : n ≤ 64) : SeqAt.shaped p = true := by
  unfold SeqAt.shaped
  rw [h.ok.1, decide_eq_true (Nat.le_trans h.ok.2 hn)]
  rfl
section
variable {K : PySem.W.Frag} {Z : List Addr} {W : Wd} {H : Hp}
mutual
theorem PyW.dp {n : Nat} {d : D} {p : PyData} (h : PyW W n d p) (ok : WOk K Z H W) {v : V} (a : At K (bs Z H W) W v d) : Dp K H v p := by
  cases h with
  | non => cases a; exact .non
  | bl b => cases a; exact .bl b
  | int i => cases a; exact .int i
  | str h => cases a; exact .str _
  | lst l => cases a with | lst s m => exact .lst (SqL.of (bs_le s)) (PyWL.dp l ok m)
  | tup l => cases a with | tup s m => exact .tup (sqT_up s) (PyWL.dp l ok m)
  | cel hc l =>
    cases a with
    | cel _ =>
      obtain ⟨vs, h1, h2⟩ := ok.c _ _ _ hc
      exact .lst (SqL.of h1) (PyWL.dp l ok h2)
theorem PyWL.dp {n : Nat} {d : List D} {p : List PyData} (h : PyWL W n d p) (ok : WOk K Z H W) {v : List V} (a : AtL K (bs Z H W) W v d) : DpAll K H v p := by
  cases h with
  | nil => cases a; exact .nil
  | cons b l => cases a with | cons x m => exact .cons (PyW.dp b ok x) (PyWL.dp l ok m)
end
end
end Fr
set_option Elab.async false
set_option linter.all false
set_option maxRecDepth 100000
set_option maxHeartbeats 4000000
set_option Elab.async false
set_option linter.all false
set_option maxRecDepth 100000
set_option maxHeartbeats 4000000
set_option Elab.async false
set_option linter.all false
set_option maxRecDepth 100000
set_option maxHeartbeats 4000000
namespace Fr
open PySem PySem.Spec PyProof.Rows L2
def rReprA (K : PySem.W.Frag) : List V → Hp → VK → Prop := fun xs H Q => ∃ x d, xs = [x] ∧ Dq K H x d ∧ d.showable = true ∧ d.depth ≤ 40 ∧ d.shown.length ≤ sizeLine ∧ Q (.str d.shown) H
theorem call_reprA {X : Cx} {K : PySem.W.Frag} (eK : X.K = K) (Y : SysK K) (gd : X.A.guards = some []) (hu : X.A.units + 64 < cLine) : CallR X (.builtin "repr") (rReprA K) := by
  intro pins s σ H xs us Q I r h
  obtain ⟨x, d, rfl, hd, hs, hp, hz, q⟩ := h
  cases hd with
  | non =>
    obtain ⟨u, rfl, ru⟩ := vals1 r
    cases (show u = Value.none from ru)
    exact PySem.P.repr_of_none ⟨.str _, H, I.tok _, ⟨_, rfl⟩, q⟩
  | bl b =>
    obtain ⟨u, rfl, ru⟩ := vals1 r
    cases (show u = Value.bool b from ru)
    exact PySem.P.repr_of_bool ⟨.str _, H, I.tok _, ⟨_, rfl⟩, q⟩
  | int i =>
    obtain ⟨u, rfl, t, rfl⟩ := vals1 r
    exact PySem.P.repr_of_int (of_decide_eq_true (by simpa only [PyData.showable] using hs)) ⟨.str _, H, I.tok _, ⟨_, rfl⟩, q⟩
  | str y =>
    obtain ⟨u, rfl, t, rfl⟩ := vals1 r
    exact PySem.P.repr_of_str ⟨.str _, H, I.tok _, ⟨_, rfl⟩, q⟩ (by simpa only [PyData.shown] using hz)
  | lst a b => exact call_reprQ eK Y gd hu pins s σ H _ us Q I r ⟨_, _, rfl, .lst a b, hs, hp, hz, q⟩
  | tup a b => exact call_reprQ eK Y gd hu pins s σ H _ us Q I r ⟨_, _, rfl, .tup a b, hs, hp, hz, q⟩
  | dic a b c => exact call_reprQ eK Y gd hu pins s σ H _ us Q I r ⟨_, _, rfl, .dic a b c, hs, hp, hz, q⟩
def r2ReprA : R2L := fun ds W Q => ∃ d p, ds = [d] ∧ PyQ d p ∧ p.showable = true ∧ p.depth ≤ 40 ∧ p.shown.length ≤ 1000000 ∧ Q (.str p.shown) W
section
variable {K : PySem.W.Frag}
theorem l_reprA : L2L K (rReprA K) r2ReprA := fun Z vs ds H W Q Q2 ok l ⟨d, p, e, hq, h1, h2, hl, q⟩ co => by
  subst e
  cases l with
  | cons s m =>
  cases m
  have hp : Pl d := by cases hq <;> trivial
  have a := s.at hp
  have dq := hq.dq a
  have q2 := co (.str p.shown) W (.str p.shown) H q .refl ok (At.str (K := K) _)
  exact ⟨_, p, rfl, dq, h1, h2, le_line (by omega), q2⟩
def oReprA : OEL := fun as_ _ => match as_ with
  | [e] => (pyQ e).bind fun p => if p.showable = true ∧ p.depth ≤ 40 ∧ p.shown.length ≤ 1000000 then some (.str p.shown) else none
  | _ => none
theorem k_reprA : LkLP K r2ReprA oReprA := fun W W3 a d Q sh e q => by
  unfold oReprA at e
  split at e
  · rename_i x
    obtain ⟨p, h1, e2⟩ := bind_some e
    split at e2
    · rename_i hp
      cases e2
      exact ⟨tD K x, p, by simp only [tDs], pyQ_ok x p h1, hp.1, hp.2.1, hp.2.2, by simpa only [tD] using q⟩
    · cases e2
  · cases e
end
end Fr
set_option Elab.async false
set_option linter.all false
set_option maxRecDepth 100000
set_option maxHeartbeats 4000000
set_option Elab.async false
set_option linter.all false
set_option maxRecDepth 100000
set_option maxHeartbeats 4000000
set_option Elab.async false
set_option linter.all false
set_option maxRecDepth 100000
set_option maxHeartbeats 4000000
set_option Elab.async false
set_option linter.all false
set_option maxRecDepth 100000
set_option maxHeartbeats 4000000
namespace Fr
open PySem PySem.Spec PyProof.Rows L2
section
variable {K : PySem.W.Frag} {w0 kb : Wd} {Ex : XS2} {T : T2} {m : E3}
theorem WE.back {W : WE} {p : Addr} {c e : CellE} (h : W p = some c) : (W.set p e).set p c = W := by
  funext b
  unfold WE.set
  split
  · rename_i z
    rw [z, h]
  · rfl
end
end Fr
set_option Elab.async false
set_option linter.all false
set_option maxRecDepth 100000
set_option maxHeartbeats 4000000
set_option Elab.async false
set_option linter.all false
set_option maxRecDepth 100000
set_option maxHeartbeats 4000000
set_option Elab.async false
set_option linter.all false
set_option maxRecDepth 100000
set_option maxHeartbeats 4000000
set_option Elab.async false
set_option linter.all false
set_option maxRecDepth 100000
set_option maxHeartbeats 4000000
namespace Fr
open PySem PySem.Spec PyProof.Rows L2 PySem.W PySem.Calls
section
variable {X : Cx} {pos apos : Pos}
theorem PAT.of {es : List Expr} {t : TA} (h : PA X es t) : PAT X es t := fun pos pins s σ H Q _ I q => h.run pos pins s σ H Q I q
theorem PSsT.im {st : List Stmt} {t t2 : TS} (h : PSsT X st t) (i : ∀ D σ H, t2 D σ H → t D σ H) : PSsT X st t2 := fun pins s σ H D h0 I q => h pins s σ H D h0 I (i _ _ _ q)
theorem PET.im {e : Expr} {t t2 : TE} (h : PET X e t) (i : ∀ σ H Q, t2 σ H Q → t σ H Q) : PET X e t2 := fun pins s σ H Q h0 I q => h pins s σ H Q h0 I (i _ _ _ q)
theorem PAT.im {es : List Expr} {t t2 : TA} (h : PAT X es t) (i : ∀ σ H Q, t2 σ H Q → t σ H Q) : PAT X es t2 := fun pos pins s σ H Q h0 I q => h pos pins s σ H Q h0 I (i _ _ _ q)
end
end Fr
set_option Elab.async false
set_option linter.all false
set_option maxRecDepth 100000
set_option maxHeartbeats 4000000
set_option Elab.async false
set_option linter.all false
set_option maxRecDepth 100000
set_option maxHeartbeats 4000000
set_option Elab.async false
set_option linter.all false
set_option maxRecDepth 100000
set_option maxHeartbeats 4000000
set_option Elab.async false
set_option linter.all false
set_option maxRecDepth 100000
set_option maxHeartbeats 4000000
set_option Elab.async false
set_option linter.all false
set_option maxRecDepth 100000
set_option maxHeartbeats 4000000
set_option Elab.async false
set_option linter.all false
set_option maxRecDepth 100000
set_option maxHeartbeats 4000000
set_option Elab.async false
set_option linter.all false
set_option maxRecDepth 100000
set_option maxHeartbeats 4000000
namespace Fr
open PySem PySem.Spec PyProof.Rows L2
abbrev lamOb (X : Cx) (params : Arguments) (body : Expr) (scope : Scope) (pm : Value) (c' : Addr) (ctv : Value) : Obj := PySem.W.kla_obj "<lambda>" (X.env.qual ++ "<lambda>") params body scope (cloFrom X.env.cells scope.names []) pm c' ctv
theorem lam_made {X : Cx} {pins : List (Addr × Obj)} {σ : L2.St} {H : Hp} {s : Shared} {c P : Addr} {ps : Array Value} {params : Arguments} {body : Expr} {scope : Scope} {pos : Pos} {E : Value → Shared → Prop} {Q : Value → Shared → Prop} {B : Addr → Prop}
    (I : L2.Inv X pins σ H s) (TB : LamX.TabB X.base X.mg c P) (hcode : X.env.code = .ref c) (hP : H P = some (.tbl ps)) (ht : TriplesOk ps.toList) (ha : ∀ pos cv, codeAmong pos ps.toList = some cv → ∃ c', cv = .ref c' ∧ B c')
    (hdef : defaultsOf params X.env = ([], [])) (hfree : ∀ y ∈ scope.names, y.2 = .free → ∃ c, X.env.cells.lookup y.1 = some c)
    (h : ∀ (f c' : Addr) (pm ctv : Value) (H1 : Hp) (s' : Shared), L2.Inv X pins σ H1 s' →
      ((H1 = H ∧ B c') ∨ (H c' = none ∧ ∃ ps', H1 = upd (upd H P (.tbl ps')) c' (LamX.CodeO c' (X.env.qual ++ "<lambda>")) ∧ TriplesOk ps'.toList ∧ ∀ pos cv, codeAmong pos ps'.toList = some cv → codeAmong pos ps.toList = some cv ∨ cv = .ref c')) →
      s'.heap.get? f = some (lamOb X params body scope pm c' ctv) → H1 f = none → f ∉ frs X.stack → Q (.ref f) s') :
    wpAny (model X.prog X.w) X.A (eval (.Lambda params body scope pos) X.env) Q E s := by
  apply PySem.W.kla_eval hdef
  have bl : s.heap.BuiltinsAt X.mg P := TB.bm.keeps I.bk
  have objP : s.heap.get? P = some { cls := .none, data := .fields ps } := I.hok P _ hP
  have away : ∀ f, s.heap.objs.size ≤ f → f ∉ frs X.stack := fun f hf m => by
    cases List.mem_cons.mp (I.stkSub f m) with
    | inl e =>
      subst e
      exact absurd I.lt (Nat.not_lt.mpr hf)
    | inr m => exact I.nofs hf m
  match hc : codeAmong pos ps.toList with
  | some cv =>
    obtain ⟨c', rfl, hB⟩ := ha pos cv hc
    apply PySem.W.kla_makeFunctionHit (mg := X.mg) (closure_ok hfree) I.ok.glob (I.mod.glob.keeps I.bk) hcode (TB.code.keeps I.bk) objP ht hc bl
    intro ctv h' tk up hs
    exact h h'.objs.size c' _ ctv H _ (I.kept fun b o e => Heap.get?_push_of_some _ (up b o e)) (.inl ⟨rfl, hB⟩) (Heap.get?_push_size _ rfl) (I.hok.fresh hs) (away _ hs)
  | none =>
    apply PySem.W.kla_makeFunction (mg := X.mg) (closure_ok hfree) I.ok.glob (I.mod.glob.keeps I.bk) hcode (TB.code.keeps I.bk) objP ht hc TB.gP bl
    intro c' ctv h' tk up ge lt rec tb
    obtain ⟨cc, oc, vs, t, ee, hoc, hd, hv⟩ := rec
    cases ee
    have I1 := LamX.inv_table (t' := tk) (more := #[rawInt pos.line, rawInt pos.col, .ref c']) (h' := h'.push (lamOb X params body scope ((X.mg "__name__").getD .none) c' ctv)) I hP
      (fun b o n e => Heap.get?_push_of_some _ (up b o n e)) (Heap.get?_push_of_some _ tb) ge ⟨oc, vs, t, Heap.get?_push_of_some _ hoc, hd, hv⟩
    have sz := Nat.le_trans ge (Nat.le_of_lt lt)
    have eL : (ps ++ #[rawInt pos.line, rawInt pos.col, .ref c']).toList = ps.toList ++ [rawInt pos.line, rawInt pos.col, .ref c'] := by simp
    refine h h'.objs.size c' _ ctv _ _ I1 (.inr ⟨I.hok.fresh ge, _, rfl, ?_, fun p cv e => ?_⟩) (Heap.get?_push_size _ rfl) ?_ (away _ sz)
    · rw [eL]
      exact PySem.TriplesOk_snoc _ _ _ _ ht
    · rw [eL] at e
      exact LamX.among_app _ ht e
    · rw [upd_ne (Nat.ne_of_gt lt), upd_ne (Nat.ne_of_gt (Nat.lt_of_lt_of_le (Heap.lt_size objP) sz))]
      exact I.hok.fresh sz
section
variable {K : PySem.W.Frag} {Z : List Addr} {H : Hp} {W : Wd} {P c' : Addr} {q : Str} {o : HO}
theorem bs_tab {f : Bool} {c : Cell} (h : W P = some (f, c)) : bs Z (upd H P o) W = bs Z H W := by
  funext a
  unfold bs
  by_cases n : a = P
  · subst n
    rw [h]
    simp
  · rw [upd_ne n]
theorem WOk.setTab (ok : WOk K Z H W) (hW : W P = some (true, .tbl q)) (hc : TabCell (bs Z H W) (upd H P o) P q) : Grow Z H W (upd H P o) W ∧ WOk K Z (upd H P o) W := by
  have e : bs Z (upd H P o) W = bs Z H W := bs_tab hW
  have bx : Bx (bs Z H W) (bs Z (upd H P o) W) := by
    rw [e]
    exact .refl
  have nz : ∀ a ∈ Z, a ≠ P := fun a m z => by
    subst z
    rcases (ok.z a m).1 with n | ⟨g, kvs, n⟩ <;> (rw [hW] at n; cases n)
  refine ⟨⟨bx, .refl, fun a m => upd_ne (nz a m)⟩, fun a g x hx => ?_, fun a m => ⟨(ok.z a m).1, by rw [upd_ne (nz a m)]; exact (ok.z a m).2⟩, ok.t, ok.l⟩
  by_cases n : a = P
  · subst n
    rw [hW] at hx
    cases hx
    show TabCell (bs Z (upd H a o) W) (upd H a o) a q
    rw [e]
    exact hc
  · exact (ok.c a g x hx).to bx .refl (upd_ne n)
theorem WOk.lamMade (ok : WOk K Z H W) (hW : W P = some (true, .tbl q)) {ps ps' : Array Value} (hP : H P = some (.tbl ps)) (ha : ∀ pos cv, codeAmong pos ps.toList = some cv → ∃ c, cv = .ref c ∧ bs Z H W c = some (LamX.CodeO c q)) (hn : H c' = none) (ht : TriplesOk ps'.toList)
    (hs : ∀ pos cv, codeAmong pos ps'.toList = some cv → codeAmong pos ps.toList = some cv ∨ cv = .ref c') :
    Grow Z H W (upd (upd H P (.tbl ps')) c' (LamX.CodeO c' q)) W ∧ WOk K Z (upd (upd H P (.tbl ps')) c' (LamX.CodeO c' q)) W ∧ bs Z (upd (upd H P (.tbl ps')) c' (LamX.CodeO c' q)) W c' = some (LamX.CodeO c' q) := by
  have nP : P ≠ c' := fun z => by
    rw [← z, hP] at hn
    cases hn
  have comm : upd (upd H P (.tbl ps')) c' (LamX.CodeO c' q) = upd (upd H c' (LamX.CodeO c' q)) P (.tbl ps') := by
    funext a
    by_cases e1 : a = c'
    · subst e1
      rw [upd_same, upd_ne (Ne.symm nP), upd_same]
    · rw [upd_ne e1]
      by_cases e2 : a = P
      · subst e2
        rw [upd_same, upd_same]
      · rw [upd_ne e2, upd_ne e2, upd_ne e1]
  obtain ⟨g1, ok1⟩ := ok.new (o := LamX.CodeO c' q) hn
  have at_ : bs Z (upd H c' (LamX.CodeO c' q)) W c' = some (LamX.CodeO c' q) := by
    rw [bs_new (ok.free hn) (ok.nz hn), upd_same]
  obtain ⟨g2, ok2⟩ := ok1.setTab (P := P) (q := q) (o := .tbl ps') hW ⟨ps', upd_same, ht, fun pos cv e => by
    rcases hs pos cv e with e | e
    · obtain ⟨c, e1, e2⟩ := ha pos cv e
      exact ⟨c, e1, g1.bx.eq _ _ rfl e2⟩
    · exact ⟨c', e, at_⟩⟩
  rw [comm]
  exact ⟨g1.trans g2, ok2, g2.bx.eq _ _ rfl at_⟩
end
section
variable {X : Cx} {pins : List (Addr × Obj)} {σ : L2.St} {H : Hp} {s : Shared}
theorem pe_actS {Y : Cx} {CXg : CXT} {Eg : XK} {Ng : List Str} {qg : Str} {sg : Scope} {g f c' : Addr} {cdg pm ctv : Value} {params : Arguments} {body : Expr} {scope : Scope} {k i : Nat} {a : Str} {pn : List (Addr × Obj)} {xe : Value → Shared → Prop} {E : L2.St → XK} {tb : XK → TE} {p1 p2 : Pos}
    (eY : Y = (cxOf CXg X.prog X.w X.K X.mg X.base Ng qg sg g cdg X.A X.stack s H Eg).tr pn xe) (I : L2.Inv X pins σ H s) (L : LamX.LamS X.env.scope scope) (hf : s.heap.get? f = some (lamOb X params body scope pm c' ctv)) (hfn : H f = none) (hfr : f ∉ frs X.stack)
    (hbind : bindArgs (PySem.W.kla_fn "<lambda>" (X.env.qual ++ "<lambda>") params body scope (cloFrom X.env.cells scope.names []) pm (.ref c') ctv) ⟨[], []⟩ = pure [])
    (hx : ∀ σ, PassesAt (L2.CX X.prog X.w) Y σ (E σ)) (hr : Room (k + 1) (X.A.deeper (envOfC qg sg s.heap.objs.size g cdg)))
    (hbody : ∀ (s1 : Shared) (H1 : Hp) (E : XK), Room k ((X.A.deeper (envOfC qg sg s.heap.objs.size g cdg)).deeper (LamX.lamEnv X scope s1.heap.objs.size f c')) →
      PE (LamX.lamCx X (X.A.deeper (envOfC qg sg s.heap.objs.size g cdg)) (envOfC qg sg s.heap.objs.size g cdg :: X.stack) s1 H1 E scope f c') body (tb E))
    (hN : Ng[i]? = some a) (hv : Vis sg a) (hd : (a == ("__debug__" : Str)) = false) (hcd : (a == ("__classdict__" : Str)) = false) :
    PE Y (.Call (.Name a p1) [] [] p2) (fun σZ HZ Q => σZ[i]? = some (some (.ref f)) ∧ HZ c' = some (LamX.CodeO c' (X.env.qual ++ "<lambda>")) ∧ tb (E σZ) σ HZ Q) := by
  subst eY
  constructor
  rintro pinsZ sZ σZ HZ Q IZ ⟨hs, hc, ht⟩
  refine wpAny_Call_Name_kw (thn ((pe_var (pos := p1) (i := i) hN hv hd hcd).run pinsZ sZ σZ HZ (fun v H1 => v = .ref f ∧ H1 = HZ) IZ ⟨_, hs, rfl, rfl⟩) ?_)
  rintro u s1 ⟨v, H1, I1, r1, rfl, eH⟩
  rw [eH] at I1
  cases (show u = Value.ref f from r1)
  have un : Un (frs X.stack) [] H HZ s.heap s1.heap := I1.base
  have of1 : s1.heap.get? f = some (lamOb X params body scope pm c' ctv) := un.keep f _ hf hfn hfr (fun z => nomatch (show f ∈ ([] : List Addr) from z))
  refine PySem.W.callWith_F0 ⟨_, _, _, _, of1⟩ (wpAny_call ?_)
  obtain ⟨⟨oc, vs, t, hoc, hdc, hvc⟩, _, _⟩ := I1.hok c' _ hc
  refine codeAny_mono (R := CR (L2.CX X.prog X.w) (envOfC qg sg s.heap.objs.size g cdg :: X.stack) X.prog X.w HZ s1 Q (E σZ)) (PySem.W.kla_callFunE hr.depth of1 rfl L.co L.gen rfl ⟨c', oc, vs, t, rfl, hoc, hdc, hvc⟩ ?_) fun r s' hq => ?_
  · have hb2 : bindArgs (PySem.W.kla_fn "<lambda>" (X.env.qual ++ "<lambda>") params body scope (cloFrom X.env.cells scope.names []) pm (.ref c') ctv) ⟨[] ++ [], []⟩ = pure [] := hbind
    rw [hb2]
    refine wpAny_pure (wpAny_newFunctionEnv (fun y hy => (L.own y hy).2) (fun y hy => absurd hy (by simp)) (fun h₁ hns hsb => ⟨I1.nolimit.fresh _ hsb, PySem.W.kla_codeExpr ?_⟩) L.kind)
    have keep : ∀ b o, s1.heap.get? b = some o → h₁.get? b = some o := fun b o e => hsb.extBut b o (Nat.ne_of_lt (Heap.lt_size e)) (Heap.get?_push_of_some _ e)
    have J : L2.Inv (LamX.lamCx X (X.A.deeper (envOfC qg sg s.heap.objs.size g cdg)) (envOfC qg sg s.heap.objs.size g cdg :: X.stack) s1 HZ (E σZ) scope f c') [] σ HZ { s1 with heap := h₁, toks := s1.toks + ([] : List (Str × Value)).length } :=
      LamX.lam_start2 I L I1.env0 hr.hd un hns keep
    exact wpAny_mono ((hbody s1 HZ (E σZ) (hr.deeper _)).run [] _ _ HZ Q J ht) (fun v s2 ⟨w', H', J', rv, q⟩ => ⟨w', H', J'.os, J'.bare, J'.base, J'.hok, rv, q⟩) fun _ _ z => z
  · match r, hq with
    | .error e, hq => exact hx σZ pinsZ HZ s1 e s' I1 hq
    | .ok (.ret u), hq => exact I1.after hq
end
/-- grown from (Z, H, W) -/
def phiL (Z : List Addr) (H : Hp) (W : Wd) : Phi where
  w0 := W
  p := fun Z' H' W' => Z' = Z ∧ Bx (bs Z H W) (bs Z H' W') ∧ Dt W W' ∧ Dm W W' ∧ ∀ a ∈ Z, H' a = H a
  st := fun Z' H1 W1 H2 W2 ⟨e, b, t, m, z⟩ bx dt hz dm => by
    subst e
    exact ⟨rfl, b.trans bx, t.trans dt, dm, fun a h => (hz a h).trans (z a h)⟩
abbrev Gth := Wd → DK → XK2 → Prop
def t2Thk (i : Nat) (f : Addr) (G : Gth) (Ex : XS2) : T2 := fun env W Q => env[i]? = some (some (.fn f)) ∧ G W Q (Ex env)
def ThE (K : PySem.W.Frag) (kb : Wd) (G : Gth) (θ : WE → Tr E) : Prop := ∀ W W3 Q Ex, Kp kb W → Shr K W3 W → Sat (θ W3) (fun e W3' => ∀ W', Kp W W' → Shr K W3' W' → Q (tD K e) W') (XT K Ex W) → G W Q Ex
def e3Thk (i : Nat) (f : Addr) (θ : WE → Tr E) : E3 := fun env W => match env[i]? with
  | some (.pl (.ety a)) => if a = f then θ W else .stuck
  | _ => .stuck
theorem v_thk {K : PySem.W.Frag} {w0 kb : Wd} {Ex : XS2} {i : Nat} {f : Addr} {G : Gth} {θ : WE → Tr E} (h : ThE K kb G θ) : EvP K w0 kb Ex (t2Thk i f G Ex) (e3Thk i f θ) := fun env W env3 W3 Q R sh st => by
  unfold e3Thk at st
  split at st
  · rename_i a ha
    split at st
    · rename_i e
      subst e
      have := R.pl i _ ha
      simp only [tD] at this
      exact ⟨this, h W W3 Q (Ex env) R.kp sh st⟩
    · exact st.elim
  · exact st.elim
def t2Lam (K : PySem.W.Frag) (fT : Addr → (WE → Tr E) → F3) (Tb : XK2 → T2) : T2 := fun env W Q => ∀ f, ∃ θ, ThE K W (fun W' Q' E' => Tb E' env W' Q') θ ∧ spF K (fT f θ) [.fn f] W Q NoX
def e3Lam (fT : Addr → (WE → Tr E) → F3) (m : E3) : E3 := fun env W => .any fun i => calmF (fT i.toNat (fun W' => m env W')) [.ety i.toNat] W
theorem v_lam {K : PySem.W.Frag} {w0 kb : Wd} {Ex : XS2} {fT : Addr → (WE → Tr E) → F3} {Tb : XK2 → T2} {m : E3} (h : ∀ Ec, EvP K w0 kb (fun _ => Ec) (Tb Ec) m) : EvP K w0 kb Ex (t2Lam K fT Tb) (e3Lam fT m) := fun env W env3 W3 Q R sh st f => by
  refine ⟨fun W' => m env3 W', fun W1 W4 Q' E' k sh1 st1 => h E' env W1 env3 W4 Q' (R.step k) sh1 st1, [.ety f], W3, by simp only [tDs, tD], sh, ?_⟩
  have := st (f : Int)
  simp only [Int.toNat_natCast] at this
  exact sat_calm this
/-- the module of the builtins stands in the written part -/
structure BmOk (K : PySem.W.Frag) (mg : Str → Option Value) : Prop where
  ex : ∃ bm sl, mg "__builtins__" = some (.ref bm) ∧ bm ≠ builtinsNs ∧ bm ≠ mainGlobals ∧ K.lookup bm = some ⟨.type "module", some builtinsNs, .plain, sl⟩
def bmB (K : PySem.W.Frag) : Bool := match K.lookup (He.ga K "__builtins__") with
  | some ⟨.type c, some d, .plain, _⟩ => decide (c = "module") && (decide (d = builtinsNs) && (decide (He.ga K "__builtins__" ≠ builtinsNs) && decide (He.ga K "__builtins__" ≠ mainGlobals)))
  | _ => false
theorem bmB_ok {K : PySem.W.Frag} {mg : Str → Option Value} (hm : mg "__builtins__" = some (.ref (He.ga K "__builtins__"))) (h : bmB K = true) : BmOk K mg := by
  unfold bmB at h
  split at h
  · rename_i c d sl e
    obtain ⟨h1, h⟩ := He.ba h
    obtain ⟨h2, h⟩ := He.ba h
    obtain ⟨h3, h4⟩ := He.ba h
    cases of_decide_eq_true h1
    cases of_decide_eq_true h2
    exact ⟨_, sl, hm, of_decide_eq_true h3, of_decide_eq_true h4, e⟩
  · cases h
/-- what is asked of a def that calls what it got in a try -/
def LamOk (P : Program) (w : World) (K : PySem.W.Frag) (mg : Str → Option Value) (base : Heap) (k : Nat) (g : Addr) (qg : Str) (Ng : List Str) (sg : Scope) (bg : List Stmt) (a : Str) (fT : Addr → (WE → Tr E) → F3) : Prop :=
  ∀ (cdg : Value) (A : Around) (outer : List Env) (s : Shared) (H : Hp) (Z : List Addr) (W : Wd) (f : Addr) (G : Gth) (θ : WE → Tr E) (Q2 : DK) (Q : VK) (E : XK),
    A.guards = some [] → Room k (A.deeper (envOfC qg sg s.heap.objs.size g cdg)) → WOk K Z H W →
    (∀ (Wx : WX) (pn : List (Addr × Obj)) (xe : Value → Shared → Prop) (Ey : L2.St → XK) (x2 : XS2) (φ : Phi) (p1 p2 : Pos), (∀ Z' H' W', φ.p Z' H' W' → (phiL Z H W).p Z' H' W') →
      (∀ σ, PassesAt (L2.CX P w) ((cxOf CX0 P w K mg base Ng qg sg g cdg A outer s H E).tr pn xe) σ (Ey σ)) → XOkS K φ x2 Ey →
      PE ((cxOf CX0 P w K mg base Ng qg sg g cdg A outer s H E).tr pn xe) (.Call (.Name a p1) [] [] p2) (LE K φ (t2Thk 0 f G x2))) →
    ThE K W G θ → spF K (fT f θ) [.fn f] W Q2 NoX → CoA K Z H W Q2 Q →
    ∃ t, PSs (cxOf CX0 P w K mg base Ng qg sg g cdg A outer s H E) bg t ∧ t { nx := fun _ H' => Q .non H', rt := Q } (L2.start Ng [.ref f]) H
/-- its body -/
theorem body_l {K : PySem.W.Frag} {Z : List Addr} {H : Hp} {W : Wd} {N : List Str} {f : Addr} {S : S2} {Q2 : DK} {Q : VK} (ok : WOk K Z H W) (ca : CoA K Z H W Q2 Q) (s : S { nx := fun _ W' => Q2 .non W', rt := rtf W Q2 } (start2 N [.fn f]) W) :
    LS K (phiL Z H W) S { nx := fun _ H' => Q .non H', rt := Q } (L2.start N [.ref f]) H := by
  have a : AtL K (bs Z H W) W [V.ref f] [Fr.D.fn f] := .cons (.fn f) .nil
  refine ⟨Z, start2 N [.fn f], W, _, ⟨ok, start_len rfl, fun i d h => ?_, .refl, rfl, .refl, .refl, .refl, fun _ _ => rfl⟩, s, fun e' W' σ' H' q b t z r => ?_, fun _ _ _ _ q => q.elim, fun _ _ _ _ q => q.elim, fun d W' v H' q b t z m ok' s' => ?_⟩
  · obtain ⟨v, h1, h2⟩ := atL_get a N i d h
    exact ⟨v, h1, .of h2⟩
  · exact ca .non W' .non H' q ⟨b, r.dm, z⟩ r.ok (At.non (K := K))
  · cases d <;> first | exact ca _ W' v H' q ⟨b, m, z⟩ ok' s' | skip
    rcases q with ⟨c, d', h1, h2, h3, h4⟩ | q
    · obtain ⟨rfl, _⟩ := s'
      obtain ⟨bx, dt, ok2⟩ := ok'.frz h1
      exact ca d' _ _ H' h4 ⟨b.trans bx, dm_del m h2, z⟩ ok2 (.of (frz_at ok' h1 h3))
    · exact ca _ W' v H' q ⟨b, m, z⟩ ok' s'
section
variable {X : Cx} {φ : Phi}
/-- x(lambda: body) -/
theorem pe_lamT {k : Nat} {g c P : Addr} {x a : Str} {pg : Arguments} {bg : List Stmt} {sg : Scope} {dvs : List V} {kws : List (Str × V)} {fd : FuncData} {Ng : List Str} {params : Arguments} {body : Expr} {scope : Scope} {fT : Addr → (WE → Tr E) → F3} {Tb : XK2 → T2} {p lpos pos : Pos}
    (LO : LamOk X.prog X.w X.K X.mg X.base (k + 1) g x Ng sg bg a fT) (gd : X.A.guards = some []) (hr : Room (k + 2) X.A) (hg : Gl X x) (hm : X.mg x = some (.ref g)) (F : FunD X.K x x pg bg sg dvs kws g fd) (hb : L2.Binds X.K fd [a] []) (Sg : FnScope Ng [a] sg) (hNg : Ng[0]? = some a) (hva : Vis sg a)
    (hcode : X.env.code = .ref c) (hc : PySem.W.codeHdIn X.K c P = true) (hk : KT X.K P (X.env.qual ++ "<lambda>")) (hbm : BmOk X.K X.mg) (L : LamX.LamS X.env.scope scope) (hdef : defaultsOf params X.env = ([], []))
    (hbind : ∀ (q : Str) (cl : List (Str × Addr)) (pm cv ctv : Value), bindArgs (PySem.W.kla_fn "<lambda>" q params body scope cl pm cv ctv) ⟨[], []⟩ = pure [])
    (hbody : ∀ (w0 : Wd) (E2 : XK2) (A : Around) (outer : List Env) (s : Shared) (H : Hp) (E : XK) (f c' : Addr), A.guards = some [] → Room k (A.deeper (LamX.lamEnv X scope s.heap.objs.size f c')) → PE (LamX.lamCx X A outer s H E scope f c') body (LE X.K (phiX X.K w0 E2 E) (Tb E2)))
    (hdb : (x == ("__debug__" : Str)) = false := by decide) (hd : (a == ("__debug__" : Str)) = false := by decide) (hcd : (a == ("__classdict__" : Str)) = false := by decide) :
    PE X (.Call (.Name x p) [.Lambda params body scope lpos] [] pos) (LE X.K φ (t2Lam X.K fT Tb)) := by
  constructor
  rintro pins s σ H Q I ⟨Z, env, W, Q2, R, t, co⟩
  have hW := R.ok.t _ _ hk
  obtain ⟨ps, hP, ht, ha⟩ := R.ok.c _ _ _ hW
  have TB : LamX.TabB X.base X.mg c P := by
    have e0 := I.env0
    have out : ∀ {b : Addr} {o : Obj}, X.base.get? b = some o → b ≠ P := fun {b o} e z => by
      have := (e0.bs b o e).2
      rw [z, hP] at this
      cases this
    refine ⟨PySem.W.codeHd_of_K I.ok.mod.kin hc, ?_, ?_⟩
    · obtain ⟨bm, sl, b1, b2, b3, b4⟩ := hbm.ex
      have e := I.ok.mod.kin _ _ b4
      exact ⟨bm, _, b1, b2, b3, out e, e, rfl, rfl, rfl⟩
    · obtain ⟨o, es, ep, e, _⟩ := I.mod.glob
      exact out e
  refine wpAny_Call_Name_kw (ld_glob I hg hm ?_ hdb)
  refine PySem.W.callWith_K (h₀ := X.base) I.ok.mod.kin F.kp ?_ (by rfl) (by rfl)
  show wpAny _ _ (spliced ((false, eval (.Lambda params body scope lpos) X.env) :: backTo pos (starEach [] X.env))) _ _ s
  apply Calls.spliced_cons
  refine lam_made (B := fun c' => bs Z H W c' = some (LamX.CodeO c' (X.env.qual ++ "<lambda>"))) I TB hcode hP ht ha hdef (L.has I.ok) fun f c' pm ctv H1 s' I1 hcase hf hfn hfr => ?_
  obtain ⟨g1, ok1, hco⟩ : Grow Z H W H1 W ∧ WOk X.K Z H1 W ∧ bs Z H1 W c' = some (LamX.CodeO c' (X.env.qual ++ "<lambda>")) := by
    rcases hcase with ⟨rfl, h⟩ | ⟨hn, ps', rfl, ht', hs⟩
    · exact ⟨.refl, R.ok, h⟩
    · exact R.ok.lamMade hW hP ha hn ht' hs
  have R1 := R.grow g1 ok1
  obtain ⟨θ, hθ, hsp⟩ := t f
  refine Calls.spliced_nil ⟨I1.kIn, wpAny_call ?_⟩
  obtain ⟨oc, od, dV, kV, doc, pm', an, cdv, ct, osl, rfl, lk, hcd', _, _⟩ := F.ex
  refine codeAny_mono (R := CR CX0 X.stack X.prog X.w H1 s' Q E0) (LamX.run_ofS (N := Ng) (ps := [a]) (us := [.ref f]) (vs := [.ref f]) lk hcd' Sg hr I1.env0 (hb s' [.ref f] I1.kIn rfl) (.cons rfl .nil) rfl fun hr' => ?_) fun r s2 hq => ?_
  · refine LO cdv X.A X.stack s' H1 Z W f _ θ Q2 Q E0 gd hr' ok1 (fun Wx pn xe Ey x2 φ' p1 p2 hφ hx hxo => ?_) hθ hsp (co.step g1).a
    refine PE.im (pe_actS (tb := fun E σ H Q => ∃ w0 E2, LE X.K (phiX X.K w0 E2 E) (Tb E2) σ H Q) rfl I1 L hf hfn hfr (hbind _ _ _ _ _) hx hr' (fun s1 H1 E hr2 => ⟨fun pins s σ H Q I ⟨w0, E2, h⟩ => (hbody w0 E2 (X.A.deeper (envOfC x sg s'.heap.objs.size g cdv)) _ s1 H1 E f c' gd hr2).run pins s σ H Q I h⟩) hNg hva hd hcd) fun σZ HZ Q' hL => ?_
    obtain ⟨Z', env', WZ, Q2', R', ⟨hf', hG⟩, co'⟩ := hL
    obtain ⟨eZ, bx, dt, dm, hid⟩ := hφ _ _ _ R'.ph
    subst eZ
    obtain ⟨v, e1, sv⟩ := R'.sv 0 _ hf'
    cases (show At _ _ _ v (.fn f) from sv)
    refine ⟨e1, bs_le (bx.eq _ _ rfl hco), WZ, x2 env', Z', env, WZ, Q2', ⟨R'.ok, R1.len, fun i d h => ?_, .refl, fun C fs W' H' dd vs e b t z m ok a l => hxo _ σZ HZ env' WZ R' C fs W' H' dd vs e ⟨b, m, z⟩ ok a l⟩, hG, co'⟩
    obtain ⟨v, e, s⟩ := R1.sv i d h
    exact ⟨v, e, s.grow ⟨bx, dm, hid⟩⟩
  · match r, hq with
    | .error e, hq => exact (show False from hq).elim
    | .ok (.ret u), hq => exact I1.after hq
end
end Fr
set_option Elab.async false
set_option linter.all false
set_option maxRecDepth 100000
set_option maxHeartbeats 4000000
namespace Fr
open PySem PySem.Spec PyProof.Rows L2
theorem kt_hd {K : PySem.W.Frag} {P : Addr} {q : Str} (k : KT K P q) : ∃ c, PySem.W.codeHdIn K c P = true := by
  obtain ⟨x, _, e⟩ := List.mem_filterMap.mp (mem_look k)
  unfold lamOne at e
  split at e
  · rename_i h
    cases e
    exact ⟨_, h⟩
  · cases e
section
variable {P : Program} {w : World} {K : PySem.W.Frag} {mg : Str → Option Value} {base : Heap} {CX : CXT} {k : Nat} {f : Addr} {fd : FuncData} {N ps : List Str} {sp : Sp}
/-- a top-level def x: its code object is that of the written part -/
theorem _root_.L2.FunD.okGL {x : Str} {params : Arguments} {body : List Stmt} {scope : Scope} {dvs : List V} {kws : List (Str × V)} (F : FunD K x x params body scope dvs kws (He.fAd K (x, none)) fd) (S : FnScope N ps scope) (len : ∀ vs H Q E, sp vs H Q E → vs.length = ps.length)
    (hbody : ∀ (cdv : Value) (A : Around) (outer : List Env) (s : Shared) (H : Hp) (vs : List V) (Q : VK) (E : XK), cdv = .ref (He.codeOf K (x, none)) → A.guards = some [] → Room k (A.deeper (envOfC x scope s.heap.objs.size (He.fAd K (x, none)) cdv)) → sp vs H Q E →
      ∃ t, PSs (cxOf CX P w K mg base N x scope (He.fAd K (x, none)) cdv A outer s H E) body t ∧ t { nx := fun _ H' => Q .non H', rt := Q } (start N vs) H) : FnG P w K mg base CX (k + 1) (He.fAd K (x, none)) fd ps sp := by
  obtain ⟨oc, od, dV, kV, doc, pm, an, cdv, ct, osl, rfl, lk, hcd, _, _⟩ := F.ex
  have known : cdv = .ref (He.codeOf K (x, none)) := by
    obtain ⟨c, rfl⟩ := He.codeIn_ref hcd
    rw [He.codeOf_eq lk rfl]
  refine ⟨len, fun A outer s H args us vs Q E gd hr e0 hb r hsp => ?_⟩
  have up : ∀ b o, base.get? b = some o → s.heap.get? b = some o := fun b o e => (e0.bs b o e).1
  have KX : K.In s.heap := e0.mod.kin.keeps up
  obtain ⟨t, ht, hq⟩ := hbody cdv A outer s H vs Q E known gd (hr.deeper _) hsp
  refine codeAny_call_function hr.depth (KX _ _ lk) rfl S.co S.gen rfl (PySem.W.codeRec_of KX hcd) (hb _ _ _ _ (wpAny_newFunctionEnv_cells S.kind ?_ fun env he s1 x => ?_))
  · rintro ⟨n, v⟩ hy
    exact (S.par n (List.of_mem_zip hy).1).imp id fun q => ⟨q, PySem.W.cellsFrom_some _ _ _ (.inl q)⟩
  subst he
  refine ⟨(e0.mod.nolimit.keeps up).keeps x.toInCall.keep, codeAny_func ?_⟩
  refine wpAny_mono (ht.run [] s1 (start N vs) H _ (inv_start S hr.hd e0 (len _ _ _ _ hsp) r x) hq) (fun fl s' hs => ?_) fun _ _ z => z
  obtain ⟨u, hu, c⟩ := body_end (P := P) (w := w) (outer := outer) (s := s) (H := H) (Q := Q) rfl rfl rfl rfl rfl rfl hs
  rcases hu with rfl | ⟨rfl, rfl⟩ <;> exact c
end
/-- x makes lambdas -/
def LamF (K : PySem.W.Frag) (x : Str) : Prop := PySem.W.codeHdIn K (He.codeOf K (x, none)) (He.tabOf K (He.codeOf K (x, none))) = true ∧ KT K (He.tabOf K (He.codeOf K (x, none))) (x ++ ".<locals>." ++ "<lambda>")
def lamFB (K : PySem.W.Frag) (x : Str) : Bool := PySem.W.codeHdIn K (He.codeOf K (x, none)) (He.tabOf K (He.codeOf K (x, none))) && decide ((lamTabs K).lookup (He.tabOf K (He.codeOf K (x, none))) = some (x ++ ".<locals>." ++ "<lambda>"))
theorem lamFB_ok {K : PySem.W.Frag} {x : Str} (h : lamFB K x = true) : LamF K x := ⟨(He.ba h).1, of_decide_eq_true (p := (lamTabs K).lookup (He.tabOf K (He.codeOf K (x, none))) = some (x ++ ".<locals>." ++ "<lambda>")) (He.ba h).2⟩
def bmBB (K : PySem.W.Frag) : Bool := bmB K && (He.Fa.glo "__builtins__").ok K
theorem bmBB_ok {K : PySem.W.Frag} {h : Heap} {mg : Str → Option Value} (X : K.In h) (G : h.Ns mainGlobals mg) (e : bmBB K = true) : BmOk K mg := bmB_ok (He.glo_ok X G (He.ba e).2) (He.ba e).1
theorem LamOk.mono {P : Program} {w : World} {K : PySem.W.Frag} {mg : Str → Option Value} {base : Heap} {j k : Nat} {g : Addr} {qg : Str} {Ng : List Str} {sg : Scope} {bg : List Stmt} {a : Str} {fT : Addr → (WE → Tr E) → F3} (F : LamOk P w K mg base j g qg Ng sg bg a fT) (h : j ≤ k) : LamOk P w K mg base k g qg Ng sg bg a fT :=
  fun cdg A outer s H Z W f G θ Q2 Q E gd hr => F cdg A outer s H Z W f G θ Q2 Q E gd (hr.mono h)
/-- the tables' cells, and the script's list where it is not written -/
def hTabs (K : PySem.W.Frag) (a : Addr) (u : Option HO) : Hp := fun b => if b = a ∧ u.isSome then u else ((lamTabs K).lookup b).map fun _ => .tbl #[]
theorem law_gT {P : Program} {w : World} {K : PySem.W.Frag} {mg mb : Str → Option Value} {k : Nat} {fa a : Addr} {fd : FuncData} {x : Str} {sp : Sp} {s₁ : Shared} {vs : List Value} {ns : List Int}
    (KX : K.In s₁.heap) (hns : s₁.heap.Ns mainGlobals mg) (hb : s₁.heap.Ns builtinsNs mb) (hbb : ∀ x : Str, x ≠ "__name__" → mb x = bootBuiltins x) (hlim : s₁.heap.NoLimit) (hg : s₁.gens = #[]) (tb : TabsE K s₁.heap)
    (ha : s₁.heap.get? a = some { cls := .type "list", data := .seq vs.toArray }) (hi : IntsAre vs ns) (hl : ns.length ≤ sizeLine) (hr : Room k callerA)
    (F : ∀ base : Heap, K.In base → base.Ns mainGlobals mg → FnG P w K mg base CX0 k fa fd [x] sp) (hbind : ∀ (s : Shared) (u : Value), BindsTo s fd ⟨[u], []⟩ [(x, u)])
    (hsp : ∀ H : Hp, (∀ P q, KT K P q → H P = some (.tbl #[])) → SqL K H a (ns.map V.int) → sp [.ref a] H (fun v _ => v = .bl true) fun _ _ _ => False) :
    codeAny (model P w) callerA (.call (.ref fa) ⟨[.ref a], []⟩) (fun r s' => r = .ok (.ret (.bool true)) ∧ OldK s₁.heap s'.heap ∧ s'.os = s₁.os ∧ AllBare s'.gens) s₁ := by
  have rv := vals_ints hi
  have aT : ∀ q, ¬ KT K a q := fun q z => by
    have e := (tb _ _ z).2
    rw [ha] at e
    cases e
  have look : ∀ {b : Addr}, (lamTabs K).lookup b = none ∨ ∃ q, KT K b q := fun {b} => by
    cases e : (lamTabs K).lookup b with
    | none => exact .inl rfl
    | some q => exact .inr ⟨q, e⟩
  obtain ⟨u, hS, hu⟩ : ∃ u : Option HO, SqL K (hTabs K a u) a (ns.map V.int) ∧ (u = none ∨ (u = some (.frz { cls := .type "list", data := .seq vs.toArray } (.lst (ns.map V.int))) ∧ K.lookup a = none)) := by
    cases hk : K.lookup a with
    | some o =>
      have e := KX a o hk
      rw [ha] at e
      cases e
      refine ⟨none, .inr ⟨_, vs.toArray, _, hk, rfl, rfl, rfl, ?_, by simpa using rv⟩, .inl rfl⟩
      rw [List.size_toArray, hi.length]
      exact hl
    | none => exact ⟨_, .inl (.inr ⟨{ cls := .type "list", data := .seq vs.toArray }, if_pos ⟨rfl, rfl⟩⟩), .inr ⟨rfl, rfl⟩⟩
  have hTab : ∀ {b : Addr} {q : Str}, KT K b q → hTabs K a u b = some (.tbl #[]) := fun {b q} z => by
    unfold hTabs
    have ne : b ≠ a := fun y => aT q (y ▸ z)
    rw [if_neg (fun (y : b = a ∧ u.isSome = true) => ne y.1), show (lamTabs K).lookup b = some q from z]
    rfl
  have cases_ : ∀ b v, hTabs K a u b = some v → (b = a ∧ v = .frz { cls := .type "list", data := .seq vs.toArray } (.lst (ns.map V.int)) ∧ K.lookup a = none) ∨ ∃ q, KT K b q ∧ v = .tbl #[] := fun b v e => by
    rcases look (b := b) with n | ⟨q, z⟩
    · unfold hTabs at e
      split at e
      · rename_i y
        rcases hu with h | ⟨h, h2⟩
        · rw [h] at y
          cases y.2
        · rw [h] at e
          cases e
          exact .inl ⟨y.1, rfl, h2⟩
      · rw [n] at e
        cases e
    · rw [hTab z] at e
      cases e
      exact .inr ⟨q, z, rfl⟩
  have hok : HOk P w (hTabs K a u) s₁.heap := fun b v e => by
    rcases cases_ b v e with ⟨rfl, rfl, _⟩ | ⟨q, z, rfl⟩
    · exact ⟨ha, by rw [List.length_map]; exact hl, vs, _, rv, ha⟩
    · exact (tb _ _ z).2
  have noK : ∀ b o, K.lookup b = some o → hTabs K a u b = none := fun b o e => by
    cases h : hTabs K a u b with
    | none => rfl
    | some v =>
      rcases cases_ b v h with ⟨rfl, _, h2⟩ | ⟨q, z, _⟩
      · rw [h2] at e
        cases e
      · rw [(tb _ _ z).1] at e
        cases e
  have free : ∀ {b : Addr} {o : Obj} {es : Array DictEntry} {n : Nat}, s₁.heap.get? b = some o → o.data = .dict es n → hTabs K a u b = none := fun {b o es n} e d => by
    cases h : hTabs K a u b with
    | none => rfl
    | some v =>
      rcases cases_ b v h with ⟨rfl, _⟩ | ⟨q, z, _⟩
      · rw [ha] at e
        cases e
        cases d
      · rw [(tb _ _ z).2] at e
        cases e
        cases d
  have nsK : ∀ {b : Addr} {m : Str → Option Value}, s₁.heap.Ns b m → (hidT s₁.heap (hTabs K a u)).Ns b m := fun ⟨o, es, n, e, d, r⟩ => ⟨o, es, n, hidT_get e (free e d), d, r⟩
  have hKb : K.In (hidT s₁.heap (hTabs K a u)) := fun b o e => hidT_get (KX b o e) (noK b o e)
  obtain ⟨mc, l1, l2⟩ := hlim
  have e0 : Env0 P w K mg (hidT s₁.heap (hTabs K a u)) callerA [] s₁ (hTabs K a u) := ⟨rfl, ⟨hKb, nsK hns, ⟨mb, nsK hb, hbb⟩, ⟨mc, nsK l1, l2⟩⟩, fun _ _ e => of_hidT e, Nat.le_of_eq (hidT_size _ _), trivial, (fun _ z => by cases z), hok, AllBare.of_eq hg⟩
  refine codeAny_mono ((F _ hKb (nsK hns)).run callerA [] s₁ (hTabs K a u) ⟨[.ref a], []⟩ [.ref a] [.ref a] _ _ rfl hr e0 (hbind s₁ _) (.cons rfl .nil) (hsp _ (fun P q z => hTab z) hS)) fun r s' h => ?_
  match r, h with
  | .ok (.ret v), ⟨v', H', os, bare, un, hok', r', q⟩ =>
    cases (show v' = .bl true from q)
    cases (show v = Value.bool true from r')
    have stays : ∀ b o, (∀ q, ¬ KT K b q) → s₁.heap.get? b = some o → s'.heap.get? b = some o := fun b o n e => by
      cases q2 : hTabs K a u b with
      | none => exact un.keep b o e q2 (fun z => by cases z) (fun z => by cases z)
      | some v =>
        rcases cases_ b v q2 with ⟨rfl, rfl, _⟩ | ⟨q, z, _⟩
        · have e1 := (hok b _ q2).1
          rw [e] at e1
          rw [e1]
          exact (hok' b _ (un.frzs b _ _ q2)).1
        · exact absurd z (n q)
    have grown : ∀ {b : Addr} {q : Str}, KT K b q → ∃ more : Array Value, s'.heap.get? b = some { cls := .none, data := .fields more } := fun {b q} z => by
      obtain ⟨more, e⟩ := un.tbls b #[] (hTab z)
      exact ⟨_, hok' b _ e⟩
    refine ⟨rfl, ⟨fun b o e => ?_, fun b o e => ?_⟩, os, bare⟩
    · by_cases h : ∃ q, KT K b q
      · obtain ⟨q, z⟩ := h
        obtain ⟨more, hm⟩ := grown z
        obtain ⟨c, hc⟩ := kt_hd z
        have e1 := (tb _ _ z).2
        rw [e1] at e
        cases e
        exact .inr (.inl ⟨((PySem.W.codeHd_of_K KX hc).tab e1).isCodeTable, rfl, #[], more, rfl, by rw [Array.empty_append]; exact hm⟩)
      · exact .inl (stays b o (fun q z => h ⟨q, z⟩) e)
    · by_cases h : ∃ q, KT K b q
      · obtain ⟨q, z⟩ := h
        obtain ⟨more, hm⟩ := grown z
        exact ⟨_, hm⟩
      · exact ⟨o, stays b o (fun q z => h ⟨q, z⟩) e⟩
theorem walk_gT {l : PySem.W.OpenLaw} {n k : Nat} {q : Program} {loose : List Str} {XP : (Str → Option Value) → Heap → Prop} {YP : World → Heap → Prop} {d : DefRec} {x : Str} (hn : l.most = some n) (hn2 : n ≤ sizeLine) (hdf : d.params.defaults = []) (hr : Room k callerA)
    (F : ∀ (w : World) (mg : Str → Option Value) (fa : Addr) (h : Heap), YP w h → h.Ns mainGlobals mg → mg d.name = some (.ref fa) → ∃ (K : PySem.W.Frag) (fd : FuncData) (sp : Sp), K.In h ∧ TabsE K h ∧ (∀ (s : Shared) (u : Value), BindsTo s fd ⟨[u], []⟩ [(x, u)]) ∧
        (∀ (H : Hp) (a : Addr) (ns : List Int), ns.length ≤ n → (∀ P q, KT K P q → H P = some (.tbl #[])) → SqL K H a (ns.map V.int) → sp [.ref a] H (fun v _ => v = .bl true) fun _ _ _ => False) ∧
        ∀ base : Heap, K.In base → base.Ns mainGlobals mg → FnG l.prog w K mg base CX0 k fa fd [x] sp) :
    PySem.W.WalkO q loose XP YP l.row.toRowW d [] (fun f vs => PySem.call f vs) := by
  refine Att.attach_call hn hdf fun w s₀ s₁ mg mb fa o pm cd doc a vs ns G Y ho hd hcd hmg hobj hints hlen hg => ?_
  obtain ⟨K, fd, sp, KX, tb, hb, hsp, hF⟩ := F w mg fa _ Y G.T.g hmg
  exact law_gT KX G.T.g G.T.b G.T.builtins G.T.nolimit hg tb hobj hints (Nat.le_trans hlen hn2) hr hF hb fun H hT hS => hsp H a ns hlen hT hS
end Fr
set_option Elab.async false
set_option linter.all false
set_option maxRecDepth 100000
set_option maxHeartbeats 4000000
namespace Fr
open PySem PySem.Spec PyProof.Rows L2
def sgS (z : Str) : List Str := (tl z).map fun c => mkS [c]
section
variable {P : Program} {w : World} {A : Around} {E : Value → Shared → Prop} {s : Shared}
set_option maxHeartbeats 8000000 in
theorem call_setText {z : Str} {tz : Tok} {Q : Value → Shared → Prop}
    (hh : A.handled = none) (hn1 : z.length < 4000)
    (h : ∀ (h' : Heap) (tk : Nat), SetS w h' s.heap.objs.size (addsL [] (sgS z)) → (∀ b o, b < s.heap.objs.size → s.heap.get? b = some o → h'.get? b = some o) → Q (.ref s.heap.objs.size) { s with heap := h', toks := tk }) :
    wpAny (model P w) A (call (.type "set") [.str z tz]) Q E s := by
  obtain ⟨c, tlm, hmro⟩ := PySem.F.called_set.mro
  have hmade := PySem.F.called_set.made
  have hsub := PySem.F.called_set.sub
  refine wpAny_call (codeAny_of_tree ?_)
  show wpAny _ _ (callAny (.type "set") _) _ _ _
  refine wpAny_pure ⟨Code.quiet_builtin _ (by decide +kernel), codeAny_builtin PySem.F.entry_type_call ?_⟩
  rw [Around.under_plain (weight_type_call_type "set" [.str z tz] []) rfl]
  have h1 := PySem.F.called_set.notType
  have h2 := PySem.F.called_set.canCreate
  have hct := PySem.F.typeCall_set_1 (.str z tz)
  repeat (any_goals (first | assumption | wp_step))

  refine codeAny_mono (code_set_led1 (.str z tz) (E := E) (Q₁ := fun obj s₁ => obj = .ref s.heap.objs.size ∧ s₁ = { s with heap := s.heap.push { cls := .type "set", dict := none, data := .set #[] 0 (.fresh 0 0 (!w.params.followText "set-order")) } }) ⟨rfl, rfl⟩) fun r s₁ hr => ?_
  cases r with
  | error e => exact hr
  | ok fl =>
    cases fl with
    | ret obj =>
      obtain ⟨rfl, rfl⟩ := hr
      have hS : (s.heap.push { cls := .type "set", dict := none, data := .set #[] 0 (.fresh 0 0 (!w.params.followText "set-order")) }).get? s.heap.objs.size = some { cls := .type "set", dict := none, data := .set #[] 0 (.fresh 0 0 (!w.params.followText "set-order")) } := Heap.get?_push_size _ rfl
      have hT : Shared.TypeIs { s with heap := s.heap.push { cls := .type "set", dict := none, data := .set #[] 0 (.fresh 0 0 (!w.params.followText "set-order")) } } (.ref s.heap.objs.size) "set" := ⟨_, hS, rfl⟩
      have hli := PySem.F.called_set.init.lookup
      have hbi := PySem.F.called_set.init.bind (.ref s.heap.objs.size)
      repeat (any_goals (first | assumption | wp_step))

      refine codeAny_mono (codeAny_call_builtin (R := wants (fun r s₂ => r = .none ∧ ∃ h' tk, s₂ = { s with heap := h', toks := tk } ∧
          SetS w h' s.heap.objs.size (addsL [] (sgS z)) ∧
          (∀ b o, b < s.heap.objs.size → s.heap.get? b = some o → h'.get? b = some o)) E) PySem.F.called_set.init.plain PySem.F.entry_set_init (check_set_init_1 hT ?_)) fun r₂ s₂ hr₂ => ?_
      · have hsls := PySem.F.sub_str_set
        have hslf := PySem.F.sub_str_frozenset
        have hne : (Value.type "str" == Value.type "dict") = false := by decide
        unfold Builtin.«set.__init__» noKeywords Builtin.Frozenset.updateFrom
        generalize hPI : pyIter = PI
        wp_walk
        subst hPI

        refine wpAny_pyIter_str fun oI St W hst => ?_
        refine wpAny_bind (wpAny_runValue ?_)
        have hh3 : A.in1.in1.in1.handled = none := by simp [hh]
        have hSf : s.heap.objs.size ∉ [(s.heap.push { cls := .type "set", dict := none, data := .set #[] 0 (.fresh 0 0 (!w.params.followText "set-order")) }).objs.size] := by
          rw [Heap.size_push]; simp only [List.mem_singleton]
          exact Nat.ne_of_lt (Nat.lt_succ_self _)
        have hsz : (sgS z).length = z.cps.size := by simp [sgS, tl]
        have hval : ∀ (i : Nat) (v : Value), SignAt z i v → ∃ t, v = .str ((sgS z).getD i Str.empty) t := fun i v ⟨c, u, h1, h2⟩ => by
          refine ⟨u, ?_⟩
          rw [h2, List.getD_eq_getElem?_getD]
          unfold sgS tl
          rw [List.getElem?_map, Array.getElem?_toList, h1]
          rfl
        refine loopSt ((W _ hh3).toS) s.heap.objs.size
          hSf (sgS z) hsz (by rw [← hsz]; simpa [sgS, tl, Str.length] using hn1) hval (z.cps.size - 0) 0 _ [] (by omega) (Nat.zero_le _) (Nat.le_refl _)
          hst ?hS0 ?hR
        case hS0 =>
          exact (setS_fresh (h := s.heap) w).at fun o ho => Heap.get?_push_of_some _ ho
        case hR =>
          intro s' hm hS'
          obtain ⟨h', g', d', tk', os'⟩ := s'
          have eg : g' = s.gens := hm.gens
          have ed : d' = s.drawn := hm.drawn
          have eo : os' = s.os := hm.os
          subst eg; subst ed; subst eo
          show wpAny _ _ _ _ _ _
          refine wpAny_pure ?_
          show wpAny _ _ (ret Value.none) _ _ _
          rw [List.drop_zero] at hS'
          refine wpAny_pure ⟨rfl, h', tk', rfl, hS', fun b o hb e => ?_⟩
          have hb1 : b ≠ s.heap.objs.size := Nat.ne_of_lt hb
          have hb2 : b ≠ (s.heap.push { cls := .type "set", dict := none, data := .set #[] 0 (.fresh 0 0 (!w.params.followText "set-order")) }).objs.size := by
            rw [Heap.size_push]; exact Nat.ne_of_lt (Nat.lt_succ_of_lt hb)
          exact hm.heap b o (by simp only [List.mem_cons, List.mem_singleton, List.not_mem_nil, or_false, not_or]; exact ⟨hb1, hb2⟩) (Heap.get?_push_of_some _ (Heap.get?_push_of_some _ e))

      · cases r₂ with
        | error e => exact hr₂
        | ok fl₂ =>
          cases fl₂ with
          | ret r =>
            obtain ⟨rfl, h', tk, rfl, hS', hk'⟩ := hr₂
            repeat (any_goals (first | assumption | wp_step))
            exact h _ _ hS' hk'
          | _ => exact hr₂.elim
    | _ => exact hr.elim
end
section
variable {X : Cx} {K : PySem.W.Frag}
def rSetT (w : World) : List V → Hp → VK → Prop := fun vs H Q => ∃ z : Str, vs = [V.str z] ∧ z.length < 4000 ∧ ∀ a, H a = none → Q (.ref a) (upd H a (SetSO w a (dedupS (sgS z))))
theorem cr_setT (hc : X.calm = true) : CallR X (.type "set") (rSetT X.w) := by
  intro pins s σ H xs us Q I r h
  obtain ⟨z, rfl, hz, q⟩ := h
  obtain ⟨u, rfl, t, rfl⟩ := vals1 r
  refine call_setText (P := X.prog) (w := X.w) (I.ok.hd hc) hz fun h' tk S k => ?_
  exact ⟨.ref s.heap.objs.size, upd H s.heap.objs.size (SetSO X.w s.heap.objs.size (dedupS (sgS z))), I.laid (t' := tk) (fun b o e => k b o (Heap.lt_size e) e) (Nat.le_refl _) (setSO_new S), rfl, q _ (I.hok.fresh (Nat.le_refl _))⟩
end
section
variable {K : PySem.W.Frag} {φ : Phi} {T : T2} {w : World} {W : Wd}
def r2LenSetT : R21 := fun a W Q => ∃ z : Str, a = .str z ∧ z.length < 4000 ∧ Q (.int (dedupS (sgS z)).length) W
theorem i_lenSetT : ∀ σ H Q, LE K φ (t2Un r2LenSetT T) σ H Q → tCB (rLenSS w) (tCons (tCB (rSetT w) (tCons (LE K φ T) tNil)) tNil) σ H Q := fun σ H Q ⟨Z, env, W, Q2, R, t, co⟩ =>
  ⟨Z, env, W, _, R, t, fun d W1 x H1 ⟨z, e, hl, q⟩ g ok s => by
    subst e
    cases s.sc rfl
    refine ⟨z, rfl, hl, fun a ha => ⟨a, dedupS (sgS z), rfl, upd_same, ?_⟩⟩
    obtain ⟨g2, ok2⟩ := ok.new (o := SetSO w a (dedupS (sgS z))) ha
    exact ((co.step g).step g2).now q ok2 (.ofS rfl)⟩
end
def oLenSetT : OE1 := fun a _ => match a with
  | .str z => if z.length < 4000 then some (.int (dedupS (sgS z)).length) else none
  | _ => none
theorem k_lenSetT {K : PySem.W.Frag} : Lk1 K r2LenSetT oLenSetT := fun W W3 a a' d Q sh ra e q => by
  unfold oLenSetT at e
  split at e
  · split at e
    · rename_i h
      cases e
      simp only [tD] at q
      exact ⟨_, ra.sc (by simp only [tD, sV]; rfl) |>.trans (by simp only [tD]), h, q⟩
    · cases e
  · cases e
end Fr
set_option Elab.async false
set_option linter.all false
set_option maxRecDepth 100000
set_option maxHeartbeats 4000000
set_option Elab.async false
set_option linter.all false
set_option maxRecDepth 100000
set_option maxHeartbeats 4000000
namespace Fr
open PySem PySem.Spec PyProof.Rows L2
def Blk (K : PySem.W.Frag) (H : Hp) (v : V) : Prop := ∃ a, v = .ref a ∧ ((∃ xs, SqL K H a xs) ∨ (∃ xs, SqT K H a xs) ∨ (∃ kvs, Rd H a (.dK kvs)))
theorem blk_eq {X : Cx} {pins : List (Addr × Obj)} {σ : L2.St} {H : Hp} {s : Shared} {x : V} {v : Value} (I : L2.Inv X pins σ H s) (hu : X.A.units + 1 < cLine) (h : Blk X.K H x) (r : RelV x v) (z : Str) (t : Tok) : PySem.SeqAt.EqAt X.A.in1 s (.str z t) v false := by
  have hu : X.A.in1.units < cLine := hu
  obtain ⟨a, rfl, ⟨xs, e⟩ | ⟨xs, e⟩ | ⟨kvs, e⟩⟩ := h
  · cases r
    obtain ⟨its, rv, ⟨o, n, ho, hc, _, hd⟩, _⟩ := I.list e
    exact PySem.SeqAt.EqAt.str_list z t ⟨o, ho, hc, n, hd⟩ hu
  · cases r
    obtain ⟨its, rv, ⟨o, ho, hc, n, hd⟩, _⟩ := I.tuple e
    exact PySem.SeqAt.EqAt.str_tuple z t ⟨o, ho, hc, n, hd⟩ hu
  · cases r
    obtain ⟨_, hsm, vs, rk, o, es, ep, ho, hx, hd, _⟩ := dk_rd I.hok e
    exact eq_str_dict z t ho hx.1 hd hu
def rInY (K : PySem.W.Frag) (neg : Bool) : R2 := fun x y H Q => ∃ p, ∃ zs : List Str, y = .ref p ∧ SqL K H p (zs.map V.str) ∧ ((flatV x = true ∧ Q (.bl (if neg then !inV x (zs.map V.str) else inV x (zs.map V.str))) H) ∨ (Blk K H x ∧ Q (.bl neg) H))
theorem op_inY {X : Cx} {K : PySem.W.Frag} (eK : X.K = K) (hu : X.A.units + 64 < cLine) : OpR X (compareOp .In) (rInY K false) := by
  subst eK
  intro pins s σ H x y v u Q I rx ry h
  obtain ⟨p, zs, rfl, hp, ⟨fl, q⟩ | ⟨b, q⟩⟩ := h
  · exact op_in_seq pins s σ H x (.ref p) v u Q I rx ry ⟨p, _, rfl, .inl hp, fl, flat_strs zs, q⟩
  · cases ry
    obtain ⟨its, rv, ⟨o, n, ho, hc, _, hd⟩, _⟩ := I.list hp
    refine PySem.SeqAt.in_listAt (fun _ => false) ⟨o, ho, hc, n, hd⟩ (fun y hy => ?_) (by rw [show its.toArray.any (fun _ => false) = false by simp]; exact ⟨.bl false, H, I, rfl, q⟩)
    obtain ⟨z, t, rfl⟩ := strs_items rv y (by simpa using hy)
    exact blk_eq I (by omega) b rx z t
section
variable {K : PySem.W.Frag} {φ : Phi} {W : Wd}
def blkD : D → Bool
  | .lst _ => true | .tup _ => true | .dic _ => true | _ => false
def r2InY (neg : Bool) : R22 := fun a b W Q => ∃ zs : List Str, vw W b = .lst (zs.map Fr.D.str) ∧ ((∃ x, sV a = some x ∧ flatV x = true ∧ Q (.bl (if neg then !inV x (zs.map V.str) else inV x (zs.map V.str))) W) ∨ (blkD (vw W a) = true ∧ Q (.bl neg) W))
theorem blk_of {Z : List Addr} {H : Hp} {v : V} {a : Fr.D} (s : Sv K Z H W v a) (ok : WOk K Z H W) (h : blkD (vw W a) = true) : Blk K H v := by
  cases e : vw W a with
  | lst ds =>
    obtain ⟨p, vs, rfl, h1, _⟩ := s.lst ok e
    exact ⟨p, rfl, .inl ⟨vs, SqL.of h1⟩⟩
  | tup ds =>
    have ea : a = .tup ds := by
      cases a <;> first | exact e | skip
      all_goals (unfold vw at e; dsimp only at e; split at e <;> first | cases e | (rename_i c _ _; cases c <;> cases e))
    subst ea
    cases (show At K (bs Z H W) W v (.tup ds) from s) with
    | tup hs l => exact ⟨_, rfl, .inr (.inl ⟨_, sqT_up hs⟩)⟩
  | dic kvs =>
    obtain ⟨p, vs, rfl, h1, _⟩ := s.dic ok e
    exact ⟨p, rfl, .inr (.inr ⟨vs, h1⟩)⟩
  | _ => rw [e] at h; cases h
theorem l_inY {neg : Bool} : L22 K (rInY K neg) (r2InY neg) := fun Z x y a b H W Q Q2 ok s1 s2 ⟨zs, e, h⟩ co => by
  obtain ⟨p, vs, rfl, h1, l⟩ := s2.lst ok e
  cases atL_v l _ (sVs_strs zs)
  refine ⟨p, zs, rfl, SqL.of h1, ?_⟩
  rcases h with ⟨x', hx, fl, q⟩ | ⟨hb, q⟩
  · cases s1.sc hx
    exact .inl ⟨fl, co.now q ok (.ofS rfl)⟩
  · exact .inr ⟨blk_of s1 ok hb, co.now q ok (.ofS rfl)⟩
end
def blkE : E → Bool
  | .lst _ => true | .tup _ => true | .dic _ => true | _ => false
def oInY (neg : Bool) : OE2 := fun a b W => (isLstE (vE W b)).bind fun es => (strsE es).bind fun zs => match sE a with
  | some x => if flatV x = true then some (.bl (if neg then !inV x (zs.map V.str) else inV x (zs.map V.str))) else none
  | none => if blkE (vE W a) = true then some (.bl neg) else none
theorem k_inY {K : PySem.W.Frag} {neg : Bool} : Lk2 K (r2InY neg) (oInY neg) := fun W W3 a b a' b' d Q sh ra rb e q => by
  obtain ⟨es, e1, e⟩ := bind_some e
  obtain ⟨zs, e2, e⟩ := bind_some e
  refine ⟨zs, by rw [rv_lst rb sh e1, strs_s e2], ?_⟩
  cases h : sE a with
  | some x =>
    rw [h] at e
    dsimp only at e
    split at e
    · rename_i fl
      cases e
      simp only [tD] at q
      have h1 := sE_V (K := K) h
      rw [ra.sc h1]
      exact .inl ⟨x, h1, fl, q⟩
    · cases e
  | none =>
    rw [h] at e
    dsimp only at e
    split at e
    · rename_i hb
      cases e
      simp only [tD] at q
      refine .inr ⟨?_, q⟩
      have hc : ∀ p, vE W3 a ≠ .cel p := fun p z => by
        rw [z] at hb
        cases hb
      rw [ra.vw sh hc]
      revert hb
      cases vE W3 a <;> intro hb <;> first | (cases hb; done) | (simp only [tD]; rfl)
    · cases e
section
variable {X : Cx} {CX : CXT} {k : Nat} {C g p : Addr} {mc : Value} {sp : Sp} {E : XK} {m : Str} {o : Expr} {ta : TE} {pos apos : Pos}
theorem pe_cmeth0 {pl : Sem Bool} (he : PE X o ta) (r : ClX.CRead X.K C mc) (c : ClX.CMet X.K C mc m p g) (F : FnR X.prog X.w X.K X.mg X.base CX k g sp) (hr : Room k X.A) (hx : Passes CX X E)
    (ht : eval (.Call (.Attribute o m apos) [] [] pos) X.env = (do
      let ov ← eval o X.env
      standAt apos.atName
      let (f, first) ← holding [ov] (getMethod ov m pl)
      callWith pos f first (backTo pos (starEach [] X.env)) (backToKw pos (keywordEach [] X.env))) := by rfl) :
    PE X (.Call (.Attribute o m apos) [] [] pos) (ClX.tCMeth C sp E ta tNil) := by
  constructor
  intro pins s σ H Q I h
  refine PySem.W.methodCall_KW (pl := pl) (thn (he.run pins s σ H _ I h) ?_) ht
  rintro u s1 ⟨x, H1, I1, rx, rfl, q⟩
  cases (show u = Value.ref C from rx)
  refine ClX.getmethcm_ok I1 r c fun s2 I2 => ?_
  have hq := ClX.pin_at I2
  refine PySem.W.callWith_of rfl (PySem.W.keeps_M c.fi) (evalArgs_nil3 ⟨⟨hq, I2.kIn⟩, ?_⟩)
  exact ClX.run_cm (us := []) (vs := []) F hr hx I2 .nil q
end
theorem i_cmeth0 {K : PySem.W.Frag} {φ : Phi} {T : T2} {F : Sp2} {E : XK} {Ex : XK2} {C : Addr} {sp : Sp} (l : SpIs K sp F) (hx : XOk K φ Ex E) : ∀ σ H Q, LE K φ (t2CMeth C F Ex T a2Nil) σ H Q → ClX.tCMeth C sp E (LE K φ T) tNil σ H Q := fun σ H Q ⟨Z, env, W, Q2, R, t, co⟩ =>
  ⟨Z, env, W, _, R, t, fun o W1 x H1 ⟨eo, q⟩ g ok s => by
    subst eo
    cases (show At K _ _ x _ from s)
    obtain ⟨_, f⟩ := q
    exact ⟨rfl, l _ _ _ _ ⟨Z, _, W1, _, _, ok, .cons (.fn C) .nil, f, (co.step g).a, hx Z H1 W1 (R.grow g ok).ph (R.grow g ok).dm⟩⟩⟩
end Fr
namespace PySem.W
open PySem PySem.Spec PyProof.Rows L2 Fr
section
variable {prog : Program} {w : World} {A : Around} {E : Value → Shared → Prop} {s : Shared} {K : Frag} {x C f : Addr} {ox : Obj} {od : Option Obj} {T : String}
theorem fr_binT {op : Operator} {b : Value} {fo ro rc : Option Value} {Q : Value → Shared → Prop} (X : K.In s.heap) (I : InstAt s.heap x ox C od) (hb : Looks (model prog w) s.heap (typeOf b) (.type T)) (hc : selfFirst K C = true)
    (hs : findIn K (.ref C) (PySem.dunder op.info.2) = some (some (.ref f))) (hf : isFn K (.ref f) = true) (hr : findIn K (.ref C) (dunderR op.info.2) = some rc) (hp : rc = none ∨ ∃ g : Addr, rc = some (.ref g))
    (h1 : findIn K (.type T) (PySem.dunder op.info.2) = some fo) (h2 : findIn K (.type T) (dunderR op.info.2) = some ro) (hsub : subIn K (.type T) (.ref C) = some false)
    (h : wpAny (model prog w) A (call (.ref f) [.ref x, b]) (CmpBack Q) E s) : wpAny (model prog w) A (binaryOp op (.ref x) b) Q E s := by
  obtain ⟨cd, rest, hcd, hm⟩ := ksp_first hc
  obtain ⟨sym, nm, hi⟩ : ∃ sym nm, op.info = (sym, nm) := ⟨_, _, rfl⟩
  rw [hi] at hs hr h1 h2
  replace hs : findIn K (.ref C) (PySem.dunder nm) = some (some (.ref f)) := hs
  replace hr : findIn K (.ref C) (dunderR nm) = some rc := hr
  have one := ksp_try X I hs hf h
  obtain ⟨hh, g, d, tt, os⟩ := s
  have Lx : Looks (model prog w) hh (typeOf (.ref x)) (.ref C) := I.type
  have Lb : Looks (model prog w) hh (typeOf b) (.type T) := hb
  have La := fills_K (M := model prog w) X hcd hm hs
  have Lr := ksp_fillsT (M := model prog w) X h1 h2
  have Ls := looks_subIn (M := model prog w) X hsub
  have Lp := ksp_inPy (M := model prog w) X hs hr hp
  have Lq : Looks (model prog w) hh (numberSlotInPython (.type T) nm) false := Looks.of_pure rfl
  have Lt := looks_findIn (M := model prog w) X h2
  generalize ((fo.isSome && !isSeqSlot fo) || (ro.isSome && !isSeqSlot ro)) = right at Lr
  have hne : (Value.ref C == Value.type T) = false := by
    rw [Bool.eq_false_iff]
    intro q
    cases beq_iff_eq.mp q
  simp only [binaryOp, hi]
  refine wpAny_holding (wpAny_bind ?_)
  unfold binaryOp1
  refine wpAny_bind (Lx.at (wpAny_bind (Lb.at (wpAny_bind (La.at ?_)))))
  simp only [hne, Bool.false_eq_true, if_false]
  cases right <;>
  · ksp_lk
    refine wpAny_mono one (fun r s' hr' => ?_) fun _ _ e => e
    obtain ⟨v, rfl, hq⟩ := hr'
    ksp_lk
    exact hq
end
end PySem.W
namespace Fr
open PySem PySem.Spec PyProof.Rows L2
structure BinT (K : PySem.W.Frag) (C : Addr) (nm : String) : Prop where
  r : ∃ rc, PySem.W.findIn K (.ref C) (PySem.dunderR nm) = some rc ∧ (rc = none ∨ ∃ g : Addr, rc = some (.ref g))
  t : ∀ T ∈ offTys, (∃ fo, PySem.W.findIn K (.type T) (PySem.dunder nm) = some fo) ∧ (∃ ro, PySem.W.findIn K (.type T) (PySem.dunderR nm) = some ro) ∧ PySem.W.subIn K (.type T) (.ref C) = some false
def binTB (K : PySem.W.Frag) (C : Addr) (nm : String) : Bool := (match PySem.W.findIn K (.ref C) (PySem.dunderR nm) with
  | some none => true
  | some (some (.ref _)) => true
  | _ => false) && offTys.all fun T => (PySem.W.findIn K (.type T) (PySem.dunder nm)).isSome && ((PySem.W.findIn K (.type T) (PySem.dunderR nm)).isSome && decide (PySem.W.subIn K (.type T) (.ref C) = some false))
theorem binTB_ok {K : PySem.W.Frag} {C : Addr} {nm : String} (h : binTB K C nm = true) : BinT K C nm := by
  obtain ⟨h1, h2⟩ := He.ba h
  refine ⟨?_, fun T hT => ?_⟩
  · split at h1
    · rename_i e
      exact ⟨_, e, .inl rfl⟩
    · rename_i g e
      exact ⟨_, e, .inr ⟨g, rfl⟩⟩
    · cases h1
  · obtain ⟨h3, h4⟩ := He.ba (List.all_eq_true.mp h2 T hT)
    obtain ⟨h5, h6⟩ := He.ba h4
    exact ⟨Option.isSome_iff_exists.mp h3, Option.isSome_iff_exists.mp h5, of_decide_eq_true h6⟩
section
variable {X : Cx} {CX : CXT} {C g : Addr} {n : Nat} {sp : Sp} {E : XK}
def rBinA (K : PySem.W.Frag) (C : Addr) (sp : Sp) (E : XK) : R2 := fun x y H Q => ∃ a, x = .ref a ∧ Ins H a C ∧ ((∃ b, y = .ref b ∧ Ins H b C) ∨ ∃ T ∈ offTys, TyX K H y (.type T)) ∧ sp [x, y] H Q E
theorem op_binA {K : PySem.W.Frag} (eK : X.K = K) {op : Operator} (hc : PySem.W.selfFirst X.K C = true) (bt : BinT X.K C op.info.2) (d : Dun X.K C (PySem.dunder op.info.2) g) (F : FnR X.prog X.w X.K X.mg X.base CX n g sp) (hr : Room n X.A) (hx : Passes CX X E) : OpR X (binaryOp op) (rBinA K C sp E) := by
  subst eK
  intro pins s σ H x y v u Q I rx ry h
  obtain ⟨a, rfl, ha, hb | ⟨T, hT, ty⟩, q⟩ := h
  · obtain ⟨b, rfl, hb⟩ := hb
    exact op_binO hc d F hr hx pins s σ H _ _ v u Q I rx ry ⟨a, b, rfl, rfl, ha, hb, q⟩
  · cases (show v = Value.ref a from rx)
    obtain ⟨_, _, J⟩ := ha.at I
    obtain ⟨P, Zk, p, _⟩ := kit_of I ry ty
    obtain ⟨rc, r1, r2⟩ := bt.r
    obtain ⟨⟨fo, t1⟩, ⟨ro, t2⟩, t3⟩ := bt.t T hT
    exact PySem.W.fr_binT I.kIn J (Zk.ty _ _ I.kIn p) hc d.at_ d.fn r1 r2 t1 t2 t3 (run_op F hr I.env0 hx I (.cons rel_ref (.cons ry .nil)) q fun v u s' H' I' rv q' => SlX.cmpback rv ⟨v, H', I', rv, q'⟩)
end
section
variable {K : PySem.W.Frag} {φ : Phi} {Ta Tb : T2} {F : Sp2} {Ex : XK2} {E : XK} {C : Addr} {sp : Sp}
def t2BinA (K : PySem.W.Frag) (C : Addr) (F : Sp2) (Ex : XK2) (Ta Tb : T2) : T2 := fun env W Q => Ta env W fun a W1 => Tb env W1 fun b W2 => ∃ fs, vw W2 a = .obj C fs ∧ ((∃ gs, vw W2 b = .obj C gs) ∨ ∃ T ∈ offTys, TyD K W2 b (.type T)) ∧ Pl a ∧ Pl b ∧ F [a, b] W2 Q Ex
theorem i_binA (l : SpIs K sp F) (hx : XOk K φ Ex E) : ∀ σ H Q, LE K φ (t2BinA K C F Ex Ta Tb) σ H Q → tOp (rBinA K C sp E) (LE K φ Ta) (LE K φ Tb) σ H Q := fun σ H Q ⟨Z, env, W, Q2, R, t, co⟩ =>
  ⟨Z, env, W, _, R, t, fun a W1 x H1 q1 g1 ok1 s1 => ⟨Z, env, W1, _, R.grow g1 ok1, q1, fun b W2 y H2 ⟨fs, e1, e2, p1, p2, f⟩ g2 ok2 s2 => by
    obtain ⟨p, rfl, i1⟩ := insOf (s1.grow g2) ok2 e1
    have gg := g1.trans g2
    refine ⟨p, rfl, i1, ?_, l _ _ _ _ ⟨Z, _, W2, _, _, ok2, .cons ((s1.grow g2).at p1) (.cons (s2.at p2) .nil), f, (co.step gg).a, hx Z H2 W2 (R.grow gg ok2).ph (R.grow gg ok2).dm⟩⟩
    rcases e2 with ⟨gs, e2⟩ | ⟨T, hT, ty⟩
    · obtain ⟨q, rfl, i2⟩ := insOf s2 ok2 e2
      exact .inl ⟨q, rfl, i2⟩
    · exact .inr ⟨T, hT, TyX_of s2 ok2 ty⟩⟩⟩
def tyB : Fr.E → Option String
  | .non => some "NoneType" | .bl _ => some "bool" | .int _ => some "int" | .str _ => some "str" | .lst _ => some "list" | .tup _ => some "tuple" | .dic _ => some "dict" | _ => none
def anyE (C : String) (y : Fr.E) : Bool := (isObjE C y).isSome || (tyB y).isSome
def e3BinA (C : String) (f : F3) (a b : E3) : E3 := fun env W => (a env W).bind fun x W1 => (b env W1).bind fun y W2 => (ofO (isObjE C (vE W2 x)) W2).bind fun u W2 => if anyE C y = true then f [x, y] W2 else .stuck
variable {w0 kb : Wd} {Exs : XS2} {f : F3} {C : String} {ma mb : E3} {Ec : XK2}
theorem anyE_ty {W : Wd} {y : Fr.E} (h : anyE C y = true) : (∃ gs, vw W (tD K y) = .obj (He.ga K C) gs) ∨ ∃ T ∈ offTys, TyD K W (tD K y) (.type T) := by
  unfold anyE at h
  rw [Bool.or_eq_true] at h
  rcases h with h | h
  · obtain ⟨fs, e⟩ := Option.isSome_iff_exists.mp h
    have := isObj_some e
    subst this
    exact .inl ⟨tDf K fs, by simp only [tD, Fr.vw]⟩
  · right
    cases y <;> first | (cases h; done) | skip
    · exact ⟨"NoneType", by decide, by simp only [tD]; exact .non⟩
    · exact ⟨"bool", by decide, by simp only [tD]; exact .bl _⟩
    · exact ⟨"int", by decide, by simp only [tD]; exact .int _⟩
    · exact ⟨"str", by decide, by simp only [tD]; exact .str _⟩
    · exact ⟨"list", by decide, by simp only [tD]; exact .lst (by simp only [Fr.vw]; rfl)⟩
    · exact ⟨"tuple", by decide, by simp only [tD]; exact .tup _⟩
    · exact ⟨"dict", by decide, by simp only [tD]; exact .dic (by simp only [Fr.vw]; rfl)⟩
theorem v_binA (hf : FnE K F f) (ha : EvP K w0 kb (fun _ => Ec) Ta ma) (hb : EvP K w0 kb (fun _ => Ec) Tb mb) : EvP K w0 kb (fun _ => Ec) (t2BinA K (He.ga K C) F Ec Ta Tb) (e3BinA C f ma mb) := fun env W env3 W3 Q R sh st =>
  ha env W env3 W3 _ R sh ((sat_bind.mp st).mono (fun x W4 q W1 k1 sh1 => hb env W1 env3 W4 _ (R.step k1) sh1 ((sat_bind.mp q).mono (fun y W5 q2 W2 k2 sh2 => by
    obtain ⟨fs, he, q3⟩ := sat_ofO (sat_bind.mp q2)
    split at q3
    · rename_i hy
      have := fne_go hf (k1.trans k2) sh2 q3
      simp only [tDs] at this
      exact ⟨tDf K fs, rv_obj (vp x) sh2 he, anyE_ty hy, pl_tD x, pl_tD y, this⟩
    · exact q3.elim) fun _ _ _ x => x.step k1)) fun _ _ _ x => x)
end
end Fr
namespace K09
open PySem PySem.Spec PyProof.Rows L2 Fr
abbrev csL : List String := ["Rights"]
abbrev subL : List ((String × String) × Bool) := [(("InvalidRights", "RightsError"), true), (("InvalidRights", "MissingError"), false), (("InvalidRights", "RefusedError"), false), (("InvalidRights", "InvalidInteger"), false), (("InvalidRights", "InvalidRights"), true), (("InvalidInteger", "RightsError"), true), (("InvalidInteger", "MissingError"), false), (("InvalidInteger", "RefusedError"), false), (("InvalidInteger", "InvalidInteger"), true), (("InvalidInteger", "InvalidRights"), false)]
abbrev subX : SubT := fun C D => subL.lookup (C, D)
abbrev subT : SubT := subX
def tbl_0 : List ETb := []
def b_Rights_eq : S3 := (s3Seq (s3If (b3Not (b3T (e3CB (oIsi csL) (a3Cons (e3Var 1) (a3Cons (e3C (.fn "Rights")) a3Nil)))))
        (s3Ret (e3C (.bl false)))
        s3Nx)
      (s3Ret (e3Op oEq (e3Fld "Rights" "own_digit" (e3Var 0)) (e3Fld "Rights" "own_digit" (e3Var 1)))))
def f_Rights_eq : F3 := runF 2 2 b_Rights_eq
def eqf_Rights (fs : List (Str × E)) : E → Option Bool
  | .obj C gs => if C = "Rights" then (match fs.lookup ("own_digit" : Str), gs.lookup ("own_digit" : Str) with | some (.int i), some (.int j) => some (decide (i = j)) | _, _ => none) else if csL.contains C = true then some false else none
  | b => if plainB b = true then some false else none
def tbl_1 : List ETb := tbl_0 ++ [⟨"Rights", eqf_Rights, f_Rights_eq⟩]
def b_digit_of : S3 := (s3Seq (s3If (b3Not (b3T (e3CB (oIsi csL) (a3Cons (e3Var 0) (a3Cons (e3C (.ty "str")) a3Nil)))))
        (s3Ret (e3C .non))
        s3Nx)
      (s3Seq (s3Asg (e3C (.int (0))) (g3Name 1))
      (s3Seq (s3For (a3Str (e3Var 0)) (g3Name 2)
        (s3Seq (s3Asg (e3KGet "BITS" [("r", .int (4)), ("w", .int (2)), ("x", .int (1))] (e3C (.fn "BITS")) (e3Var 2) (e3C (.int (0)))) (g3Name 3))
        (s3Seq (s3If (b3Or (b3T (e3Op oEq (e3Var 3) (e3C (.int (0))))) (b3T (e3Op oGt (e3Op oAnd (e3Var 1) (e3Var 3)) (e3C (.int (0))))))
          (s3Ret (e3C .non))
          s3Nx)
        (s3Asg (e3Op oOr (e3Var 1) (e3Var 3)) (g3Name 1)))))
      (s3Ret (e3Var 1)))))
def f_digit_of : F3 := runF 4 1 b_digit_of
def b_Rights_init : S3 := (s3Seq (s3Asg (e3Call (calmF f_digit_of) (a3Cons (e3Var 1) a3Nil)) (g3Name 2))
      (s3Seq (s3If (b3T (e3Op (oIsN false) (e3Var 2) (e3C .non)))
        (s3Raise "InvalidRights" "value" (e3Var 1))
        s3Nx)
      (s3Seq (s3Fld "Rights" "own_digit" 0 (e3Var 2))
      (s3Fld "Rights" "own_letters" 0 (e3CB oListS (a3Cons (e3Op oIxT (e3C (.tup [(.str ""), (.str "x"), (.str "w"), (.str "wx"), (.str "r"), (.str "rx"), (.str "rw"), (.str "rwx")])) (e3Var 2)) a3Nil))))))
def f_Rights_init : Fi3 := runI "Rights" 3 1 b_Rights_init
def b_Rights_digit : S3 := (s3Ret (e3Fld "Rights" "own_digit" (e3Var 0)))
def f_Rights_digit : F3 := runF 1 1 b_Rights_digit
def b_Rights_from_digit : S3 := (s3Seq (s3If (b3Or (b3Not (b3T (e3CB (oIsi csL) (a3Cons (e3Var 1) (a3Cons (e3C (.ty "int")) a3Nil))))) (b3Or (b3T (e3CB (oIsi csL) (a3Cons (e3Var 1) (a3Cons (e3C (.ty "bool")) a3Nil)))) (b3Not (b3T (e3Chain oLe oLe (e3C (.int (0))) (e3Var 1) (e3C (.int (7))))))))
        (s3Raise "InvalidInteger" "value" (e3Var 1))
        s3Nx)
      (s3Ret (e3MakeV 0 "Rights" (dflFi [] f_Rights_init) (a3Cons (e3Op oIxT (e3C (.tup [(.str ""), (.str "x"), (.str "w"), (.str "wx"), (.str "r"), (.str "rx"), (.str "rw"), (.str "rwx")])) (e3Var 1)) a3Nil))))
def f_Rights_from_digit : F3 := runF 2 2 b_Rights_from_digit
def b_Rights_listed : S3 := (s3Ret (e3CB oList (a3Cons (e3Fld "Rights" "own_letters" (e3Var 0)) a3Nil)))
def f_Rights_listed : F3 := runF 1 1 b_Rights_listed
def b_Rights_of : S3 := (s3Seq (s3Asg (e3C (.int (0))) (g3Name 2))
      (s3Seq (s3For (a3TupI (e3Var 1)) (g3Name 3)
        (s3Seq (s3Asg (e3If (b3T (e3CB (oIsi csL) (a3Cons (e3Var 3) (a3Cons (e3C (.fn "Rights")) a3Nil)))) (e3Prop "Rights" (calmF f_Rights_digit) (e3Var 3)) (e3Call (calmF f_digit_of) (a3Cons (e3Var 3) a3Nil))) (g3Name 4))
        (s3Seq (s3If (b3T (e3Op (oIsN false) (e3Var 4) (e3C .non)))
          (s3Raise "InvalidRights" "value" (e3Var 3))
          s3Nx)
        (s3Aug 2 (e3Var 4) oOr))))
      (s3Ret (e3MakeV 0 "Rights" (dflFi [] f_Rights_init) (a3Cons (e3Op oIxT (e3C (.tup [(.str ""), (.str "x"), (.str "w"), (.str "wx"), (.str "r"), (.str "rx"), (.str "rw"), (.str "rwx")])) (e3Var 2)) a3Nil)))))
def f_Rights_of : F3 := runF 5 2 b_Rights_of
def b_law_caught (fL : Addr) (θ : Fr.WE → Tr Fr.E) : S3 := (s3Seq (s3Try subX (s3Asg (e3Thk 0 fL θ) (g3Name 1)) (Hd3.as "InvalidRights" 2 (fun xa xC xfs => (s3Ret (e3Lst (a3Cons (e3Op oIxL (e3Lst (a3Cons (e3C (.str "rights")) (a3Cons (e3C (.str "other")) a3Nil))) (e3CB oInt1 (a3Cons (e3IsET subT xa xC "InvalidRights" (e3Var 2) (a3Cons (e3C (.fn "InvalidInteger")) (a3Cons (e3C (.fn "MissingError")) (a3Cons (e3C (.fn "RefusedError")) a3Nil)))) a3Nil))) (a3Cons (e3Xf xa xC "InvalidRights" xfs "value" (e3Var 2)) a3Nil)))))
        (Hd3.as "InvalidInteger" 2 (fun xa xC xfs => (s3Ret (e3Lst (a3Cons (e3Op oIxL (e3Lst (a3Cons (e3C (.str "integer")) (a3Cons (e3C (.str "other")) a3Nil))) (e3CB oInt1 (a3Cons (e3IsET subT xa xC "InvalidInteger" (e3Var 2) (a3Cons (e3C (.fn "MissingError")) (a3Cons (e3C (.fn "RefusedError")) a3Nil))) a3Nil))) (a3Cons (e3Xf xa xC "InvalidInteger" xfs "value" (e3Var 2)) a3Nil)))))
        Hd3.never)))
      (s3Ret (e3Lst (a3Cons (e3C (.str "told")) (a3Cons (e3Var 1) a3Nil)))))
def f_law_caught (fL : Addr) (θ : Fr.WE → Tr Fr.E) : F3 := runF 3 1 (b_law_caught fL θ)
def b_law_odd : S3 := (s3Seq (s3Asg (e3Lst (a3Cons (e3C .non) (a3Cons (e3C (.bl true)) (a3Cons (e3C (.bl false)) (a3Cons (e3C (.int (0))) (a3Cons (e3Un oNeg (e3C (.int (1)))) (a3Cons (e3C (.int (8))) (a3Cons (e3Op oPow (e3C (.int (10))) (e3C (.int (29)))) (a3Cons (e3C (.str "")) (a3Cons (e3C (.str "root")) (a3Cons (e3C (.str "R")) (a3Cons (e3C (.str "rr")) (a3Cons (e3C (.str "rwxr")) (a3Cons (e3C (.str "A")) (a3Cons (e3C (.str "toolonganame")) (a3Cons (e3Lst a3Nil) (a3Cons (e3Lst (a3Cons (e3C (.int (1))) a3Nil)) (a3Cons (e3C (.dic [])) a3Nil)))))))))))))))))) (g3Name 1))
      (s3Seq (s3Asg (e3Op oCat (e3Var 1) (e3Lst (a3Cons (e3Disp (p3Cons (e3C (.str "a")) (e3C (.int (1))) p3Nil)) (a3Cons (e3Tup a3Nil) (a3Cons (e3Tup (a3Cons (e3C (.str "a")) (a3Cons (e3C (.str "b")) a3Nil))) (a3Cons (e3Lst (a3Cons (e3C (.str "7")) (a3Cons (e3C (.str "5")) (a3Cons (e3C (.str "0")) a3Nil)))) (a3Cons (e3C (.str "/")) (a3Cons (e3C (.str "//")) (a3Cons (e3C (.str "r w")) (a3Cons (e3C (.str "7777")) (a3Cons (e3C (.str "888")) (a3Cons (e3C (.str " ")) (a3Cons (e3C (.str "a/b")) (a3Cons (e3C (.int (7))) (a3Cons (e3C (.str "rwx\n")) a3Nil))))))))))))))) (g3Name 1))
      (s3Ret (e3Op oIxL (e3Var 1) (e3Call (calmF f3_take) (a3Cons (e3Var 0) (a3Cons (e3C (.int (30))) a3Nil)))))))
def f_law_odd : F3 := runF 2 1 b_law_odd
def b_Rights_contains : S3 := (s3Ret (e3AndV (e3CB (oIsi csL) (a3Cons (e3Var 1) (a3Cons (e3C (.ty "str")) a3Nil))) (e3Op (oIn false) (e3Var 1) (e3Fld "Rights" "own_letters" (e3Var 0)))))
def f_Rights_contains : F3 := runF 2 2 b_Rights_contains
def b_Rights_and : S3 := (s3Seq (s3If (b3Not (b3T (e3CB (oIsi csL) (a3Cons (e3Var 1) (a3Cons (e3C (.fn "Rights")) a3Nil)))))
        (s3Raise "InvalidRights" "value" (e3Var 1))
        s3Nx)
      (s3Ret (e3Make "Rights" (dflFi [] f_Rights_init) (a3Cons (e3Op oIxT (e3C (.tup [(.str ""), (.str "x"), (.str "w"), (.str "wx"), (.str "r"), (.str "rx"), (.str "rw"), (.str "rwx")])) (e3Op oAnd (e3Fld "Rights" "own_digit" (e3Var 0)) (e3Fld "Rights" "own_digit" (e3Var 1)))) a3Nil))))
def f_Rights_and : F3 := runF 2 2 b_Rights_and
def b_Rights_or : S3 := (s3Seq (s3If (b3Not (b3T (e3CB (oIsi csL) (a3Cons (e3Var 1) (a3Cons (e3C (.fn "Rights")) a3Nil)))))
        (s3Raise "InvalidRights" "value" (e3Var 1))
        s3Nx)
      (s3Ret (e3Make "Rights" (dflFi [] f_Rights_init) (a3Cons (e3Op oIxT (e3C (.tup [(.str ""), (.str "x"), (.str "w"), (.str "wx"), (.str "r"), (.str "rx"), (.str "rw"), (.str "rwx")])) (e3Op oOr (e3Fld "Rights" "own_digit" (e3Var 0)) (e3Fld "Rights" "own_digit" (e3Var 1)))) a3Nil))))
def f_Rights_or : F3 := runF 2 2 b_Rights_or
def b_Rights_sub : S3 := (s3Seq (s3If (b3Not (b3T (e3CB (oIsi csL) (a3Cons (e3Var 1) (a3Cons (e3C (.fn "Rights")) a3Nil)))))
        (s3Raise "InvalidRights" "value" (e3Var 1))
        s3Nx)
      (s3Ret (e3Make "Rights" (dflFi [] f_Rights_init) (a3Cons (e3Op oIxT (e3C (.tup [(.str ""), (.str "x"), (.str "w"), (.str "wx"), (.str "r"), (.str "rx"), (.str "rw"), (.str "rwx")])) (e3Op oAnd (e3Fld "Rights" "own_digit" (e3Var 0)) (e3Op oSub (e3C (.int (7))) (e3Fld "Rights" "own_digit" (e3Var 1))))) a3Nil))))
def f_Rights_sub : F3 := runF 2 2 b_Rights_sub
def b_Rights_xor : S3 := (s3Seq (s3If (b3Not (b3T (e3CB (oIsi csL) (a3Cons (e3Var 1) (a3Cons (e3C (.fn "Rights")) a3Nil)))))
        (s3Raise "InvalidRights" "value" (e3Var 1))
        s3Nx)
      (s3Ret (e3Make "Rights" (dflFi [] f_Rights_init) (a3Cons (e3Op oIxT (e3C (.tup [(.str ""), (.str "x"), (.str "w"), (.str "wx"), (.str "r"), (.str "rx"), (.str "rw"), (.str "rwx")])) (e3Op oXor (e3Fld "Rights" "own_digit" (e3Var 0)) (e3Fld "Rights" "own_digit" (e3Var 1)))) a3Nil))))
def f_Rights_xor : F3 := runF 2 2 b_Rights_xor
def b_bits_of : S3 := (s3Seq (s3If (b3Not (b3T (e3CB (oIsi csL) (a3Cons (e3Var 0) (a3Cons (e3C (.fn "Rights")) a3Nil)))))
        (s3Raise "InvalidRights" "value" (e3Var 0))
        s3Nx)
      (s3Ret (e3Fld "Rights" "own_digit" (e3Var 0))))
def f_bits_of : F3 := runF 1 1 b_bits_of
def b_Rights_covers : S3 := (s3Ret (e3Op oEq (e3Op oAnd (e3Fld "Rights" "own_digit" (e3Var 0)) (e3Call f_bits_of (a3Cons (e3Var 1) a3Nil))) (e3Call f_bits_of (a3Cons (e3Var 1) a3Nil))))
def f_Rights_covers : F3 := runF 2 2 b_Rights_covers
def b_law_sign : S3 := (s3Seq (s3If (b3T (e3Op oLt (e3Var 2) (e3C (.int (4)))))
        (s3Seq (s3If (b3T (e3Op oLt (e3Var 2) (e3C (.int (2)))))
          (s3Ret (e3If (b3T (e3Op oEq (e3Var 2) (e3C (.int (0))))) (e3BinA "Rights" f_Rights_or (e3Var 0) (e3Var 1)) (e3BinA "Rights" f_Rights_and (e3Var 0) (e3Var 1))))
          s3Nx)
        (s3Ret (e3If (b3T (e3Op oEq (e3Var 2) (e3C (.int (2))))) (e3BinA "Rights" f_Rights_sub (e3Var 0) (e3Var 1)) (e3BinA "Rights" f_Rights_xor (e3Var 0) (e3Var 1)))))
        s3Nx)
      (s3Ret (e3Meth "Rights" "covers" f_Rights_covers (e3Var 0) (a3Cons (e3Var 1) a3Nil))))
def f_law_sign : F3 := runF 3 3 b_law_sign
def b_as_rights : S3 := (s3Ret (e3CMeth "Rights" (starF 1 f_Rights_of) (e3C (.fn "Rights")) (a3Cons (e3Var 0) a3Nil)))
def f_as_rights : F3 := runF 1 1 b_as_rights
def b_law_ask : S3 := (s3Seq (s3If (b3T (e3Op oLt (e3Var 0) (e3C (.int (5)))))
        (s3Ret (e3Call f_law_sign (a3Cons (e3Op oIxL (e3Lst (a3Cons (e3Make "Rights" (dflFi [] f_Rights_init) (a3Cons (e3C (.str "rx")) a3Nil)) (a3Cons (e3Make "Rights" (dflFi [] f_Rights_init) (a3Cons (e3C (.str "rwx")) a3Nil)) (a3Cons (e3Make "Rights" (dflFi [(.str "")] f_Rights_init) a3Nil) a3Nil)))) (e3Op oMod (e3CB oLenS (a3Cons (e3CB oReprA (a3Cons (e3Var 1) a3Nil)) a3Nil)) (e3C (.int (3))))) (a3Cons (e3Var 1) (a3Cons (e3Var 0) a3Nil)))))
        s3Nx)
      (s3Seq (s3If (b3T (e3Op oEq (e3Var 0) (e3C (.int (5)))))
        (s3Ret (e3Make "Rights" (dflFi [] f_Rights_init) (a3Cons (e3Var 1) a3Nil)))
        s3Nx)
      (s3Seq (s3If (b3T (e3Op oEq (e3Var 0) (e3C (.int (6)))))
        (s3Ret (e3Call f_as_rights (a3Cons (e3Var 1) a3Nil)))
        s3Nx)
      (s3Seq (s3If (b3T (e3Op oEq (e3Var 0) (e3C (.int (7)))))
        (s3Ret (e3CMeth "Rights" (starF 1 f_Rights_of) (e3C (.fn "Rights")) (a3Cons (e3Var 1) a3Nil)))
        s3Nx)
      (s3Ret (e3If (b3T (e3Op oEq (e3Var 0) (e3C (.int (8))))) (e3CMeth "Rights" (starF 1 f_Rights_of) (e3C (.fn "Rights")) (a3Cons (e3C (.str "r")) (a3Cons (e3Make "Rights" (dflFi [(.str "")] f_Rights_init) a3Nil) (a3Cons (e3Var 1) a3Nil)))) (e3CMeth "Rights" f_Rights_from_digit (e3C (.fn "Rights")) (a3Cons (e3Var 1) a3Nil))))))))
def f_law_ask : F3 := runF 2 2 b_law_ask
def b_law_is_letters : S3 := (s3Seq (s3If (b3Not (b3T (e3CB (oIsi csL) (a3Cons (e3Var 0) (a3Cons (e3C (.ty "str")) a3Nil)))))
        (s3Ret (e3C (.bl false)))
        s3Nx)
      (s3Ret (e3AndV (e3Op oEqD (e3Lc (a3Str (e3Var 0)) (g3Name 1) (b3T (e3Op oNotInSg (e3Var 1) (e3C (.str "rwx")))) (e3Var 1) [1]) (e3Lst a3Nil)) (e3Op oEq (e3Un oLenSetT (e3Var 0)) (e3CB oLenS (a3Cons (e3Var 0) a3Nil))))))
def f_law_is_letters : F3 := runF 2 1 b_law_is_letters
def b_law_same : S3 := (s3Ret (e3Op oEq (e3CB oReprA (a3Cons (e3Var 0) a3Nil)) (e3CB oReprA (a3Cons (e3Var 1) a3Nil))))
def f_law_same : F3 := runF 2 2 b_law_same
def b_digit_in : S3 := (s3Ret (e3If (b3T (e3CB (oIsi csL) (a3Cons (e3Var 0) (a3Cons (e3C (.fn "Rights")) a3Nil)))) (e3Prop "Rights" (calmF f_Rights_digit) (e3Var 0)) (e3Call (calmF f_digit_of) (a3Cons (e3Var 0) a3Nil))))
def f_digit_in : F3 := runF 1 1 b_digit_in
def b_is_rights : S3 := (s3Ret (e3Op (oIsN true) (e3Call (calmF f_digit_in) (a3Cons (e3Var 0) a3Nil)) (e3C .non)))
def f_is_rights : F3 := runF 1 1 b_is_rights
def l_law_right_1 : S3 := (s3Seq (s3Asg (e3Lam f_law_caught (e3Call f_law_ask (a3Cons (e3Var 3) (a3Cons (e3Var 0) a3Nil)))) (g3Name 4))
        (s3If (b3Or (b3T (e3Op oLt (e3Var 3) (e3C (.int (5))))) (b3Not (b3T (e3Var 2))))
          (s3If (b3Not (b3T (e3Call (calmF f_law_same) (a3Cons (e3Var 4) (a3Cons (e3Lst (a3Cons (e3C (.str "rights")) (a3Cons (e3Var 0) a3Nil))) a3Nil)))))
            (s3Ret (e3C (.bl false)))
            s3Nx)
          (s3If (b3T (e3Op oNe (e3Op oIxL (e3Var 4) (e3C (.int (0)))) (e3C (.str "told"))))
            (s3Ret (e3C (.bl false)))
            s3Nx)))
def b_law_right : S3 := (s3Seq (s3Asg (e3Call (calmF f_law_is_letters) (a3Cons (e3Var 0) a3Nil)) (g3Name 2))
      (s3Seq (s3If (b3T (e3Op oNe (e3CB oReprA (a3Cons (e3Lst (a3Cons (e3Call (calmF f_is_rights) (a3Cons (e3Var 0) a3Nil)) (a3Cons (e3Op (oEqC tbl_1) (e3Make "Rights" (calmFi (dflFi [] f_Rights_init)) (a3Cons (e3C (.str "rx")) a3Nil)) (e3Var 0)) (a3Cons (e3InO "Rights" (calmF f_Rights_contains) id (e3Var 0) (e3Make "Rights" (calmFi (dflFi [] f_Rights_init)) (a3Cons (e3C (.str "rx")) a3Nil))) a3Nil)))) a3Nil)) (e3CB oReprA (a3Cons (e3Lst (a3Cons (e3Var 2) (a3Cons (e3C (.bl false)) (a3Cons (e3Op (oInY false) (e3Var 0) (e3Lst (a3Cons (e3C (.str "r")) (a3Cons (e3C (.str "x")) a3Nil)))) a3Nil)))) a3Nil))))
        (s3Ret (e3C (.bl false)))
        s3Nx)
      (s3Seq (s3For (a3Rng1 (a3Cons (e3C (.int (9))) a3Nil)) (g3Name 3)
        l_law_right_1)
      (s3Seq (s3Asg (e3Lc (a3List (e3Lst (a3Cons (e3Var 0) (a3Cons (e3Var 1) a3Nil)))) (g3Name 6) (b3Not (b3T (e3Call (calmF f_law_is_letters) (a3Cons (e3Var 6) a3Nil)))) (e3Var 6) [6]) (g3Name 5))
      (s3Seq (s3Asg (e3Lam f_law_caught (e3CMeth "Rights" (starF 1 f_Rights_of) (e3C (.fn "Rights")) (a3Cons (e3C (.str "x")) (a3Cons (e3Var 0) (a3Cons (e3Var 1) a3Nil))))) (g3Name 4))
      (s3Seq (s3If (b3Or (b3And (b3T (e3Op (oEqL (!·) tbl_1) (e3Var 5) (e3Lst a3Nil))) (b3Not (b3T (e3Call (calmF f_law_same) (a3Cons (e3Var 4) (a3Cons (e3Lst (a3Cons (e3C (.str "rights")) (a3Cons (e3Op oIxL (e3Var 5) (e3C (.int (0)))) a3Nil))) a3Nil)))))) (b3And (b3T (e3Op (oEqL id tbl_1) (e3Var 5) (e3Lst a3Nil))) (b3T (e3Op oNe (e3Op oIxL (e3Var 4) (e3C (.int (0)))) (e3C (.str "told"))))))
        (s3Ret (e3C (.bl false)))
        s3Nx)
      (s3Seq (s3Asg (e3AndV (e3CB (oIsi csL) (a3Cons (e3Var 0) (a3Cons (e3C (.ty "int")) a3Nil))) (e3AndV (e3NotV (e3CB (oIsi csL) (a3Cons (e3Var 0) (a3Cons (e3C (.ty "bool")) a3Nil)))) (e3Chain oLe oLe (e3C (.int (0))) (e3Var 0) (e3C (.int (7)))))) (g3Name 7))
      (s3Seq (s3Asg (e3Lam f_law_caught (e3Call f_law_ask (a3Cons (e3C (.int (9))) (a3Cons (e3Var 0) a3Nil)))) (g3Name 4))
      (s3Ret (e3If (b3T (e3Var 7)) (e3Op oEq (e3Op oIxL (e3Var 4) (e3C (.int (0)))) (e3C (.str "told"))) (e3Call (calmF f_law_same) (a3Cons (e3Var 4) (a3Cons (e3Lst (a3Cons (e3C (.str "integer")) (a3Cons (e3Var 0) a3Nil))) a3Nil)))))))))))))
def f_law_right : F3 := runF 8 2 b_law_right
def l_law_1 : S3 := (s3Seq (s3Asg (e3M1 oJoin (e3C (.str "")) (e3Lc (a3Rng1 (a3Cons (e3Call (calmF f3_take) (a3Cons (e3Var 2) (a3Cons (e3C (.int (6))) a3Nil))) a3Nil)) (g3Name 5) b3Yes (e3Op oIxS (e3C (.str "rwxR-7wr")) (e3Call (calmF f3_take) (a3Cons (e3Var 2) (a3Cons (e3C (.int (8))) a3Nil)))) [5])) (g3Name 4))
          (s3Seq (s3Asg (e3Op oIxL (e3Lst (a3Cons (e3Call (calmF f_law_odd) (a3Cons (e3Var 2) a3Nil)) (a3Cons (e3Var 4) (a3Cons (e3C (.str "r-x")) (a3Cons (e3C (.str "--x")) a3Nil))))) (e3Call (calmF f3_take) (a3Cons (e3Var 2) (a3Cons (e3C (.int (4))) a3Nil)))) (g3Name 6))
          (s3Seq (s3Asg (e3Op oIxL (e3Lst (a3Cons (e3Call (calmF f_law_odd) (a3Cons (e3Var 2) a3Nil)) (a3Cons (e3C (.str "w")) (a3Cons (e3Var 4) a3Nil)))) (e3Call (calmF f3_take) (a3Cons (e3Var 2) (a3Cons (e3C (.int (3))) a3Nil)))) (g3Name 7))
          (s3If (b3Not (b3T (e3Call (calmF f_law_right) (a3Cons (e3Var 6) (a3Cons (e3Var 7) a3Nil)))))
            (s3Ret (e3C (.bl false)))
            s3Nx))))
def l_law_2 : S3 := (s3Seq (s3Asg (e3Call (calmF f3_bag) (a3Cons (e3Call (calmF f3_cell) (a3Cons (e3Var 0) (a3Cons (e3Var 1) a3Nil))) a3Nil)) (g3Name 2))
        (s3Seq (s3For (a3Rng1 (a3Cons (e3C (.int (8))) a3Nil)) (g3Name 3)
          l_law_1)
        (s3Seq (s3Par 8 9 (a3Cons (e3Call (calmF f3_take) (a3Cons (e3Var 2) (a3Cons (e3C (.int (8))) a3Nil))) (a3Cons (e3Call (calmF f3_take) (a3Cons (e3Var 2) (a3Cons (e3C (.int (8))) a3Nil))) a3Nil)))
        (s3Seq (s3Asg (e3Tup (a3Cons (e3CMeth "Rights" (calmF f_Rights_from_digit) (e3C (.fn "Rights")) (a3Cons (e3Var 8) a3Nil)) (a3Cons (e3CMeth "Rights" (calmF f_Rights_from_digit) (e3C (.fn "Rights")) (a3Cons (e3Var 9) a3Nil)) a3Nil))) (g3Tup 2 (g3Cons (g3Name 10) (g3Cons (g3Name 11) g3Nil))))
        (s3Seq (s3Asg (e3Lam f_law_caught (e3Make "Rights" (dflFi [] f_Rights_init) (a3Cons (e3Var 10) a3Nil))) (g3Name 12))
        (s3Seq (s3If (b3Or (b3T (e3Op oNe (e3Op oIxL (e3Var 12) (e3C (.int (0)))) (e3C (.str "rights")))) (b3T (e3Op (oNeC tbl_1) (e3Op oIxL (e3Var 12) (e3C (.int (1)))) (e3Var 10))))
          (s3Ret (e3C (.bl false)))
          s3Nx)
        (s3Seq (s3If (b3Or (b3T (e3Op oNe (e3Prop "Rights" (calmF f_Rights_digit) (e3CMeth "Rights" (calmF (starF 1 f_Rights_of)) (e3C (.fn "Rights")) (a3Cons (e3Var 10) (a3Cons (e3Var 11) a3Nil)))) (e3Op oOr (e3Var 8) (e3Var 9)))) (b3Or (b3T (e3Op oNe (e3Prop "Rights" (calmF f_Rights_digit) (e3CMeth "Rights" (calmF (starF 1 f_Rights_of)) (e3C (.fn "Rights")) a3Nil)) (e3C (.int (0))))) (b3T (e3Op (oNeC tbl_1) (e3Call (calmF f_as_rights) (a3Cons (e3Var 10) a3Nil)) (e3Var 10)))))
          (s3Ret (e3C (.bl false)))
          s3Nx)
        (s3Seq (s3If (b3Or (b3Not (b3T (e3Call (calmF f_is_rights) (a3Cons (e3Var 10) a3Nil)))) (b3Or (b3T (e3Op (oNeC tbl_1) (e3Call (calmF f_as_rights) (a3Cons (e3M1 oJoin (e3C (.str "")) (e3Meth "Rights" "listed" (calmF f_Rights_listed) (e3Var 11) a3Nil)) a3Nil)) (e3Var 11))) (b3T (e3Op oNe (e3Prop "Rights" (calmF f_Rights_digit) (e3CMeth "Rights" (calmF (starF 1 f_Rights_of)) (e3C (.fn "Rights")) (a3Cons (e3C (.str "wx")) (a3Cons (e3Var 10) a3Nil)))) (e3Op oOr (e3Var 8) (e3C (.int (3))))))))
          (s3Ret (e3C (.bl false)))
          s3Nx)
        (s3If (b3T (e3Op oNe (e3Prop "Rights" (calmF f_Rights_digit) (e3CMeth "Rights" (calmF (starF 1 f_Rights_of)) (e3C (.fn "Rights")) (a3Cons (e3C (.str "")) (a3Cons (e3Var 10) (a3Cons (e3C (.str "r")) (a3Cons (e3Var 11) (a3Cons (e3Make "Rights" (calmFi (dflFi [(.str "")] f_Rights_init)) a3Nil) (a3Cons (e3C (.str "x")) a3Nil)))))))) (e3Op oOr (e3Op oOr (e3Var 8) (e3Var 9)) (e3C (.int (5))))))
          (s3Ret (e3C (.bl false)))
          s3Nx)))))))))
def b_law : S3 := (s3Seq (s3For (a3Rng1 (a3Cons (e3CB oMax2 (a3Cons (e3C (.int (2))) (a3Cons (e3CB oMin2 (a3Cons (e3C (.int (8))) (a3Cons (e3CB oLen (a3Cons (e3Var 0) a3Nil)) a3Nil))) a3Nil))) a3Nil)) (g3Name 1)
        l_law_2)
      (s3Ret (e3C (.bl true))))
def f_law : F3 := runF 13 1 b_law
def topS (i : Nat) : Stmt := PySem.Challenge.pw_filerights_k09_rights_refused.main.body.getD i (.Pass ⟨0, 0, 0, 0⟩)
abbrev s_Rights_eq : Stmt := inClass (topS 11) 8
abbrev a_Rights_eq (K : PySem.W.Frag) : Addr := He.ma K (He.ga K "Rights") "__eq__"
abbrev N_Rights_eq : List Str := ["self", "other"]
theorem sc_Rights_eq : FnScope N_Rights_eq ["self", "other"] (defScope s_Rights_eq) := ⟨rfl, rfl, rfl, by decide +kernel, rfl, by decide +kernel, by decide +kernel⟩
abbrev D_Rights_eq (K : PySem.W.Frag) (fd : FuncData) : Prop := FunD K "__eq__" "Rights.__eq__" (defArgs s_Rights_eq) (defBody s_Rights_eq) (defScope s_Rights_eq) [] [] (a_Rights_eq K) fd
theorem bN_Rights_eq {K : PySem.W.Frag} {fd : FuncData} (F : D_Rights_eq K fd) : Binds K fd ["self", "other"] [] := F.bindsN fun _ _ _ _ _ _ us hl => match us, hl with | [_, _], _ => rfl
abbrev s_digit_of : Stmt := topS 10
abbrev a_digit_of (K : PySem.W.Frag) : Addr := He.ga K "digit_of"
abbrev N_digit_of : List Str := ["text", "found", "letter", "bit"]
theorem sc_digit_of : FnScope N_digit_of ["text"] (defScope s_digit_of) := ⟨rfl, rfl, rfl, by decide +kernel, rfl, by decide +kernel, by decide +kernel⟩
abbrev D_digit_of (K : PySem.W.Frag) (fd : FuncData) : Prop := FunD K "digit_of" "digit_of" (defArgs s_digit_of) (defBody s_digit_of) (defScope s_digit_of) [] [] (a_digit_of K) fd
theorem bN_digit_of {K : PySem.W.Frag} {fd : FuncData} (F : D_digit_of K fd) : Binds K fd ["text"] [] := F.bindsN fun _ _ _ _ _ _ us hl => match us, hl with | [_], _ => rfl
abbrev s_Rights_init : Stmt := inClass (topS 11) 0
abbrev a_Rights_init (K : PySem.W.Frag) : Addr := He.ma K (He.ga K "Rights") "__init__"
abbrev N_Rights_init : List Str := ["self", "letters", "digit"]
theorem sc_Rights_init : FnScope N_Rights_init ["self", "letters"] (defScope s_Rights_init) := ⟨rfl, rfl, rfl, by decide +kernel, rfl, by decide +kernel, by decide +kernel⟩
abbrev D_Rights_init (K : PySem.W.Frag) (fd : FuncData) : Prop := FunD K "__init__" "Rights.__init__" (defArgs s_Rights_init) (defBody s_Rights_init) (defScope s_Rights_init) [.str ""] [] (a_Rights_init K) fd
abbrev s_Rights_digit : Stmt := inClass (topS 11) 3
abbrev a_Rights_digit (K : PySem.W.Frag) : Addr := He5.wf K (He.ga K "Rights") "property" "digit"
abbrev N_Rights_digit : List Str := ["self"]
theorem sc_Rights_digit : FnScope N_Rights_digit ["self"] (defScope s_Rights_digit) := ⟨rfl, rfl, rfl, by decide +kernel, rfl, by decide +kernel, by decide +kernel⟩
abbrev D_Rights_digit (K : PySem.W.Frag) (fd : FuncData) : Prop := FunD K "digit" "Rights.digit" (defArgs s_Rights_digit) (defBody s_Rights_digit) (defScope s_Rights_digit) [] [] (a_Rights_digit K) fd
theorem bN_Rights_digit {K : PySem.W.Frag} {fd : FuncData} (F : D_Rights_digit K fd) : Binds K fd ["self"] [] := F.bindsN fun _ _ _ _ _ _ us hl => match us, hl with | [_], _ => rfl
abbrev s_Rights_from_digit : Stmt := inClass (topS 11) 1
abbrev a_Rights_from_digit (K : PySem.W.Frag) : Addr := He5.wf K (He.ga K "Rights") "classmethod" "from_digit"
abbrev N_Rights_from_digit : List Str := ["cls", "digit"]
theorem sc_Rights_from_digit : FnScope N_Rights_from_digit ["cls", "digit"] (defScope s_Rights_from_digit) := ⟨rfl, rfl, rfl, by decide +kernel, rfl, by decide +kernel, by decide +kernel⟩
abbrev D_Rights_from_digit (K : PySem.W.Frag) (fd : FuncData) : Prop := FunD K "from_digit" "Rights.from_digit" (defArgs s_Rights_from_digit) (defBody s_Rights_from_digit) (defScope s_Rights_from_digit) [] [] (a_Rights_from_digit K) fd
theorem bN_Rights_from_digit {K : PySem.W.Frag} {fd : FuncData} (F : D_Rights_from_digit K fd) : Binds K fd ["cls", "digit"] [] := F.bindsN fun _ _ _ _ _ _ us hl => match us, hl with | [_, _], _ => rfl
abbrev s_Rights_listed : Stmt := inClass (topS 11) 4
abbrev a_Rights_listed (K : PySem.W.Frag) : Addr := He.ma K (He.ga K "Rights") "listed"
abbrev N_Rights_listed : List Str := ["self"]
theorem sc_Rights_listed : FnScope N_Rights_listed ["self"] (defScope s_Rights_listed) := ⟨rfl, rfl, rfl, by decide +kernel, rfl, by decide +kernel, by decide +kernel⟩
abbrev D_Rights_listed (K : PySem.W.Frag) (fd : FuncData) : Prop := FunD K "listed" "Rights.listed" (defArgs s_Rights_listed) (defBody s_Rights_listed) (defScope s_Rights_listed) [] [] (a_Rights_listed K) fd
theorem bN_Rights_listed {K : PySem.W.Frag} {fd : FuncData} (F : D_Rights_listed K fd) : Binds K fd ["self"] [] := F.bindsN fun _ _ _ _ _ _ us hl => match us, hl with | [_], _ => rfl
abbrev s_Rights_of : Stmt := inClass (topS 11) 2
abbrev a_Rights_of (K : PySem.W.Frag) : Addr := He5.wf K (He.ga K "Rights") "classmethod" "of"
abbrev N_Rights_of : List Str := ["cls", "parts", "found", "part", "digit"]
theorem sc_Rights_of : FnScope N_Rights_of ["cls", "parts"] (defScope s_Rights_of) := ⟨rfl, rfl, rfl, by decide +kernel, rfl, by decide +kernel, by decide +kernel⟩
abbrev D_Rights_of (K : PySem.W.Frag) (fd : FuncData) : Prop := FunD K "of" "Rights.of" (defArgs s_Rights_of) (defBody s_Rights_of) (defScope s_Rights_of) [] [] (a_Rights_of K) fd
abbrev s_law_box : Stmt := topS 18
abbrev a_law_box (K : PySem.W.Frag) : Addr := He.ga K "_law_box"
abbrev N_law_box : List Str := ["_law_cell_here"]
theorem sc_law_box : FnScope N_law_box ["_law_cell_here"] (defScope s_law_box) := ⟨rfl, rfl, rfl, by decide +kernel, rfl, by decide +kernel, by decide +kernel⟩
abbrev D_law_box (K : PySem.W.Frag) (fd : FuncData) : Prop := FunD K "_law_box" "_law_box" (defArgs s_law_box) (defBody s_law_box) (defScope s_law_box) [] [] (a_law_box K) fd
theorem bN_law_box {K : PySem.W.Frag} {fd : FuncData} (F : D_law_box K fd) : Binds K fd ["_law_cell_here"] [] := F.bindsN fun _ _ _ _ _ _ us hl => match us, hl with | [_], _ => rfl
abbrev s_law_caught : Stmt := topS 23
abbrev a_law_caught (K : PySem.W.Frag) : Addr := He.ga K "_law_caught"
abbrev N_law_caught : List Str := ["_law_ask_here", "_law_found", "e"]
theorem sc_law_caught : FnScope N_law_caught ["_law_ask_here"] (defScope s_law_caught) := ⟨rfl, rfl, rfl, by decide +kernel, rfl, by decide +kernel, by decide +kernel⟩
abbrev D_law_caught (K : PySem.W.Frag) (fd : FuncData) : Prop := FunD K "_law_caught" "_law_caught" (defArgs s_law_caught) (defBody s_law_caught) (defScope s_law_caught) [] [] (a_law_caught K) fd
theorem bN_law_caught {K : PySem.W.Frag} {fd : FuncData} (F : D_law_caught K fd) : Binds K fd ["_law_ask_here"] [] := F.bindsN fun _ _ _ _ _ _ us hl => match us, hl with | [_], _ => rfl
abbrev s_law_cell : Stmt := topS 17
abbrev a_law_cell (K : PySem.W.Frag) : Addr := He.ga K "_law_cell"
abbrev N_law_cell : List Str := ["_law_script", "_law_k"]
theorem sc_law_cell : FnScope N_law_cell ["_law_script", "_law_k"] (defScope s_law_cell) := ⟨rfl, rfl, rfl, by decide +kernel, rfl, by decide +kernel, by decide +kernel⟩
abbrev D_law_cell (K : PySem.W.Frag) (fd : FuncData) : Prop := FunD K "_law_cell" "_law_cell" (defArgs s_law_cell) (defBody s_law_cell) (defScope s_law_cell) [] [] (a_law_cell K) fd
theorem bN_law_cell {K : PySem.W.Frag} {fd : FuncData} (F : D_law_cell K fd) : Binds K fd ["_law_script", "_law_k"] [] := F.bindsN fun _ _ _ _ _ _ us hl => match us, hl with | [_, _], _ => rfl
abbrev s_law_take : Stmt := topS 19
abbrev a_law_take (K : PySem.W.Frag) : Addr := He.ga K "_law_take"
abbrev N_law_take : List Str := ["_law_box_here", "_law_many", "_law_digit", "_law_mixed"]
theorem sc_law_take : FnScope N_law_take ["_law_box_here", "_law_many"] (defScope s_law_take) := ⟨rfl, rfl, rfl, by decide +kernel, rfl, by decide +kernel, by decide +kernel⟩
abbrev D_law_take (K : PySem.W.Frag) (fd : FuncData) : Prop := FunD K "_law_take" "_law_take" (defArgs s_law_take) (defBody s_law_take) (defScope s_law_take) [] [] (a_law_take K) fd
theorem bN_law_take {K : PySem.W.Frag} {fd : FuncData} (F : D_law_take K fd) : Binds K fd ["_law_box_here", "_law_many"] [] := F.bindsN fun _ _ _ _ _ _ us hl => match us, hl with | [_, _], _ => rfl
abbrev s_law_odd : Stmt := topS 20
abbrev a_law_odd (K : PySem.W.Frag) : Addr := He.ga K "_law_odd"
abbrev N_law_odd : List Str := ["_law_box_here", "_law_some"]
theorem sc_law_odd : FnScope N_law_odd ["_law_box_here"] (defScope s_law_odd) := ⟨rfl, rfl, rfl, by decide +kernel, rfl, by decide +kernel, by decide +kernel⟩
abbrev D_law_odd (K : PySem.W.Frag) (fd : FuncData) : Prop := FunD K "_law_odd" "_law_odd" (defArgs s_law_odd) (defBody s_law_odd) (defScope s_law_odd) [] [] (a_law_odd K) fd
theorem bN_law_odd {K : PySem.W.Frag} {fd : FuncData} (F : D_law_odd K fd) : Binds K fd ["_law_box_here"] [] := F.bindsN fun _ _ _ _ _ _ us hl => match us, hl with | [_], _ => rfl
abbrev s_Rights_contains : Stmt := inClass (topS 11) 7
abbrev a_Rights_contains (K : PySem.W.Frag) : Addr := He.ma K (He.ga K "Rights") "__contains__"
abbrev N_Rights_contains : List Str := ["self", "value"]
theorem sc_Rights_contains : FnScope N_Rights_contains ["self", "value"] (defScope s_Rights_contains) := ⟨rfl, rfl, rfl, by decide +kernel, rfl, by decide +kernel, by decide +kernel⟩
abbrev D_Rights_contains (K : PySem.W.Frag) (fd : FuncData) : Prop := FunD K "__contains__" "Rights.__contains__" (defArgs s_Rights_contains) (defBody s_Rights_contains) (defScope s_Rights_contains) [] [] (a_Rights_contains K) fd
theorem bN_Rights_contains {K : PySem.W.Frag} {fd : FuncData} (F : D_Rights_contains K fd) : Binds K fd ["self", "value"] [] := F.bindsN fun _ _ _ _ _ _ us hl => match us, hl with | [_, _], _ => rfl
abbrev s_Rights_and : Stmt := inClass (topS 11) 12
abbrev a_Rights_and (K : PySem.W.Frag) : Addr := He.ma K (He.ga K "Rights") "__and__"
abbrev N_Rights_and : List Str := ["self", "other"]
theorem sc_Rights_and : FnScope N_Rights_and ["self", "other"] (defScope s_Rights_and) := ⟨rfl, rfl, rfl, by decide +kernel, rfl, by decide +kernel, by decide +kernel⟩
abbrev D_Rights_and (K : PySem.W.Frag) (fd : FuncData) : Prop := FunD K "__and__" "Rights.__and__" (defArgs s_Rights_and) (defBody s_Rights_and) (defScope s_Rights_and) [] [] (a_Rights_and K) fd
theorem bN_Rights_and {K : PySem.W.Frag} {fd : FuncData} (F : D_Rights_and K fd) : Binds K fd ["self", "other"] [] := F.bindsN fun _ _ _ _ _ _ us hl => match us, hl with | [_, _], _ => rfl
abbrev s_Rights_or : Stmt := inClass (topS 11) 11
abbrev a_Rights_or (K : PySem.W.Frag) : Addr := He.ma K (He.ga K "Rights") "__or__"
abbrev N_Rights_or : List Str := ["self", "other"]
theorem sc_Rights_or : FnScope N_Rights_or ["self", "other"] (defScope s_Rights_or) := ⟨rfl, rfl, rfl, by decide +kernel, rfl, by decide +kernel, by decide +kernel⟩
abbrev D_Rights_or (K : PySem.W.Frag) (fd : FuncData) : Prop := FunD K "__or__" "Rights.__or__" (defArgs s_Rights_or) (defBody s_Rights_or) (defScope s_Rights_or) [] [] (a_Rights_or K) fd
theorem bN_Rights_or {K : PySem.W.Frag} {fd : FuncData} (F : D_Rights_or K fd) : Binds K fd ["self", "other"] [] := F.bindsN fun _ _ _ _ _ _ us hl => match us, hl with | [_, _], _ => rfl
abbrev s_Rights_sub : Stmt := inClass (topS 11) 13
abbrev a_Rights_sub (K : PySem.W.Frag) : Addr := He.ma K (He.ga K "Rights") "__sub__"
abbrev N_Rights_sub : List Str := ["self", "other"]
theorem sc_Rights_sub : FnScope N_Rights_sub ["self", "other"] (defScope s_Rights_sub) := ⟨rfl, rfl, rfl, by decide +kernel, rfl, by decide +kernel, by decide +kernel⟩
abbrev D_Rights_sub (K : PySem.W.Frag) (fd : FuncData) : Prop := FunD K "__sub__" "Rights.__sub__" (defArgs s_Rights_sub) (defBody s_Rights_sub) (defScope s_Rights_sub) [] [] (a_Rights_sub K) fd
theorem bN_Rights_sub {K : PySem.W.Frag} {fd : FuncData} (F : D_Rights_sub K fd) : Binds K fd ["self", "other"] [] := F.bindsN fun _ _ _ _ _ _ us hl => match us, hl with | [_, _], _ => rfl
abbrev s_Rights_xor : Stmt := inClass (topS 11) 14
abbrev a_Rights_xor (K : PySem.W.Frag) : Addr := He.ma K (He.ga K "Rights") "__xor__"
abbrev N_Rights_xor : List Str := ["self", "other"]
theorem sc_Rights_xor : FnScope N_Rights_xor ["self", "other"] (defScope s_Rights_xor) := ⟨rfl, rfl, rfl, by decide +kernel, rfl, by decide +kernel, by decide +kernel⟩
abbrev D_Rights_xor (K : PySem.W.Frag) (fd : FuncData) : Prop := FunD K "__xor__" "Rights.__xor__" (defArgs s_Rights_xor) (defBody s_Rights_xor) (defScope s_Rights_xor) [] [] (a_Rights_xor K) fd
theorem bN_Rights_xor {K : PySem.W.Frag} {fd : FuncData} (F : D_Rights_xor K fd) : Binds K fd ["self", "other"] [] := F.bindsN fun _ _ _ _ _ _ us hl => match us, hl with | [_, _], _ => rfl
abbrev s_bits_of : Stmt := topS 12
abbrev a_bits_of (K : PySem.W.Frag) : Addr := He.ga K "bits_of"
abbrev N_bits_of : List Str := ["value"]
theorem sc_bits_of : FnScope N_bits_of ["value"] (defScope s_bits_of) := ⟨rfl, rfl, rfl, by decide +kernel, rfl, by decide +kernel, by decide +kernel⟩
abbrev D_bits_of (K : PySem.W.Frag) (fd : FuncData) : Prop := FunD K "bits_of" "bits_of" (defArgs s_bits_of) (defBody s_bits_of) (defScope s_bits_of) [] [] (a_bits_of K) fd
theorem bN_bits_of {K : PySem.W.Frag} {fd : FuncData} (F : D_bits_of K fd) : Binds K fd ["value"] [] := F.bindsN fun _ _ _ _ _ _ us hl => match us, hl with | [_], _ => rfl
abbrev s_Rights_covers : Stmt := inClass (topS 11) 16
abbrev a_Rights_covers (K : PySem.W.Frag) : Addr := He.ma K (He.ga K "Rights") "covers"
abbrev N_Rights_covers : List Str := ["self", "other"]
theorem sc_Rights_covers : FnScope N_Rights_covers ["self", "other"] (defScope s_Rights_covers) := ⟨rfl, rfl, rfl, by decide +kernel, rfl, by decide +kernel, by decide +kernel⟩
abbrev D_Rights_covers (K : PySem.W.Frag) (fd : FuncData) : Prop := FunD K "covers" "Rights.covers" (defArgs s_Rights_covers) (defBody s_Rights_covers) (defScope s_Rights_covers) [] [] (a_Rights_covers K) fd
theorem bN_Rights_covers {K : PySem.W.Frag} {fd : FuncData} (F : D_Rights_covers K fd) : Binds K fd ["self", "other"] [] := F.bindsN fun _ _ _ _ _ _ us hl => match us, hl with | [_, _], _ => rfl
abbrev s_law_sign : Stmt := topS 21
abbrev a_law_sign (K : PySem.W.Frag) : Addr := He.ga K "_law_sign"
abbrev N_law_sign : List Str := ["_law_one", "_law_odd_here", "_law_way"]
theorem sc_law_sign : FnScope N_law_sign ["_law_one", "_law_odd_here", "_law_way"] (defScope s_law_sign) := ⟨rfl, rfl, rfl, by decide +kernel, rfl, by decide +kernel, by decide +kernel⟩
abbrev D_law_sign (K : PySem.W.Frag) (fd : FuncData) : Prop := FunD K "_law_sign" "_law_sign" (defArgs s_law_sign) (defBody s_law_sign) (defScope s_law_sign) [] [] (a_law_sign K) fd
theorem bN_law_sign {K : PySem.W.Frag} {fd : FuncData} (F : D_law_sign K fd) : Binds K fd ["_law_one", "_law_odd_here", "_law_way"] [] := F.bindsN fun _ _ _ _ _ _ us hl => match us, hl with | [_, _, _], _ => rfl
abbrev s_as_rights : Stmt := topS 15
abbrev a_as_rights (K : PySem.W.Frag) : Addr := He.ga K "as_rights"
abbrev N_as_rights : List Str := ["value"]
theorem sc_as_rights : FnScope N_as_rights ["value"] (defScope s_as_rights) := ⟨rfl, rfl, rfl, by decide +kernel, rfl, by decide +kernel, by decide +kernel⟩
abbrev D_as_rights (K : PySem.W.Frag) (fd : FuncData) : Prop := FunD K "as_rights" "as_rights" (defArgs s_as_rights) (defBody s_as_rights) (defScope s_as_rights) [] [] (a_as_rights K) fd
theorem bN_as_rights {K : PySem.W.Frag} {fd : FuncData} (F : D_as_rights K fd) : Binds K fd ["value"] [] := F.bindsN fun _ _ _ _ _ _ us hl => match us, hl with | [_], _ => rfl
abbrev s_law_ask : Stmt := topS 22
abbrev a_law_ask (K : PySem.W.Frag) : Addr := He.ga K "_law_ask"
abbrev N_law_ask : List Str := ["_law_way", "_law_odd_here"]
theorem sc_law_ask : FnScope N_law_ask ["_law_way", "_law_odd_here"] (defScope s_law_ask) := ⟨rfl, rfl, rfl, by decide +kernel, rfl, by decide +kernel, by decide +kernel⟩
abbrev D_law_ask (K : PySem.W.Frag) (fd : FuncData) : Prop := FunD K "_law_ask" "_law_ask" (defArgs s_law_ask) (defBody s_law_ask) (defScope s_law_ask) [] [] (a_law_ask K) fd
theorem bN_law_ask {K : PySem.W.Frag} {fd : FuncData} (F : D_law_ask K fd) : Binds K fd ["_law_way", "_law_odd_here"] [] := F.bindsN fun _ _ _ _ _ _ us hl => match us, hl with | [_, _], _ => rfl
abbrev s_law_is_letters : Stmt := topS 24
abbrev a_law_is_letters (K : PySem.W.Frag) : Addr := He.ga K "_law_is_letters"
abbrev N_law_is_letters : List Str := ["_law_thing", "_law_sign_here"]
theorem sc_law_is_letters : FnScope N_law_is_letters ["_law_thing"] (defScope s_law_is_letters) := ⟨rfl, rfl, rfl, by decide +kernel, rfl, by decide +kernel, by decide +kernel⟩
abbrev D_law_is_letters (K : PySem.W.Frag) (fd : FuncData) : Prop := FunD K "_law_is_letters" "_law_is_letters" (defArgs s_law_is_letters) (defBody s_law_is_letters) (defScope s_law_is_letters) [] [] (a_law_is_letters K) fd
theorem bN_law_is_letters {K : PySem.W.Frag} {fd : FuncData} (F : D_law_is_letters K fd) : Binds K fd ["_law_thing"] [] := F.bindsN fun _ _ _ _ _ _ us hl => match us, hl with | [_], _ => rfl
abbrev s_law_same : Stmt := topS 25
abbrev a_law_same (K : PySem.W.Frag) : Addr := He.ga K "_law_same"
abbrev N_law_same : List Str := ["_law_found", "_law_due"]
theorem sc_law_same : FnScope N_law_same ["_law_found", "_law_due"] (defScope s_law_same) := ⟨rfl, rfl, rfl, by decide +kernel, rfl, by decide +kernel, by decide +kernel⟩
abbrev D_law_same (K : PySem.W.Frag) (fd : FuncData) : Prop := FunD K "_law_same" "_law_same" (defArgs s_law_same) (defBody s_law_same) (defScope s_law_same) [] [] (a_law_same K) fd
theorem bN_law_same {K : PySem.W.Frag} {fd : FuncData} (F : D_law_same K fd) : Binds K fd ["_law_found", "_law_due"] [] := F.bindsN fun _ _ _ _ _ _ us hl => match us, hl with | [_, _], _ => rfl
abbrev s_digit_in : Stmt := topS 13
abbrev a_digit_in (K : PySem.W.Frag) : Addr := He.ga K "digit_in"
abbrev N_digit_in : List Str := ["value"]
theorem sc_digit_in : FnScope N_digit_in ["value"] (defScope s_digit_in) := ⟨rfl, rfl, rfl, by decide +kernel, rfl, by decide +kernel, by decide +kernel⟩
abbrev D_digit_in (K : PySem.W.Frag) (fd : FuncData) : Prop := FunD K "digit_in" "digit_in" (defArgs s_digit_in) (defBody s_digit_in) (defScope s_digit_in) [] [] (a_digit_in K) fd
theorem bN_digit_in {K : PySem.W.Frag} {fd : FuncData} (F : D_digit_in K fd) : Binds K fd ["value"] [] := F.bindsN fun _ _ _ _ _ _ us hl => match us, hl with | [_], _ => rfl
abbrev s_is_rights : Stmt := topS 14
abbrev a_is_rights (K : PySem.W.Frag) : Addr := He.ga K "is_rights"
abbrev N_is_rights : List Str := ["value"]
theorem sc_is_rights : FnScope N_is_rights ["value"] (defScope s_is_rights) := ⟨rfl, rfl, rfl, by decide +kernel, rfl, by decide +kernel, by decide +kernel⟩
abbrev D_is_rights (K : PySem.W.Frag) (fd : FuncData) : Prop := FunD K "is_rights" "is_rights" (defArgs s_is_rights) (defBody s_is_rights) (defScope s_is_rights) [] [] (a_is_rights K) fd
theorem bN_is_rights {K : PySem.W.Frag} {fd : FuncData} (F : D_is_rights K fd) : Binds K fd ["value"] [] := F.bindsN fun _ _ _ _ _ _ us hl => match us, hl with | [_], _ => rfl
abbrev s_law_right : Stmt := topS 26
abbrev a_law_right (K : PySem.W.Frag) : Addr := He.ga K "_law_right"
abbrev N_law_right : List Str := ["_law_odd_here", "_law_strange", "_law_good", "_law_way", "_law_found", "_law_first", "_law_one", "_law_whole"]
theorem sc_law_right : FnScope N_law_right ["_law_odd_here", "_law_strange"] (defScope s_law_right) := ⟨rfl, rfl, rfl, by decide +kernel, rfl, by decide +kernel, by decide +kernel⟩
abbrev D_law_right (K : PySem.W.Frag) (fd : FuncData) : Prop := FunD K "_law_right" "_law_right" (defArgs s_law_right) (defBody s_law_right) (defScope s_law_right) [] [] (a_law_right K) fd
theorem bN_law_right {K : PySem.W.Frag} {fd : FuncData} (F : D_law_right K fd) : Binds K fd ["_law_odd_here", "_law_strange"] [] := F.bindsN fun _ _ _ _ _ _ us hl => match us, hl with | [_, _], _ => rfl
abbrev s_law : Stmt := topS 27
abbrev a_law (K : PySem.W.Frag) : Addr := He.ga K "law"
abbrev N_law : List Str := ["_law_script", "_law_k", "_law_box_here", "_law_turn", "_law_text", "_law_at", "_law_odd_here", "_law_strange", "_law_a", "_law_b", "_law_one", "_law_other", "_law_found"]
theorem sc_law : FnScope N_law ["_law_script"] (defScope s_law) := ⟨rfl, rfl, rfl, by decide +kernel, rfl, by decide +kernel, by decide +kernel⟩
abbrev D_law (K : PySem.W.Frag) (fd : FuncData) : Prop := FunD K "law" "law" (defArgs s_law) (defBody s_law) (defScope s_law) [] [] (a_law K) fd
theorem bD1_Rights_init {K : PySem.W.Frag} {fd : FuncData} (F : D_Rights_init K fd) : ∃ ds, Vals [.str ""] ds ∧ Binds K fd ["self", "letters"] ds := F.binds1 1 0 (by simp) rfl fun _ _ _ _ _ _ _ us its h1 h2 => match us, its, h1, h2 with | [_], [_], _, _ => ⟨_, rfl, rfl⟩
theorem bD2_Rights_init {K : PySem.W.Frag} {fd : FuncData} (F : D_Rights_init K fd) : ∃ ds, Vals [] ds ∧ Binds K fd ["self", "letters"] ds := F.binds1 2 1 (by simp) rfl fun _ _ _ _ _ _ _ us its h1 h2 => match us, its, h1, h2 with | [_, _], [_], _, _ => ⟨_, rfl, rfl⟩
abbrev P : Program := PySem.Challenge.pw_filerights_k09_rights_refused
def xd_InvalidRights : XDef := ⟨fun K => He.ma K (He.ga K "InvalidRights") "__init__", "__init__", "InvalidRights.__init__", defArgs (inClass (topS 5) 0), defBody (inClass (topS 5) 0), defScope (inClass (topS 5) 0)⟩
def xd_InvalidInteger : XDef := ⟨fun K => He.ma K (He.ga K "InvalidInteger") "__init__", "__init__", "InvalidInteger.__init__", defArgs (inClass (topS 4) 0), defBody (inClass (topS 4) 0), defScope (inClass (topS 4) 0)⟩
structure Txt (w : World) (K : PySem.W.Frag) (mg : Str → Option Value) : Prop where
  m_bool : mg "bool" = none
  m_int : mg "int" = none
  m_isinstance : mg "isinstance" = none
  m_len : mg "len" = none
  m_list : mg "list" = none
  m_max : mg "max" = none
  m_min : mg "min" = none
  m_range : mg "range" = none
  m_repr : mg "repr" = none
  m_set : mg "set" = none
  m_str : mg "str" = none
  sys : SysK K
  m_super : mg "super" = none
  m_digit_of : mg "digit_of" = some (.ref (He.ga K "digit_of"))
  m_bits_of : mg "bits_of" = some (.ref (He.ga K "bits_of"))
  m_digit_in : mg "digit_in" = some (.ref (He.ga K "digit_in"))
  m_is_rights : mg "is_rights" = some (.ref (He.ga K "is_rights"))
  m_as_rights : mg "as_rights" = some (.ref (He.ga K "as_rights"))
  m_law_cell : mg "_law_cell" = some (.ref (He.ga K "_law_cell"))
  m_law_box : mg "_law_box" = some (.ref (He.ga K "_law_box"))
  m_law_take : mg "_law_take" = some (.ref (He.ga K "_law_take"))
  m_law_odd : mg "_law_odd" = some (.ref (He.ga K "_law_odd"))
  m_law_sign : mg "_law_sign" = some (.ref (He.ga K "_law_sign"))
  m_law_ask : mg "_law_ask" = some (.ref (He.ga K "_law_ask"))
  m_law_caught : mg "_law_caught" = some (.ref (He.ga K "_law_caught"))
  m_law_is_letters : mg "_law_is_letters" = some (.ref (He.ga K "_law_is_letters"))
  m_law_same : mg "_law_same" = some (.ref (He.ga K "_law_same"))
  m_law_right : mg "_law_right" = some (.ref (He.ga K "_law_right"))
  m_law : mg "law" = some (.ref (He.ga K "law"))
  m_RightsError : mg "RightsError" = some (.ref (He.ga K "RightsError"))
  m_MissingError : mg "MissingError" = some (.ref (He.ga K "MissingError"))
  m_RefusedError : mg "RefusedError" = some (.ref (He.ga K "RefusedError"))
  m_InvalidInteger : mg "InvalidInteger" = some (.ref (He.ga K "InvalidInteger"))
  m_InvalidRights : mg "InvalidRights" = some (.ref (He.ga K "InvalidRights"))
  m_Rights : mg "Rights" = some (.ref (He.ga K "Rights"))
  m_BITS : mg "BITS" = some (.ref (He.ga K "BITS"))
  m_WORDS : mg "WORDS" = some (.ref (He.ga K "WORDS"))
  c_LETTERS : ∃ t, mg "LETTERS" = some (.str "rwx" t)
  q_WORDS : ∀ H, SqT K H (He.ga K "WORDS") [.str "", .str "x", .str "w", .str "wx", .str "r", .str "rx", .str "rw", .str "rwx"]
  s_InvalidRights : SupC veB P K (He.ga K "InvalidRights") "value"
  x_InvalidRights : XfC K (He.ga K "InvalidRights")
  e_InvalidRights : ExcC K (He.ga K "InvalidRights")
  s_InvalidInteger : SupC veB P K (He.ga K "InvalidInteger") "value"
  x_InvalidInteger : XfC K (He.ga K "InvalidInteger")
  e_InvalidInteger : ExcC K (He.ga K "InvalidInteger")
  k_Rights : ClsF K (He.ga K "Rights")
  mk_Rights : Mk K (He.ga K "Rights") (He.ma K (He.ga K "Rights") "__init__")
  off_Rights : ∀ t ∈ offTys, PySem.W.kitOne K (.type t) (.ref (He.ga K "Rights")) = some false ∧ PySem.W.notFirst K (He.ga K "Rights") (.type t) = true
  n_Rights_own_letters : NoAttr K (He.ga K "Rights") "own_letters"
  n_Rights_own_digit : NoAttr K (He.ga K "Rights") "own_digit"
  cm_Rights_from_digit : ClX.CMet K (He.ga K "Rights") (.type "type") "from_digit" (He.ma K (He.ga K "Rights") "from_digit") (He5.wf K (He.ga K "Rights") "classmethod" "from_digit")
  cm_Rights_of : ClX.CMet K (He.ga K "Rights") (.type "type") "of" (He.ma K (He.ga K "Rights") "of") (He5.wf K (He.ga K "Rights") "classmethod" "of")
  pr_Rights_digit : PropOf K (He.ga K "Rights") "digit" (He.ma K (He.ga K "Rights") "digit") (He5.wf K (He.ga K "Rights") "property" "digit")
  me_Rights_listed : Meth K (He.ga K "Rights") "listed" (He.ma K (He.ga K "Rights") "listed")
  du_Rights_contains : Dun K (He.ga K "Rights") "__contains__" (He.ma K (He.ga K "Rights") "__contains__")
  du_Rights_eq : Dun K (He.ga K "Rights") "__eq__" (He.ma K (He.ga K "Rights") "__eq__")
  ne_Rights : PySem.W.findIn K (.ref (He.ga K "Rights")) "__ne__" = some (some (.builtin "object.__ne__"))
  du_Rights_or : Dun K (He.ga K "Rights") (PySem.dunder Operator.BitOr.info.2) (He.ma K (He.ga K "Rights") "__or__")
  bt_Rights_or : BinT K (He.ga K "Rights") Operator.BitOr.info.2
  in_Rights_or : PySem.W.findIn K (.ref (He.ga K "Rights")) (dunderI Operator.BitOr.info.2) = some none
  io_or : PySem.W.findIn K (.type "object") (dunderI Operator.BitOr.info.2) = some none
  du_Rights_and : Dun K (He.ga K "Rights") (PySem.dunder Operator.BitAnd.info.2) (He.ma K (He.ga K "Rights") "__and__")
  bt_Rights_and : BinT K (He.ga K "Rights") Operator.BitAnd.info.2
  in_Rights_and : PySem.W.findIn K (.ref (He.ga K "Rights")) (dunderI Operator.BitAnd.info.2) = some none
  io_and : PySem.W.findIn K (.type "object") (dunderI Operator.BitAnd.info.2) = some none
  du_Rights_sub : Dun K (He.ga K "Rights") (PySem.dunder Operator.Sub.info.2) (He.ma K (He.ga K "Rights") "__sub__")
  bt_Rights_sub : BinT K (He.ga K "Rights") Operator.Sub.info.2
  in_Rights_sub : PySem.W.findIn K (.ref (He.ga K "Rights")) (dunderI Operator.Sub.info.2) = some none
  io_sub : PySem.W.findIn K (.type "object") (dunderI Operator.Sub.info.2) = some none
  du_Rights_xor : Dun K (He.ga K "Rights") (PySem.dunder Operator.BitXor.info.2) (He.ma K (He.ga K "Rights") "__xor__")
  bt_Rights_xor : BinT K (He.ga K "Rights") Operator.BitXor.info.2
  in_Rights_xor : PySem.W.findIn K (.ref (He.ga K "Rights")) (dunderI Operator.BitXor.info.2) = some none
  io_xor : PySem.W.findIn K (.type "object") (dunderI Operator.BitXor.info.2) = some none
  me_Rights_covers : Meth K (He.ga K "Rights") "covers" (He.ma K (He.ga K "Rights") "covers")
  sbx : SubX K subX
  sbt : SubK K subX
  bm : BmOk K mg
  lam_law_right : LamF K "_law_right"
  lam_law : LamF K "law"
  mn_Rights : PySem.W.mroIn K (He.ga K "Rights") (.type "NoneType") = some false
  nr_Rights_Rights : PySem.W.notFirst K (He.ga K "Rights") (.ref (He.ga K "Rights")) = true
  on_Rights : ∀ t ∈ offTys, PySem.W.kitOne K (.ref (He.ga K "Rights")) (.type t) = some false
  F_Rights_eq : D_Rights_eq K (fdOf K (a_Rights_eq K))
  F_digit_of : D_digit_of K (fdOf K (a_digit_of K))
  F_Rights_init : D_Rights_init K (fdOf K (a_Rights_init K))
  F_Rights_digit : D_Rights_digit K (fdOf K (a_Rights_digit K))
  F_Rights_from_digit : D_Rights_from_digit K (fdOf K (a_Rights_from_digit K))
  F_Rights_listed : D_Rights_listed K (fdOf K (a_Rights_listed K))
  F_Rights_of : D_Rights_of K (fdOf K (a_Rights_of K))
  F_law_box : D_law_box K (fdOf K (a_law_box K))
  F_law_caught : D_law_caught K (fdOf K (a_law_caught K))
  F_law_cell : D_law_cell K (fdOf K (a_law_cell K))
  F_law_take : D_law_take K (fdOf K (a_law_take K))
  F_law_odd : D_law_odd K (fdOf K (a_law_odd K))
  F_Rights_contains : D_Rights_contains K (fdOf K (a_Rights_contains K))
  F_Rights_and : D_Rights_and K (fdOf K (a_Rights_and K))
  F_Rights_or : D_Rights_or K (fdOf K (a_Rights_or K))
  F_Rights_sub : D_Rights_sub K (fdOf K (a_Rights_sub K))
  F_Rights_xor : D_Rights_xor K (fdOf K (a_Rights_xor K))
  F_bits_of : D_bits_of K (fdOf K (a_bits_of K))
  F_Rights_covers : D_Rights_covers K (fdOf K (a_Rights_covers K))
  F_law_sign : D_law_sign K (fdOf K (a_law_sign K))
  F_as_rights : D_as_rights K (fdOf K (a_as_rights K))
  F_law_ask : D_law_ask K (fdOf K (a_law_ask K))
  F_law_is_letters : D_law_is_letters K (fdOf K (a_law_is_letters K))
  F_law_same : D_law_same K (fdOf K (a_law_same K))
  F_digit_in : D_digit_in K (fdOf K (a_digit_in K))
  F_is_rights : D_is_rights K (fdOf K (a_is_rights K))
  F_law_right : D_law_right K (fdOf K (a_law_right K))
  F_law : D_law K (fdOf K (a_law K))
  i_InvalidRights : SupI P K (He.ga K "InvalidRights") (He.ma K (He.ga K "InvalidRights") "__init__") "value"
  i_InvalidInteger : SupI P K (He.ga K "InvalidInteger") (He.ma K (He.ga K "InvalidInteger") "__init__") "value"
  t_BITS : KTab K w (He.ga K "BITS") [("r", .int (4)), ("w", .int (2)), ("x", .int (1))]
def d_Rights_eq : He5.DefA := ⟨fun K => a_Rights_eq K, "__eq__", "Rights.__eq__", defArgs s_Rights_eq, defBody s_Rights_eq, defScope s_Rights_eq, [], []⟩
def d_digit_of : He5.DefA := ⟨fun K => a_digit_of K, "digit_of", "digit_of", defArgs s_digit_of, defBody s_digit_of, defScope s_digit_of, [], []⟩
def d_Rights_init : He5.DefA := ⟨fun K => a_Rights_init K, "__init__", "Rights.__init__", defArgs s_Rights_init, defBody s_Rights_init, defScope s_Rights_init, [.str ""], []⟩
def d_Rights_digit : He5.DefA := ⟨fun K => a_Rights_digit K, "digit", "Rights.digit", defArgs s_Rights_digit, defBody s_Rights_digit, defScope s_Rights_digit, [], []⟩
def d_Rights_from_digit : He5.DefA := ⟨fun K => a_Rights_from_digit K, "from_digit", "Rights.from_digit", defArgs s_Rights_from_digit, defBody s_Rights_from_digit, defScope s_Rights_from_digit, [], []⟩
def d_Rights_listed : He5.DefA := ⟨fun K => a_Rights_listed K, "listed", "Rights.listed", defArgs s_Rights_listed, defBody s_Rights_listed, defScope s_Rights_listed, [], []⟩
def d_Rights_of : He5.DefA := ⟨fun K => a_Rights_of K, "of", "Rights.of", defArgs s_Rights_of, defBody s_Rights_of, defScope s_Rights_of, [], []⟩
def d_law_box : He5.DefA := ⟨fun K => a_law_box K, "_law_box", "_law_box", defArgs s_law_box, defBody s_law_box, defScope s_law_box, [], []⟩
def d_law_caught : He5.DefA := ⟨fun K => a_law_caught K, "_law_caught", "_law_caught", defArgs s_law_caught, defBody s_law_caught, defScope s_law_caught, [], []⟩
def d_law_cell : He5.DefA := ⟨fun K => a_law_cell K, "_law_cell", "_law_cell", defArgs s_law_cell, defBody s_law_cell, defScope s_law_cell, [], []⟩
def d_law_take : He5.DefA := ⟨fun K => a_law_take K, "_law_take", "_law_take", defArgs s_law_take, defBody s_law_take, defScope s_law_take, [], []⟩
def d_law_odd : He5.DefA := ⟨fun K => a_law_odd K, "_law_odd", "_law_odd", defArgs s_law_odd, defBody s_law_odd, defScope s_law_odd, [], []⟩
def d_Rights_contains : He5.DefA := ⟨fun K => a_Rights_contains K, "__contains__", "Rights.__contains__", defArgs s_Rights_contains, defBody s_Rights_contains, defScope s_Rights_contains, [], []⟩
def d_Rights_and : He5.DefA := ⟨fun K => a_Rights_and K, "__and__", "Rights.__and__", defArgs s_Rights_and, defBody s_Rights_and, defScope s_Rights_and, [], []⟩
def d_Rights_or : He5.DefA := ⟨fun K => a_Rights_or K, "__or__", "Rights.__or__", defArgs s_Rights_or, defBody s_Rights_or, defScope s_Rights_or, [], []⟩
def d_Rights_sub : He5.DefA := ⟨fun K => a_Rights_sub K, "__sub__", "Rights.__sub__", defArgs s_Rights_sub, defBody s_Rights_sub, defScope s_Rights_sub, [], []⟩
def d_Rights_xor : He5.DefA := ⟨fun K => a_Rights_xor K, "__xor__", "Rights.__xor__", defArgs s_Rights_xor, defBody s_Rights_xor, defScope s_Rights_xor, [], []⟩
def d_bits_of : He5.DefA := ⟨fun K => a_bits_of K, "bits_of", "bits_of", defArgs s_bits_of, defBody s_bits_of, defScope s_bits_of, [], []⟩
def d_Rights_covers : He5.DefA := ⟨fun K => a_Rights_covers K, "covers", "Rights.covers", defArgs s_Rights_covers, defBody s_Rights_covers, defScope s_Rights_covers, [], []⟩
def d_law_sign : He5.DefA := ⟨fun K => a_law_sign K, "_law_sign", "_law_sign", defArgs s_law_sign, defBody s_law_sign, defScope s_law_sign, [], []⟩
def d_as_rights : He5.DefA := ⟨fun K => a_as_rights K, "as_rights", "as_rights", defArgs s_as_rights, defBody s_as_rights, defScope s_as_rights, [], []⟩
def d_law_ask : He5.DefA := ⟨fun K => a_law_ask K, "_law_ask", "_law_ask", defArgs s_law_ask, defBody s_law_ask, defScope s_law_ask, [], []⟩
def d_law_is_letters : He5.DefA := ⟨fun K => a_law_is_letters K, "_law_is_letters", "_law_is_letters", defArgs s_law_is_letters, defBody s_law_is_letters, defScope s_law_is_letters, [], []⟩
def d_law_same : He5.DefA := ⟨fun K => a_law_same K, "_law_same", "_law_same", defArgs s_law_same, defBody s_law_same, defScope s_law_same, [], []⟩
def d_digit_in : He5.DefA := ⟨fun K => a_digit_in K, "digit_in", "digit_in", defArgs s_digit_in, defBody s_digit_in, defScope s_digit_in, [], []⟩
def d_is_rights : He5.DefA := ⟨fun K => a_is_rights K, "is_rights", "is_rights", defArgs s_is_rights, defBody s_is_rights, defScope s_is_rights, [], []⟩
def d_law_right : He5.DefA := ⟨fun K => a_law_right K, "_law_right", "_law_right", defArgs s_law_right, defBody s_law_right, defScope s_law_right, [], []⟩
def d_law : He5.DefA := ⟨fun K => a_law K, "law", "law", defArgs s_law, defBody s_law, defScope s_law, [], []⟩
def fn : List He5.DefA := [d_Rights_eq, d_digit_of, d_Rights_init, d_Rights_digit, d_Rights_from_digit, d_Rights_listed, d_Rights_of, d_law_box, d_law_caught, d_law_cell, d_law_take, d_law_odd, d_Rights_contains, d_Rights_and, d_Rights_or, d_Rights_sub, d_Rights_xor, d_bits_of, d_Rights_covers, d_law_sign, d_as_rights, d_law_ask, d_law_is_letters, d_law_same, d_digit_in, d_is_rights, d_law_right, d_law]
def c0 (K : PySem.W.Frag) : Bool := (He.Fa.free "bool").ok K
def c1 (K : PySem.W.Frag) : Bool := (He.Fa.free "int").ok K
def c2 (K : PySem.W.Frag) : Bool := (He.Fa.free "isinstance").ok K
def c3 (K : PySem.W.Frag) : Bool := (He.Fa.free "len").ok K
def c4 (K : PySem.W.Frag) : Bool := (He.Fa.free "list").ok K
def c5 (K : PySem.W.Frag) : Bool := (He.Fa.free "max").ok K
def c6 (K : PySem.W.Frag) : Bool := (He.Fa.free "min").ok K
def c7 (K : PySem.W.Frag) : Bool := (He.Fa.free "range").ok K
def c8 (K : PySem.W.Frag) : Bool := (He.Fa.free "repr").ok K
def c9 (K : PySem.W.Frag) : Bool := (He.Fa.free "set").ok K
def c10 (K : PySem.W.Frag) : Bool := (He.Fa.free "str").ok K
def c11 (K : PySem.W.Frag) : Bool := sysB K
def c12 (K : PySem.W.Frag) : Bool := (He.Fa.free "super").ok K
def c13 (K : PySem.W.Frag) : Bool := (He.Fa.glo "digit_of").ok K
def c14 (K : PySem.W.Frag) : Bool := (He.Fa.glo "bits_of").ok K
def c15 (K : PySem.W.Frag) : Bool := (He.Fa.glo "digit_in").ok K
def c16 (K : PySem.W.Frag) : Bool := (He.Fa.glo "is_rights").ok K
def c17 (K : PySem.W.Frag) : Bool := (He.Fa.glo "as_rights").ok K
def c18 (K : PySem.W.Frag) : Bool := (He.Fa.glo "_law_cell").ok K
def c19 (K : PySem.W.Frag) : Bool := (He.Fa.glo "_law_box").ok K
def c20 (K : PySem.W.Frag) : Bool := (He.Fa.glo "_law_take").ok K
def c21 (K : PySem.W.Frag) : Bool := (He.Fa.glo "_law_odd").ok K
def c22 (K : PySem.W.Frag) : Bool := (He.Fa.glo "_law_sign").ok K
def c23 (K : PySem.W.Frag) : Bool := (He.Fa.glo "_law_ask").ok K
def c24 (K : PySem.W.Frag) : Bool := (He.Fa.glo "_law_caught").ok K
def c25 (K : PySem.W.Frag) : Bool := (He.Fa.glo "_law_is_letters").ok K
def c26 (K : PySem.W.Frag) : Bool := (He.Fa.glo "_law_same").ok K
def c27 (K : PySem.W.Frag) : Bool := (He.Fa.glo "_law_right").ok K
def c28 (K : PySem.W.Frag) : Bool := (He.Fa.glo "law").ok K
def c29 (K : PySem.W.Frag) : Bool := (He.Fa.glo "RightsError").ok K
def c30 (K : PySem.W.Frag) : Bool := (He.Fa.glo "MissingError").ok K
def c31 (K : PySem.W.Frag) : Bool := (He.Fa.glo "RefusedError").ok K
def c32 (K : PySem.W.Frag) : Bool := (He.Fa.glo "InvalidInteger").ok K
def c33 (K : PySem.W.Frag) : Bool := (He.Fa.glo "InvalidRights").ok K
def c34 (K : PySem.W.Frag) : Bool := (He.Fa.glo "Rights").ok K
def c35 (K : PySem.W.Frag) : Bool := (He.Fa.glo "BITS").ok K
def c36 (K : PySem.W.Frag) : Bool := (He.Fa.glo "WORDS").ok K
def c37 (K : PySem.W.Frag) : Bool := (He.Fa.str "LETTERS" "rwx").ok K
def c38 (K : PySem.W.Frag) : Bool := He.tupB K "WORDS" [.str "", .str "x", .str "w", .str "wx", .str "r", .str "rx", .str "rw", .str "rwx"]
def c39 (K : PySem.W.Frag) : Bool := supB veB P K (He.ga K "InvalidRights") "value"
def c40 (K : PySem.W.Frag) : Bool := excB K (He.ga K "InvalidRights")
def c41 (K : PySem.W.Frag) : Bool := excB K (He.ga K "InvalidRights")
def c42 (K : PySem.W.Frag) : Bool := supB veB P K (He.ga K "InvalidInteger") "value"
def c43 (K : PySem.W.Frag) : Bool := excB K (He.ga K "InvalidInteger")
def c44 (K : PySem.W.Frag) : Bool := excB K (He.ga K "InvalidInteger")
def c45 (K : PySem.W.Frag) : Bool := clsB K (He.ga K "Rights")
def c46 (K : PySem.W.Frag) : Bool := mkB K (He.ga K "Rights")
def c47 (K : PySem.W.Frag) : Bool := offB K (He.ga K "Rights")
def c48 (K : PySem.W.Frag) : Bool := noB K (He.ga K "Rights") "own_letters"
def c49 (K : PySem.W.Frag) : Bool := noB K (He.ga K "Rights") "own_digit"
def c50 (K : PySem.W.Frag) : Bool := cmB K (He.ga K "Rights") "from_digit"
def c51 (K : PySem.W.Frag) : Bool := cmB K (He.ga K "Rights") "of"
def c52 (K : PySem.W.Frag) : Bool := propB K (He.ga K "Rights") "digit"
def c53 (K : PySem.W.Frag) : Bool := methB K (He.ga K "Rights") "listed"
def c54 (K : PySem.W.Frag) : Bool := dunB K (He.ga K "Rights") "__contains__" (He.ma K (He.ga K "Rights") "__contains__")
def c55 (K : PySem.W.Frag) : Bool := dunB K (He.ga K "Rights") "__eq__" (He.ma K (He.ga K "Rights") "__eq__")
def c56 (K : PySem.W.Frag) : Bool := He.eqO (PySem.W.findIn K (.ref (He.ga K "Rights")) "__ne__") (some (some (.builtin "object.__ne__")))
def c57 (K : PySem.W.Frag) : Bool := dunB K (He.ga K "Rights") (PySem.dunder Operator.BitOr.info.2) (He.ma K (He.ga K "Rights") "__or__")
def c58 (K : PySem.W.Frag) : Bool := binTB K (He.ga K "Rights") Operator.BitOr.info.2
def c59 (K : PySem.W.Frag) : Bool := He.eqO (PySem.W.findIn K (.ref (He.ga K "Rights")) (dunderI Operator.BitOr.info.2)) (some none)
def c60 (K : PySem.W.Frag) : Bool := He.eqO (PySem.W.findIn K (.type "object") (dunderI Operator.BitOr.info.2)) (some none)
def c61 (K : PySem.W.Frag) : Bool := dunB K (He.ga K "Rights") (PySem.dunder Operator.BitAnd.info.2) (He.ma K (He.ga K "Rights") "__and__")
def c62 (K : PySem.W.Frag) : Bool := binTB K (He.ga K "Rights") Operator.BitAnd.info.2
def c63 (K : PySem.W.Frag) : Bool := He.eqO (PySem.W.findIn K (.ref (He.ga K "Rights")) (dunderI Operator.BitAnd.info.2)) (some none)
def c64 (K : PySem.W.Frag) : Bool := He.eqO (PySem.W.findIn K (.type "object") (dunderI Operator.BitAnd.info.2)) (some none)
def c65 (K : PySem.W.Frag) : Bool := dunB K (He.ga K "Rights") (PySem.dunder Operator.Sub.info.2) (He.ma K (He.ga K "Rights") "__sub__")
def c66 (K : PySem.W.Frag) : Bool := binTB K (He.ga K "Rights") Operator.Sub.info.2
def c67 (K : PySem.W.Frag) : Bool := He.eqO (PySem.W.findIn K (.ref (He.ga K "Rights")) (dunderI Operator.Sub.info.2)) (some none)
def c68 (K : PySem.W.Frag) : Bool := He.eqO (PySem.W.findIn K (.type "object") (dunderI Operator.Sub.info.2)) (some none)
def c69 (K : PySem.W.Frag) : Bool := dunB K (He.ga K "Rights") (PySem.dunder Operator.BitXor.info.2) (He.ma K (He.ga K "Rights") "__xor__")
def c70 (K : PySem.W.Frag) : Bool := binTB K (He.ga K "Rights") Operator.BitXor.info.2
def c71 (K : PySem.W.Frag) : Bool := He.eqO (PySem.W.findIn K (.ref (He.ga K "Rights")) (dunderI Operator.BitXor.info.2)) (some none)
def c72 (K : PySem.W.Frag) : Bool := He.eqO (PySem.W.findIn K (.type "object") (dunderI Operator.BitXor.info.2)) (some none)
def c73 (K : PySem.W.Frag) : Bool := methB K (He.ga K "Rights") "covers"
def c74 (K : PySem.W.Frag) : Bool := subXB K subL
def c75 (K : PySem.W.Frag) : Bool := subKB K subL
def c76 (K : PySem.W.Frag) : Bool := bmBB K
def c77 (K : PySem.W.Frag) : Bool := lamFB K "_law_right"
def c78 (K : PySem.W.Frag) : Bool := lamFB K "law"
def c79 (K : PySem.W.Frag) : Bool := decide (PySem.W.mroIn K (He.ga K "Rights") (.type "NoneType") = some false)
def c80 (K : PySem.W.Frag) : Bool := PySem.W.notFirst K (He.ga K "Rights") (.ref (He.ga K "Rights"))
def c81 (K : PySem.W.Frag) : Bool := (offTys.all fun t => decide (PySem.W.kitOne K (.ref (He.ga K "Rights")) (.type t) = some false))
def c82 (K : PySem.W.Frag) : Bool := tabB K (He.ga K "BITS") [("r", .int (4)), ("w", .int (2)), ("x", .int (1))]
def c83 (K : PySem.W.Frag) : Bool := XDef.ok P K (He.ga K "InvalidRights") xd_InvalidRights
def c84 (K : PySem.W.Frag) : Bool := He.eqO (PySem.W.findIn K (.ref (He.ga K "InvalidRights")) "__init__") (some (some (.ref (He.ma K (He.ga K "InvalidRights") "__init__"))))
def c85 (K : PySem.W.Frag) : Bool := decide (PySem.W.typeIn K (.ref (He.ma K (He.ga K "InvalidRights") "__init__")) = some (.type "function"))
def c86 (K : PySem.W.Frag) : Bool := XDef.ok P K (He.ga K "InvalidInteger") xd_InvalidInteger
def c87 (K : PySem.W.Frag) : Bool := He.eqO (PySem.W.findIn K (.ref (He.ga K "InvalidInteger")) "__init__") (some (some (.ref (He.ma K (He.ga K "InvalidInteger") "__init__"))))
def c88 (K : PySem.W.Frag) : Bool := decide (PySem.W.typeIn K (.ref (He.ma K (He.ga K "InvalidInteger") "__init__")) = some (.type "function"))
def cs : List (PySem.W.Frag → Bool) := [c0, c1, c2, c3, c4, c5, c6, c7, c8, c9, c10, c11, c12, c13, c14, c15, c16, c17, c18, c19, c20, c21, c22, c23, c24, c25, c26, c27, c28, c29, c30, c31, c32, c33, c34, c35, c36, c37, c38, c39, c40, c41, c42, c43, c44, c45, c46, c47, c48, c49, c50, c51, c52, c53, c54, c55, c56, c57, c58, c59, c60, c61, c62, c63, c64, c65, c66, c67, c68, c69, c70, c71, c72, c73, c74, c75, c76, c77, c78, c79, c80, c81, c82, c83, c84, c85, c86, c87, c88]
def ts : List He.Tab := [(fun K => He.ga K "BITS", ["r", "w", "x"])]
abbrev R : PySem.W.OpenRow := PySem.W.OpenLaw.row PySem.Challenge.rw_filerights_k09_rights_refused
def xs : List XDef := [xd_InvalidRights, xd_InvalidInteger]
abbrev hk : PySem.W.Hook := hookX 6 cs fn ts xs
def ob (s : PySem.W.SharedT) : AlXT := obsXG 6 cs fn ts xs (HandSHeadRun.getT s)
theorem ob_eq (s : PySem.W.SharedT) : ob s = hk.obs s.abs := obsXG_eq (HandSHeadRun.getT_eq s)
abbrev loose : List Str := (["RightsError", "MissingError", "RefusedError", "InvalidInteger", "InvalidRights", "LETTERS", "BITS", "WORDS", "digit_of", "Rights", "bits_of", "digit_in", "is_rights", "as_rights", "_law_cell", "_law_box", "_law_take", "_law_odd", "_law_sign", "_law_ask", "_law_caught", "_law_is_letters", "_law_same", "_law_right"] : List Str)
theorem run_false (w : World) : HandSHeadRun.RunEq R (PySem.W.view R.prog [27]) hk ob 16000 loose (w.withFollow "special-get-raises" false) := by
  intro os
  kernel_rfl
theorem run_true (w : World) : HandSHeadRun.RunEq R (PySem.W.view R.prog [27]) hk ob 16000 loose (w.withFollow "special-get-raises" true) := by
  intro os
  kernel_rfl
theorem run (w : World) : HandSHeadRun.RunEq R (PySem.W.view R.prog [27]) hk ob 16000 loose w :=
  PySem.W.byRow2 "special-get-raises" run_false run_true w
local macro_rules | `(tactic| simp_arith [$xs,*]) => `(tactic| simp (config := { decide := true, implicitDefEqProofs := false }) only [q_e3C, q_a3Nil, q_fk1_a3Cons, q_fk2_a3Cons, q_a3Cons, q_fk1_e3Lst, q_e3Lst, q_fk1_e3Tup, q_e3Tup, q_fk1_e3Op, q_fk2_e3Op, q_e3Op, q_fk1_e3Un, q_e3Un, q_fk1_e3CB, q_e3CB, q_fk1_b3T, q_b3T, q_fk1_b3Not, q_b3Not, q_b3Yes, q_fk1_e3NotV, q_e3NotV, q_fk1_e3Chain, q_fk2_e3Chain, q_fk3_e3Chain, q_fk4_e3Chain, q_fk5_e3Chain, q_e3Chain, q_s3Nx, q_fk1_s3Ret, q_s3Ret, q_fk1_s3Raise, q_s3Raise, q_g3Name, q_fk1_g3Tup, q_g3Tup, q_fk1_g3Cons, q_g3Cons, q_g3Nil, q_fk1_s3Asg, q_fk2_s3Asg, q_s3Asg, q_fk1_s3Par, q_s3Par, q_fk1_s3Aug, q_fk2_s3Aug, q_s3Aug, q_fk1_s3Fld, q_s3Fld, q_fk1_a3List, q_a3List, q_fk1_a3TupI, q_a3TupI, q_fk1_a3Str, q_fk2_a3Str, q_a3Str, q_fk1_a3Rng1, q_a3Rng1, q_fk1_s3For, q_s3For, q_fk1_e3Lc, q_fk2_e3Lc, q_e3Lc, q_dflF, q_dflFi, q_starF, q_fk1_e3Call, q_e3Call, q_fk1_e3Fld, q_fk2_e3Fld, q_e3Fld, q_fk1_e3Meth, q_fk2_e3Meth, q_fk3_e3Meth, q_e3Meth, q_fk1_e3Prop, q_fk2_e3Prop, q_e3Prop, q_fk1_e3CMeth, q_fk2_e3CMeth, q_fk3_e3CMeth, q_e3CMeth, q_fk1_e3Make, q_fk2_e3Make, q_e3Make, q_fk1_e3MakeV, q_e3MakeV, q_fk1_e3KGet, q_fk2_e3KGet, q_fk3_e3KGet, q_fk4_e3KGet, q_fk5_e3KGet, q_fk6_e3KGet, q_e3KGet, q_fk1_e3M1, q_fk2_e3M1, q_fk3_e3M1, q_e3M1, q_p3Nil, q_fk1_p3Cons, q_fk2_p3Cons, q_fk3_p3Cons, q_p3Cons, q_fk1_e3Disp, q_fk2_e3Disp, q_e3Disp, q_fk1_e3Xf, q_fk2_e3Xf, q_e3Xf, q_fk1_e3IsET, q_fk2_e3IsET, q_fk3_e3IsET, q_fk4_e3IsET, q_e3IsET, q_fk1_e3InO, q_fk2_e3InO, q_fk3_e3InO, q_fk4_e3InO, q_fk5_e3InO, q_e3InO, q_lcStep, q_kLc1, q_kLc2, iteL_t, iteL_f, q_kLcS, pik_n, pik_c, q_s3Seq, kSeq_nx, kSeq_rt, kSeq_bk, kSeq_ct, q_s3If, q_kIf, iteS_t, iteS_f, q_b3And, q_b3Or, q_e3AndV, q_e3If, q_kAnd, q_kOr, q_kAndV, q_kIfE, andT_t, andT_f, orT_t, orT_f, andE_t, andE_f, ifE_t, ifE_f, q_runF, q_runI, kRun_nx, kRun_rt, kRunI_nx, calmF_e, calmFi_e, q_s3Try, catch_ret, catch_exc, q_kTry, sa_ret, sa_exc, sat_ret, sat_exc, bind_ret, bind_exc, ofO_some, calm_ret, e3Var_0, e3Var_s, isBlE_c, isIntE_c, isStrE_c, isTupE_c, isLstE_c, isObjE_c, isFnE_c, isNonE_n, isNonE_s, isNonE_i, isNonE_o, isNonE_l, isNonE_t, isNonE_d, vE_lst, vE_tup, vE_dic, vE_obj, vE_str, vE_int, vE_bl, vE_non, vE_scr, wipeE, sE_str, sE_int, sE_bl, sE_non, fE_str, fE_int, fE_bl, fE_non, sEs, vI, vU, o2S, o1S, oLS, List.map_cons, List.map_nil, List.cons_append, List.nil_append, List.replicate, List.length_cons, List.length_nil, List.set_cons_zero, List.set_cons_succ, Nat.reduceAdd, Nat.reduceSub, Nat.reduceEqDiff, Nat.reduceLeDiff, putFE, selfOf, lk_cons, lk_nil, List.all_cons, List.all_nil, Bool.and_true, Bool.and_self, Bool.and_false, Bool.false_and, Bool.true_and, Bool.or_false, Bool.false_or, Bool.true_or, Bool.or_true, ↓reduceIte, Bool.false_eq_true, Bool.not_true, Bool.not_false, Option.bind_some, Option.map_some, Option.bind_none, Option.map_none, decide_true, decide_false, eq_self, reduceCtorEq, and_self, and_true, true_and, List.getElem?_cons_zero, List.getElem?_cons_succ, start3, isKey_str, isKey_int, $xs,*])
local macro_rules | `(tactic| simp_arith! [$xs,*]) => `(tactic| simp (config := { decide := true, implicitDefEqProofs := false, maxSteps := 1000000 }) (disch := omega) only [if_pos, List.length_map, List.length_append, List.append_assoc, q_e3C, q_a3Nil, q_fk1_a3Cons, q_fk2_a3Cons, q_a3Cons, q_fk1_e3Lst, q_e3Lst, q_fk1_e3Tup, q_e3Tup, q_fk1_e3Op, q_fk2_e3Op, q_e3Op, q_fk1_e3Un, q_e3Un, q_fk1_e3CB, q_e3CB, q_fk1_b3T, q_b3T, q_fk1_b3Not, q_b3Not, q_b3Yes, q_fk1_e3NotV, q_e3NotV, q_fk1_e3Chain, q_fk2_e3Chain, q_fk3_e3Chain, q_fk4_e3Chain, q_fk5_e3Chain, q_e3Chain, q_s3Nx, q_fk1_s3Ret, q_s3Ret, q_fk1_s3Raise, q_s3Raise, q_g3Name, q_fk1_g3Tup, q_g3Tup, q_fk1_g3Cons, q_g3Cons, q_g3Nil, q_fk1_s3Asg, q_fk2_s3Asg, q_s3Asg, q_fk1_s3Par, q_s3Par, q_fk1_s3Aug, q_fk2_s3Aug, q_s3Aug, q_fk1_s3Fld, q_s3Fld, q_fk1_a3List, q_a3List, q_fk1_a3TupI, q_a3TupI, q_fk1_a3Str, q_fk2_a3Str, q_a3Str, q_fk1_a3Rng1, q_a3Rng1, q_fk1_s3For, q_s3For, q_fk1_e3Lc, q_fk2_e3Lc, q_e3Lc, q_dflF, q_dflFi, q_starF, q_fk1_e3Call, q_e3Call, q_fk1_e3Fld, q_fk2_e3Fld, q_e3Fld, q_fk1_e3Meth, q_fk2_e3Meth, q_fk3_e3Meth, q_e3Meth, q_fk1_e3Prop, q_fk2_e3Prop, q_e3Prop, q_fk1_e3CMeth, q_fk2_e3CMeth, q_fk3_e3CMeth, q_e3CMeth, q_fk1_e3Make, q_fk2_e3Make, q_e3Make, q_fk1_e3MakeV, q_e3MakeV, q_fk1_e3KGet, q_fk2_e3KGet, q_fk3_e3KGet, q_fk4_e3KGet, q_fk5_e3KGet, q_fk6_e3KGet, q_e3KGet, q_fk1_e3M1, q_fk2_e3M1, q_fk3_e3M1, q_e3M1, q_p3Nil, q_fk1_p3Cons, q_fk2_p3Cons, q_fk3_p3Cons, q_p3Cons, q_fk1_e3Disp, q_fk2_e3Disp, q_e3Disp, q_fk1_e3Xf, q_fk2_e3Xf, q_e3Xf, q_fk1_e3IsET, q_fk2_e3IsET, q_fk3_e3IsET, q_fk4_e3IsET, q_e3IsET, q_fk1_e3InO, q_fk2_e3InO, q_fk3_e3InO, q_fk4_e3InO, q_fk5_e3InO, q_e3InO, q_lcStep, q_kLc1, q_kLc2, iteL_t, iteL_f, q_kLcS, pik_n, pik_c, q_s3Seq, kSeq_nx, kSeq_rt, kSeq_bk, kSeq_ct, q_s3If, q_kIf, iteS_t, iteS_f, q_b3And, q_b3Or, q_e3AndV, q_e3If, q_kAnd, q_kOr, q_kAndV, q_kIfE, andT_t, andT_f, orT_t, orT_f, andE_t, andE_f, ifE_t, ifE_f, q_runF, q_runI, kRun_nx, kRun_rt, kRunI_nx, calmF_e, calmFi_e, q_s3Try, catch_ret, catch_exc, q_kTry, sa_ret, sa_exc, sat_ret, sat_exc, bind_ret, bind_exc, ofO_some, calm_ret, e3Var_0, e3Var_s, isBlE_c, isIntE_c, isStrE_c, isTupE_c, isLstE_c, isObjE_c, isFnE_c, isNonE_n, isNonE_s, isNonE_i, isNonE_o, isNonE_l, isNonE_t, isNonE_d, vE_lst, vE_tup, vE_dic, vE_obj, vE_str, vE_int, vE_bl, vE_non, vE_scr, wipeE, sE_str, sE_int, sE_bl, sE_non, fE_str, fE_int, fE_bl, fE_non, sEs, vI, vU, o2S, o1S, oLS, List.map_cons, List.map_nil, List.cons_append, List.nil_append, List.replicate, List.length_cons, List.length_nil, List.set_cons_zero, List.set_cons_succ, Nat.reduceAdd, Nat.reduceSub, Nat.reduceEqDiff, Nat.reduceLeDiff, putFE, selfOf, lk_cons, lk_nil, List.all_cons, List.all_nil, Bool.and_true, Bool.and_self, Bool.and_false, Bool.false_and, Bool.true_and, Bool.or_false, Bool.false_or, Bool.true_or, Bool.or_true, ↓reduceIte, Bool.false_eq_true, Bool.not_true, Bool.not_false, Option.bind_some, Option.map_some, Option.bind_none, Option.map_none, decide_true, decide_false, eq_self, reduceCtorEq, and_self, and_true, true_and, List.getElem?_cons_zero, List.getElem?_cons_succ, start3, isKey_str, isKey_int, $xs,*])
theorem beq_ne {C D : String} (h : C ≠ D) : (C == D) = false := beq_eq_false_iff_ne.mpr h
theorem cel_of {e : ETb} (h : ∀ fs b c, (b = .lst [] ∨ b = .dic []) → e.f fs b = some c → c = false) (r : ∀ fs p W, ((∃ ds, W p = some (.lst ds)) ∨ ∃ ds, W p = some (.dic ds)) → e.run [.obj e.cls fs, .cel p] W = .ret (.bl false) W) : EqCel e :=
  ⟨fun fs c hc W p ds hw => by
    rw [h fs _ c (.inl rfl) hc]
    exact r fs p W (.inl ⟨ds, hw⟩), fun fs c hc W p ds hw => by
    rw [h fs _ c (.inr rfl) hc]
    exact r fs p W (.inr ⟨ds, hw⟩)⟩
theorem eok_Rights : EqOk csL ⟨"Rights", eqf_Rights, f_Rights_eq⟩ := by
  have mR : "Rights" ∈ csL := by decide
  refine ⟨fun fs b c h W => ?_, fun K F fs b c h e => ?_, fun fs b c h => ?_⟩
  · dsimp only at h ⊢
    unfold eqf_Rights at h
    split at h
    · rename_i C gs
      split at h
      · rename_i hC
        subst hC
        split at h
        · rename_i i j h1 h2
          cases h
          have i0 : ∀ W, oIsi csL [.obj "Rights" gs, .fn "Rights"] W = some (.bl true) := fun W => isi_obj (by decide) (by decide)
          unfold f_Rights_eq b_Rights_eq
          simp_arith [i0, h1, h2, vEq_int]
        · cases h
      · rename_i hC
        split at h
        · rename_i hD
          cases h
          have i0 : ∀ W, oIsi csL [.obj C gs, .fn "Rights"] W = some (.bl false) := fun W => (isi_obj hD (by decide)).trans (by rw [beq_ne hC])
          unfold f_Rights_eq b_Rights_eq
          simp_arith [i0]
        · cases h
    · split at h
      · rename_i hp
        cases h
        have i0 : ∀ W, oIsi csL [b, .fn "Rights"] W = some (.bl false) := fun W => isi_plain (by decide) hp
        unfold f_Rights_eq b_Rights_eq
        simp_arith [i0]
      · cases h
  · dsimp only at h e
    unfold eqf_Rights at h
    split at h
    · rename_i C gs
      simp only [tD] at e
      injection e with e1 e2
      split at h
      · split at h
        · rename_i i j h1 h2
          cases h
          have := tDf_lk e2 h2 h1
          simp only [tD] at this
          cases this
          exact decide_eq_true rfl
        · cases h
      · rename_i hC
        split at h
        · rename_i hD
          exact absurd e1 (ga_ne F (by simpa using hD) mR hC)
        · cases h
    · split at h
      · rename_i hp
        simp only [tD] at e
        exact absurd e (plain_obj hp)
      · cases h
  · dsimp only at h
    unfold eqf_Rights at h
    split at h
    · rename_i C gs
      refine .inl ⟨C, gs, rfl, ?_⟩
      split at h
      · rename_i hC
        rw [hC]
        exact mR
      · split at h
        · rename_i hD
          simpa using hD
        · cases h
    · split at h
      · rename_i hp
        exact .inr (plain_ty hp)
      · cases h
theorem ecl_Rights : EqCel ⟨"Rights", eqf_Rights, f_Rights_eq⟩ := cel_of (fun fs b c hb h => by
  rcases hb with rfl | rfl <;> (cases h; rfl)) fun fs p W h => by
  have i0 : oIsi csL [.cel p, .fn "Rights"] W = some (.bl false) := isi_cel (by decide) h
  dsimp only
  unfold f_Rights_eq b_Rights_eq
  simp_arith [i0]
def RE (d : Nat) : E := .obj "Rights" [("own_digit", .int (d : Nat)), ("own_letters", .lst (sgE (wrd d)))]
/-- what stands for a digit: its letters, or rights -/
def Rp (v : E) (d : Nat) : Prop := d < 8 ∧ (v = .str (wrd d) ∨ v = RE d)
theorem rp_s {d : Nat} (h : d < 8) : Rp (.str (wrd d)) d := ⟨h, .inl rfl⟩
theorem rp_r {d : Nat} (h : d < 8) : Rp (RE d) d := ⟨h, .inr rfl⟩
theorem digit_of_w {d : Nat} (h : d < 8) {W : WE} : f_digit_of [.str (wrd d)] W = .ret (.int (d : Nat)) W := by
  refine all8 (P := (fun d => f_digit_of [.str (wrd d)] W = .ret (.int (d : Nat)) W)) ?_ ?_ ?_ ?_ ?_ ?_ ?_ ?_ h <;> simp only [wrd_0, wrd_1, wrd_2, wrd_3, wrd_4, wrd_5, wrd_6, wrd_7] <;> exact rfl
theorem digit_R {d : Nat} {W : WE} : f_Rights_digit [RE d] W = .ret (.int (d : Nat)) W := rfl
theorem isi_s_R {z : Str} {W : WE} : oIsi csL [.str z, .fn "Rights"] W = some (.bl false) := rfl
theorem isi_i_i {d : Int} {W : WE} : oIsi csL [.int d, .ty "int"] W = some (.bl true) := rfl
theorem isi_i_b {d : Int} {W : WE} : oIsi csL [.int d, .ty "bool"] W = some (.bl false) := rfl
theorem digit_in_s {d : Nat} (h : d < 8) {W : WE} : f_digit_in [.str (wrd d)] W = .ret (.int (d : Nat)) W := by
  unfold f_digit_in b_digit_in
  simp_arith [isi_s_R, digit_of_w h]
theorem digit_in_rp {v : E} {d : Nat} (h : Rp v d) {W : WE} : f_digit_in [v] W = .ret (.int (d : Nat)) W := by
  obtain ⟨h, rfl | rfl⟩ := h
  · exact digit_in_s h
  · rfl
theorem is_rights_rp {v : E} {d : Nat} (h : Rp v d) {W : WE} : f_is_rights [v] W = .ret (.bl true) W := by
  unfold f_is_rights b_is_rights
  simp_arith [digit_in_rp h, isN_t]
theorem words_at {d : Nat} (h : d < 8) {W : WE} : oIxT (.tup [(.str ""), (.str "x"), (.str "w"), (.str "wx"), (.str "r"), (.str "rx"), (.str "rw"), (.str "rwx")]) (.int (d : Nat)) W = some (.str (wrd d)) := by
  refine all8 (P := (fun d => oIxT (.tup [(.str ""), (.str "x"), (.str "w"), (.str "wx"), (.str "r"), (.str "rx"), (.str "rw"), (.str "rwx")]) (.int (d : Nat)) W = some (.str (wrd d)))) ?_ ?_ ?_ ?_ ?_ ?_ ?_ ?_ h <;> simp only [wrd_0, wrd_1, wrd_2, wrd_3, wrd_4, wrd_5, wrd_6, wrd_7] <;> exact rfl
theorem wrd_16 {d : Nat} (h : d < 8) : (wrd d).length ≤ 16777216 := Nat.le_trans (wrd_len d h) (by decide)
theorem make_R {d : Nat} (h : d < 8) {W : WE} : f_Rights_init [.str (wrd d)] W = .ret [("own_digit", .int (d : Nat)), ("own_letters", .lst (sgE (wrd d)))] W := by
  unfold f_Rights_init b_Rights_init
  simp_arith [digit_of_w h, isN_f, words_at h, oListS, if_pos (wrd_16 h)]
/-- Rights.of of many -/
theorem or8 {a b : Nat} (ha : a < 8) (hb : b < 8) : a ||| b < 8 := or_lt ha hb
theorem fold8 : ∀ {ns : List Nat} {a : Nat}, a < 8 → (∀ n ∈ ns, n < 8) → ns.foldl (· ||| ·) a < 8
  | [], a, ha, _ => ha
  | n :: ns, a, ha, h => fold8 (ns := ns) (a := a ||| n) (or8 ha (h n (List.mem_cons_self ..))) fun x hx => h x (List.mem_cons_of_mem _ hx)
theorem of_loop {W : WE} : ∀ {ns : List Nat} {a : Nat} {x : E} {s3 s4 : Sl}, a < 8 → (∀ n ∈ ns, n < 8) → ∃ s3' s4', forT (g3Name 3)
        (s3Seq (s3Asg (e3If (b3T (e3CB (oIsi csL) (a3Cons (e3Var 3) (a3Cons (e3C (.fn "Rights")) a3Nil)))) (e3Prop "Rights" (calmF f_Rights_digit) (e3Var 3)) (e3Call (calmF f_digit_of) (a3Cons (e3Var 3) a3Nil))) (g3Name 4))
        (s3Seq (s3If (b3T (e3Op (oIsN false) (e3Var 4) (e3C .non)))
          (s3Raise "InvalidRights" "value" (e3Var 3))
          s3Nx)
        (s3Aug 2 (e3Var 4) oOr))) (ns.map RE) [.pl (.fn "Rights"), .pl x, .pl (.int (a : Nat)), s3, s4] W = .ret (.nx [.pl (.fn "Rights"), .pl x, .pl (.int ((ns.foldl (· ||| ·) a : Nat))), s3', s4']) W
  | [], a, x, s3, s4, ha, h => ⟨s3, s4, rfl⟩
  | n :: ns, a, x, s3, s4, ha, h => by
    have h8 := h n (List.mem_cons_self ..)
    obtain ⟨s3', s4', e⟩ := of_loop (x := x) (s3 := .pl (RE n)) (s4 := .pl (.int (n : Nat))) (or8 ha h8) fun m hm => h m (List.mem_cons_of_mem _ hm)
    refine ⟨s3', s4', ?_⟩
    rw [List.map_cons, forT, List.foldl_cons, ← e, ← borN a ha n h8]
    rfl
theorem of_R {ns : List Nat} (hn : ns.length ≤ 1000) (h : ∀ n ∈ ns, n < 8) {W : WE} : starF 1 f_Rights_of (.fn "Rights" :: ns.map RE) W = .ret (RE (ns.foldl (· ||| ·) 0)) W := by
  have h0 : starF 1 f_Rights_of (.fn "Rights" :: ns.map RE) W = f_Rights_of [.fn "Rights", .tup (ns.map RE)] W := by
    unfold starF
    rw [if_pos ⟨by simp, by simp only [List.length_cons, List.length_map]; omega⟩]
    rfl
  rw [h0]
  unfold f_Rights_of b_Rights_of
  simp_arith []
  obtain ⟨s3', s4', e⟩ := of_loop (W := W) (x := .tup (ns.map RE)) (s3 := .no) (s4 := .no) (a := 0) (by decide) h
  have h8 := fold8 (a := 0) (by decide) h
  rw [show ((0 : Int)) = ((0 : Nat) : Int) from rfl, e]
  simp_arith []
  rw [words_at h8, ofO_some]
  simp_arith [dflFi, List.append_nil, make_R h8]
  rfl
/-- the one right given -/
theorem of_s {d : Nat} (h : d < 8) {W : WE} : starF 1 f_Rights_of [.fn "Rights", .str (wrd d)] W = .ret (RE d) W := by
  have h0 : starF 1 f_Rights_of [.fn "Rights", .str (wrd d)] W = f_Rights_of [.fn "Rights", .tup [.str (wrd d)]] W := rfl
  rw [h0]
  unfold f_Rights_of b_Rights_of
  simp_arith [forT, isi_s_R, digit_of_w h, isN_f, show (0 : Int) = ((0 : Nat) : Int) from rfl, borN 0 (by decide) d h, Nat.zero_or, words_at h, dflFi, List.append_nil, make_R h]
  rfl
theorem as_rights_rp {v : E} {d : Nat} (h : Rp v d) {W : WE} : f_as_rights [v] W = .ret (RE d) W := by
  obtain ⟨h, rfl | rfl⟩ := h
  · unfold f_as_rights b_as_rights
    have o := of_s h (W := W)
    have h0 : starF 1 f_Rights_of [.fn "Rights", .str (wrd d)] W = f_Rights_of [.fn "Rights", .tup [.str (wrd d)]] W := rfl
    rw [h0] at o
    simp_arith [List.take_succ_cons, List.take_zero, List.drop_succ_cons, List.drop_zero, o]
  · unfold f_as_rights b_as_rights
    have := of_R (ns := [d]) (by simp only [List.length_cons, List.length_nil]; decide) (fun n hn => by rw [List.mem_singleton.mp hn]; exact h) (W := W)
    rw [List.map_cons, List.map_nil, List.foldl_cons, List.foldl_nil, Nat.zero_or] at this
    have h0 : starF 1 f_Rights_of [.fn "Rights", RE d] W = f_Rights_of [.fn "Rights", .tup [RE d]] W := rfl
    rw [h0] at this
    simp_arith [List.take_succ_cons, List.take_zero, List.drop_succ_cons, List.drop_zero, this]
theorem from_digit_R {d : Nat} (h : d < 8) {W : WE} : f_Rights_from_digit [.fn "Rights", .int (d : Nat)] W = .ret (RE d) W := by
  unfold f_Rights_from_digit b_Rights_from_digit
  have h1 : decide ((0 : Int) ≤ ((d : Nat) : Int)) = true := decide_eq_true (by omega)
  have h2 : decide (((d : Nat) : Int) ≤ (7 : Int)) = true := decide_eq_true (by omega)
  simp_arith [isi_i_i, isi_i_b, h1, h2, words_at h, dflFi, List.append_nil, make_R h]
  rfl
def bitC (c : Nat) : Nat := if c = 114 then 4 else if c = 119 then 2 else if c = 120 then 1 else 0
def digL : List Nat → Nat → Option Nat
  | [], f => some f
  | c :: cs, f => if bitC c = 0 ∨ 0 < f &&& bitC c then none else digL cs (f ||| bitC c)
theorem bitC_cases (c : Nat) : (c = 114 ∧ bitC c = 4) ∨ (c = 119 ∧ bitC c = 2) ∨ (c = 120 ∧ bitC c = 1) ∨ ((c ≠ 114 ∧ c ≠ 119 ∧ c ≠ 120) ∧ bitC c = 0) := by
  unfold bitC
  by_cases h1 : c = 114
  · exact .inl ⟨h1, if_pos h1⟩
  · by_cases h2 : c = 119
    · exact .inr (.inl ⟨h2, by rw [if_neg h1, if_pos h2]⟩)
    · by_cases h3 : c = 120
      · exact .inr (.inr (.inl ⟨h3, by rw [if_neg h1, if_neg h2, if_pos h3]⟩))
      · exact .inr (.inr (.inr ⟨⟨h1, h2, h3⟩, by rw [if_neg h1, if_neg h2, if_neg h3]⟩))
theorem bitC_mem {c : Nat} (h : bitC c ≠ 0) : bitC c ∈ [4, 2, 1] := by
  rcases bitC_cases c with ⟨_, e⟩ | ⟨_, e⟩ | ⟨_, e⟩ | ⟨_, e⟩ <;> first | (rw [e]; decide) | exact absurd e h
theorem bitC_and {c x : Nat} (h : bitC c ≠ 0) (h2 : bitC x ≠ 0) : (bitC c &&& bitC x = 0) ↔ c ≠ x := by
  rcases bitC_cases c with ⟨rfl, e⟩ | ⟨rfl, e⟩ | ⟨rfl, e⟩ | ⟨_, e⟩ <;> rcases bitC_cases x with ⟨rfl, e2⟩ | ⟨rfl, e2⟩ | ⟨rfl, e2⟩ | ⟨_, e2⟩ <;> first | exact absurd e h | exact absurd e2 h2 | (simp only [e, e2]; decide)
theorem or_and0 {f b x : Nat} (hf : f < 8) (hb : b ∈ [4, 2, 1]) (hx : x ∈ [4, 2, 1]) : ((f ||| b) &&& x = 0) ↔ (f &&& x = 0 ∧ b &&& x = 0) := by
  have : ∀ f < 8, ∀ b ∈ [4, 2, 1], ∀ x ∈ [4, 2, 1], ((f ||| b) &&& x = 0) ↔ (f &&& x = 0 ∧ b &&& x = 0) := by decide
  exact this f hf b hb x hx
theorem digL_iff : ∀ {cs : List Nat} {f : Nat}, f < 8 → ((digL cs f).isSome = true ↔ (∀ c ∈ cs, bitC c ≠ 0 ∧ f &&& bitC c = 0) ∧ cs.Nodup)
  | [], f, _ => by simp [digL]
  | c :: cs, f, hf => by
    unfold digL
    by_cases h : bitC c = 0 ∨ 0 < f &&& bitC c
    · rw [if_pos h]
      refine ⟨fun z => (by cases z), fun z => ?_⟩
      obtain ⟨h1, h2⟩ := z.1 c (List.mem_cons_self ..)
      rcases h with h | h
      · exact absurd h h1
      · omega
    · rw [if_neg h]
      have hb : bitC c ≠ 0 := fun z => h (.inl z)
      have h0 : f &&& bitC c = 0 := by
        have := fun z => h (.inr z)
        omega
      have hm := bitC_mem hb
      have h8 : f ||| bitC c < 8 := or_lt hf (by revert hm; simp only [List.mem_cons, List.not_mem_nil, or_false]; omega)
      rw [digL_iff h8, List.nodup_cons]
      constructor
      · rintro ⟨h1, h2⟩
        refine ⟨fun x hx => ?_, fun hc => ?_, h2⟩
        · rcases List.mem_cons.mp hx with rfl | hx
          · exact ⟨hb, h0⟩
          · obtain ⟨a1, a2⟩ := h1 x hx
            exact ⟨a1, ((or_and0 hf hm (bitC_mem a1)).mp a2).1⟩
        · obtain ⟨a1, a2⟩ := h1 c hc
          exact (bitC_and hb hb).mp ((or_and0 hf hm hm).mp a2).2 rfl
      · rintro ⟨h1, h2, h3⟩
        refine ⟨fun x hx => ?_, h3⟩
        obtain ⟨a1, a2⟩ := h1 x (List.mem_cons_of_mem _ hx)
        exact ⟨a1, (or_and0 hf hm (bitC_mem a1)).mpr ⟨a2, (bitC_and hb a1).mpr fun z => h2 (z ▸ hx)⟩⟩
theorem foldl_addL_len : ∀ {ks L : List Str}, (ks.foldl addL L).length ≤ L.length + ks.length
  | [], L => by simp
  | k :: ks, L => by
    have a := foldl_addL_len (ks := ks) (L := addL L k)
    have b := addL_len L k
    simp only [List.foldl_cons, List.length_cons]
    omega
theorem dedup_full : ∀ {ks L : List Str}, L.Nodup → ((ks.foldl addL L).length = L.length + ks.length ↔ (L ++ ks).Nodup)
  | [], L, h => by simp [h]
  | k :: ks, L, h => by
    rw [List.foldl_cons]
    by_cases m : k ∈ L
    · have e : addL L k = L := if_pos m
      have a := foldl_addL_len (ks := ks) (L := L)
      rw [e]
      refine ⟨fun z => ?_, fun z => ?_⟩
      · simp only [List.length_cons] at z
        omega
      · exact absurd rfl ((List.nodup_append.mp z).2.2 k m k (List.mem_cons_self ..))
    · have e : addL L k = L ++ [k] := if_neg m
      have nd : (L ++ [k]).Nodup := List.nodup_append.mpr ⟨h, (by simp), fun a ha b hb z => m (by rw [List.mem_singleton.mp hb] at z; exact z ▸ ha)⟩
      have ih := dedup_full (ks := ks) nd
      rw [e]
      simp only [List.length_append, List.length_cons, List.length_nil, List.append_assoc, List.cons_append, List.nil_append] at ih ⊢
      rw [← ih]
      omega
def goodB (cs : List Nat) : Bool := (cs.filter fun c => decide (bitC c = 0)).isEmpty && decide ((dedupS (cs.map fun c => mkS [c])).length = cs.length)
theorem good_dig {cs : List Nat} : goodB cs = (digL cs 0).isSome := by
  rw [Bool.eq_iff_iff, digL_iff (by decide)]
  unfold goodB
  rw [Bool.and_eq_true, decide_eq_true_eq, List.isEmpty_iff, List.filter_eq_nil_iff]
  have e := dedup_full (ks := cs.map fun c => mkS [c]) (L := []) (by simp)
  simp only [List.length_nil, Nat.zero_add, List.nil_append, List.length_map] at e
  have nm : (cs.map fun c => mkS [c]).Nodup ↔ cs.Nodup := by
    unfold List.Nodup
    rw [List.pairwise_map]
    refine ⟨fun h => h.imp fun n z => n (by rw [z]), fun h => h.imp fun n z => n ?_⟩
    have := mkS_inj z
    injection this
  have e2 : (dedupS (cs.map fun c => mkS [c])).length = cs.length ↔ cs.Nodup := e.trans nm
  rw [e2]
  refine and_congr_left fun _ => forall_congr' fun c => forall_congr' fun _ => ?_
  simp
theorem kget_go {c : Nat} : (if mkS [c] = Str.ofString "r" then some (V.int 4) else if mkS [c] = Str.ofString "w" then some (V.int 2) else if mkS [c] = Str.ofString "x" then some (V.int 1) else none).getD (V.int 0) = V.int ((bitC c : Nat) : Int) := by
  have h : ∀ d : Nat, (mkS [c] = mkS [d]) ↔ c = d := fun d => ⟨fun z => by have := mkS_inj z; injection this, fun z => by rw [z]⟩
  rw [show Str.ofString "r" = mkS [114] by decide +kernel, show Str.ofString "w" = mkS [119] by decide +kernel, show Str.ofString "x" = mkS [120] by decide +kernel]
  simp only [h]
  rcases bitC_cases c with ⟨rfl, e⟩ | ⟨rfl, e⟩ | ⟨rfl, e⟩ | ⟨⟨h1, h2, h3⟩, e⟩
  · rw [e]; rfl
  · rw [e]; rfl
  · rw [e]; rfl
  · rw [e, if_neg h1, if_neg h2, if_neg h3]
    rfl
def b_dg : S3 := (s3Seq (s3Asg (e3KGet "BITS" [("r", .int (4)), ("w", .int (2)), ("x", .int (1))] (e3C (.fn "BITS")) (e3Var 2) (e3C (.int (0)))) (g3Name 3))
        (s3Seq (s3If (b3Or (b3T (e3Op oEq (e3Var 3) (e3C (.int (0))))) (b3T (e3Op oGt (e3Op oAnd (e3Var 1) (e3Var 3)) (e3C (.int (0))))))
          (s3Ret (e3C .non))
          s3Nx)
        (s3Asg (e3Op oOr (e3Var 1) (e3Var 3)) (g3Name 1))))
theorem digit_eq : b_digit_of = (s3Seq (s3If (b3Not (b3T (e3CB (oIsi csL) (a3Cons (e3Var 0) (a3Cons (e3C (.ty "str")) a3Nil)))))
        (s3Ret (e3C .non))
        s3Nx)
      (s3Seq (s3Asg (e3C (.int (0))) (g3Name 1))
      (s3Seq (s3For (a3Str (e3Var 0)) (g3Name 2)
        b_dg)
      (s3Ret (e3Var 1))))) := by
  unfold b_digit_of b_dg
  exact rfl
theorem land_go {a b : Nat} {W : WE} : oAnd (.int (a : Nat)) (.int (b : Nat)) W = some (.int ((a &&& b : Nat) : Int)) := rfl
theorem bitC_8 {c : Nat} : bitC c < 8 := by
  rcases bitC_cases c with ⟨rfl, e⟩ | ⟨rfl, e⟩ | ⟨rfl, e⟩ | ⟨_, e⟩ <;> (rw [e]; decide)
theorem lor_go {a b : Nat} (ha : a < 8) (hb : b < 8) {W : WE} : oOr (.int (a : Nat)) (.int (b : Nat)) W = some (.int ((a ||| b : Nat) : Int)) := by
  rw [← borN a ha b hb]
  rfl
theorem ogt_go {a : Nat} {W : WE} : oGt (.int (a : Nat)) (.int 0) W = some (.bl (decide (0 < a))) := by
  have e : oGt (.int (a : Nat)) (.int 0) W = some (.bl (decide (((a : Nat) : Int) > 0))) := rfl
  rw [e]
  congr 2
  exact decide_eq_decide.mpr (by omega)
theorem dig_step {z : E} {W : WE} {c f : Nat} {s3 : Sl} (hf : f < 8) : b_dg [.pl z, .pl (.int (f : Nat)), .pl (.str (mkS [c])), s3] W = if bitC c = 0 ∨ 0 < f &&& bitC c then .ret (.rt .non) W else .ret (.nx [.pl z, .pl (.int ((f ||| bitC c : Nat) : Int)), .pl (.str (mkS [c])), .pl (.int (bitC c : Nat))]) W := by
  unfold b_dg
  by_cases h : bitC c = 0
  · have e : decide (((bitC c : Nat) : Int) = 0) = true := decide_eq_true (by omega)
    rw [if_pos (.inl h)]
    simp_arith [kget_go, vEq_int, e]
  · have e : decide (((bitC c : Nat) : Int) = 0) = false := decide_eq_false (by omega)
    by_cases h2 : 0 < f &&& bitC c
    · rw [if_pos (.inr h2)]
      simp_arith [kget_go, vEq_int, e, land_go, ogt_go, decide_eq_true h2]
    · rw [if_neg (fun q => q.elim h h2)]
      simp_arith [kget_go, vEq_int, e, land_go, ogt_go, decide_eq_false h2, lor_go hf bitC_8]
theorem dig_loop {z : E} {W : WE} : ∀ {cs : List Nat} {f : Nat} {s2 s3 : Sl}, f < 8 → ∃ s2' s3', forT (g3Name 2) b_dg (cs.map fun c => E.str (mkS [c])) [.pl z, .pl (.int (f : Nat)), s2, s3] W = match digL cs f with
    | some d => .ret (.nx [.pl z, .pl (.int (d : Nat)), s2', s3']) W
    | none => .ret (.rt .non) W
  | [], f, s2, s3, _ => ⟨s2, s3, rfl⟩
  | c :: cs, f, s2, s3, hf => by
    have st := dig_step hf (z := z) (W := W) (c := c) (f := f) (s3 := s3)
    have g : (g3Name 2) (E.str (mkS [c])) [.pl z, .pl (.int (f : Nat)), s2, s3] W = .ret [.pl z, .pl (.int (f : Nat)), .pl (.str (mkS [c])), s3] W := rfl
    by_cases h : bitC c = 0 ∨ 0 < f &&& bitC c
    · rw [if_pos h] at st
      refine ⟨.no, .no, ?_⟩
      rw [show digL (c :: cs) f = none from if_pos h, List.map_cons, forT, g]
      show (Tr.bind (b_dg _ W) _) = _
      rw [st]
      rfl
    · rw [if_neg h] at st
      obtain ⟨s2', s3', e⟩ := dig_loop (z := z) (W := W) (cs := cs) (f := f ||| bitC c) (s2 := .pl (.str (mkS [c]))) (s3 := .pl (.int (bitC c : Nat))) (or_lt hf bitC_8)
      refine ⟨s2', s3', ?_⟩
      rw [show digL (c :: cs) f = digL cs (f ||| bitC c) from if_neg h, ← e, List.map_cons, forT, g]
      show (Tr.bind (b_dg _ W) _) = _
      rw [st]
      rfl
def digE : Option Nat → E
  | some d => .int (d : Nat)
  | none => .non
theorem sg_mk {cs : List Nat} : sgE (mkS cs) = cs.map fun c => E.str (mkS [c]) := rfl
theorem digit_txt {cs : List Nat} (hl : cs.length ≤ 1000) {W : WE} : f_digit_of [.str (mkS cs)] W = .ret (digE (digL cs 0)) W := by
  unfold f_digit_of
  rw [digit_eq]
  have ln : (sgE (mkS cs)).length ≤ 1000000 := by rw [sg_mk, List.length_map]; omega
  have is_ : oIsi csL [.str (mkS cs), .ty "str"] W = some (.bl true) := rfl
  obtain ⟨s2', s3', e⟩ := dig_loop (z := .str (mkS cs)) (W := W) (cs := cs) (f := 0) (s2 := .no) (s3 := .no) (by decide)
  have e : forT (g3Name 2) b_dg (sgE (mkS cs)) [.pl (.str (mkS cs)), .pl (.int 0), .no, .no] W = _ := e
  cases h : digL cs 0 with
  | none =>
    rw [h] at e
    simp_arith [is_, if_pos ln, e]
    rfl
  | some d =>
    rw [h] at e
    simp_arith [is_, if_pos ln, e]
    rfl
theorem lc_rwx {x : E} {s1 : Sl} {W : WE} : ∀ {cs : List Nat}, lcT (g3Name 1) (b3T (e3Op oNotInSg (e3Var 1) (e3C (.str "rwx")))) (e3Var 1) [.pl x, s1] (cs.map fun c => E.str (mkS [c])) W = .ret ((cs.filter fun c => decide (bitC c = 0)).map fun c => E.str (mkS [c])) W
  | [] => rfl
  | c :: cs => by
    have ih := lc_rwx (x := x) (s1 := s1) (W := W) (cs := cs)
    have t : oNotInSg (.str (mkS [c])) (.str "rwx") W = some (.bl (decide (bitC c = 0))) := by
      rw [show ("rwx" : Str) = mkS [114, 119, 120] by decide +kernel, nSg_go, tl_mkS]
      congr 2
      rcases bitC_cases c with ⟨rfl, e⟩ | ⟨rfl, e⟩ | ⟨rfl, e⟩ | ⟨⟨h1, h2, h3⟩, e⟩ <;> rw [e] <;> first | rfl | (simp [h1, h2, h3])
    rw [List.map_cons, lcT_step]
    by_cases h : bitC c = 0
    · have st : lcStep (g3Name 1) (b3T (e3Op oNotInSg (e3Var 1) (e3C (.str "rwx")))) (e3Var 1) [.pl x, s1] (.str (mkS [c])) W = .ret (some (.str (mkS [c]))) W := by
        rw [decide_eq_true h] at t
        simp_arith [t]
      rw [st, List.filter_cons, if_pos (decide_eq_true h), List.map_cons]
      simp_arith [ih]
      rfl
    · have st : lcStep (g3Name 1) (b3T (e3Op oNotInSg (e3Var 1) (e3C (.str "rwx")))) (e3Var 1) [.pl x, s1] (.str (mkS [c])) W = .ret none W := by
        rw [decide_eq_false h] at t
        simp_arith [t]
      rw [st, List.filter_cons, if_neg (by simpa using h)]
      simp_arith [ih]
      rfl
theorem asc_m {w : List Nat} (h : ∀ c ∈ w, c < 128) : ascB (mkS w) = true := by
  unfold ascB
  rw [tl_mkS, List.all_eq_true]
  exact fun c hc => decide_eq_true (h c hc)
theorem nil_eqD {xs : List E} {W : WE} (h : eqOks 63 xs = true) : oEqD (.lst xs) (.lst []) W = some (.bl xs.isEmpty) := by
  obtain ⟨ps, e⟩ := eqOks_py 63 xs h
  have hp : pyE 64 (.lst xs) = some (.list ps) := by
    show (pyEs 63 xs).map PyData.list = _
    rw [e]
    rfl
  unfold oEqD
  rw [show vE W (.lst xs) = .lst xs from rfl, show vE W (.lst []) = .lst [] from rfl, hp]
  show some (E.bl (PyData.eqv (.list ps) (.list []))) = _
  cases xs with
  | nil =>
    simp only [pyEs] at e
    cases e
    rfl
  | cons x xs =>
    simp only [pyEs] at e
    obtain ⟨p, e1, e2⟩ := bind_some e
    obtain ⟨qs, e3, rfl⟩ := map_some e2
    rfl
theorem len_mk {cs : List Nat} : (mkS cs).length = cs.length := by rw [len_tl, tl_mkS]
theorem letters_txt {cs : List Nat} (hl : cs.length ≤ 1000) (ha : ∀ c ∈ cs, c < 128) {W : WE} : f_law_is_letters [.str (mkS cs)] W = .ret (.bl (digL cs 0).isSome) W := by
  unfold f_law_is_letters b_law_is_letters
  have is_ : oIsi csL [.str (mkS cs), .ty "str"] W = some (.bl true) := rfl
  have ln : (sgE (mkS cs)).length ≤ 1000000 := by rw [sg_mk, List.length_map]; omega
  have ok : eqOks 63 ((cs.filter fun c => decide (bitC c = 0)).map fun c => E.str (mkS [c])) = true := eqOks_all fun x hx => by
    obtain ⟨c, hc, rfl⟩ := List.mem_map.mp hx
    have := asc_m (w := [c]) fun d hd => by rw [List.mem_singleton.mp hd]; exact ha c (List.mem_filter.mp hc).1
    simp only [eqOk, this]
  have ls : oLenSetT (.str (mkS cs)) W = some (.int ((dedupS (cs.map fun c => mkS [c])).length : Nat)) := by
    show (if (mkS cs).length < 4000 then some (E.int (dedupS (sgS (mkS cs))).length) else none) = _
    rw [if_pos (by rw [len_mk]; omega)]
    unfold sgS
    rw [tl_mkS]
  have le : oLenS [.str (mkS cs)] W = some (.int (cs.length : Nat)) := by
    rw [lenS_go (by rw [len_mk]; omega), len_mk]
  have dc : decide ((((dedupS (cs.map fun c => mkS [c])).length : Nat) : Int) = ((cs.length : Nat) : Int)) = decide ((dedupS (cs.map fun c => mkS [c])).length = cs.length) := decide_eq_decide.mpr (by omega)
  rw [← good_dig]
  unfold goodB
  have f := lc_rwx (x := .str (mkS cs)) (s1 := .no) (W := W) (cs := cs)
  rw [← sg_mk] at f
  cases h : (cs.filter fun c => decide (bitC c = 0)).isEmpty with
  | false =>
    have n := nil_eqD (W := W) ok
    rw [List.isEmpty_map, h] at n
    simp_arith [is_, if_pos ln, f, n]
  | true =>
    have n := nil_eqD (W := W) ok
    rw [List.isEmpty_map, h] at n
    simp_arith [is_, if_pos ln, f, n, ls, le, vEq_int, dc]
theorem digL_8 : ∀ {cs : List Nat} {f d : Nat}, f < 8 → digL cs f = some d → d < 8
  | [], f, d, hf, h => by
    cases h
    exact hf
  | c :: cs, f, d, hf, h => by
    unfold digL at h
    split at h
    · cases h
    · exact digL_8 (or_lt hf bitC_8) h
def wT : E3 := (e3AndV (e3CB (oIsi csL) (a3Cons (e3Var 0) (a3Cons (e3C (.ty "int")) a3Nil))) (e3AndV (e3NotV (e3CB (oIsi csL) (a3Cons (e3Var 0) (a3Cons (e3C (.ty "bool")) a3Nil)))) (e3Chain oLe oLe (e3C (.int (0))) (e3Var 0) (e3C (.int (7))))))
structure Th (x : E) (g : Option Nat) : Prop where
  lt : ∀ d, g = some d → d < 8
  il : ∀ W, f_law_is_letters [x] W = .ret (.bl g.isSome) W
  dg : ∀ W, f_digit_of [x] W = .ret (digE g) W
  nR : ∀ W, oIsi csL [x, .fn "Rights"] W = some (.bl false)
  eq : ∀ W, oEqC tbl_1 (RE 5) x W = some (.bl false)
  ct : ∃ b, (∀ W, f_Rights_contains [RE 5, x] W = .ret (.bl b) W) ∧ ∀ W, oInY false x (.lst [.str "r", .str "x"]) W = some (.bl b)
  rp : ∃ z : Str, ∀ W, oReprA [x] W = some (.str z)
  rs : ∃ n : Nat, ∀ W z, oReprA [x] W = some (.str z) → oLenS [.str z] W = some (.int (n : Nat))
  rr : ∃ z, ∀ W, oReprA [.lst [.str "rights", x]] W = some (.str z)
  ri : ∃ z, ∀ W, oReprA [.lst [.str "integer", x]] W = some (.str z)
  nf : nfE x = true
  an : anyE "Rights" x = true
  wh : ((∀ env W, wT (.pl x :: env) W = .ret (.bl true) W) ∧ ∃ d < 8, x = .int (d : Nat)) ∨ ((∀ env W, wT (.pl x :: env) W = .ret (.bl false) W) ∧ ∀ W, f_Rights_from_digit [.fn "Rights", x] W = .exc "InvalidInteger" [("value", x)] W)
def Rq (e : E) (n k : Nat) : Prop := ∃ p, pyQ e = some p ∧ Sq p n k
theorem Rq.mono {e : E} {n k n' k' : Nat} (h : Rq e n k) (a : n ≤ n') (b : k ≤ k') : Rq e n' k' := let ⟨p, h1, h2⟩ := h; ⟨p, h1, h2.mono a b⟩
def rqB (n k : Nat) (e : E) : Bool := match pyQ e with
  | some p => p.showable && (decide (p.depth ≤ k) && decide (p.shown.length ≤ n))
  | none => false
theorem rq_b {n k : Nat} {e : E} (h : rqB n k e = true) : Rq e n k := by
  unfold rqB at h
  split at h
  · rename_i p hp
    simp only [Bool.and_eq_true, decide_eq_true_eq] at h
    exact ⟨p, hp, h.1, h.2.1, h.2.2⟩
  · cases h
theorem rq_str {z : Str} (ha : ascB z = true) (hl : z.length ≤ 100) : Rq (.str z) 1002 0 :=
  ⟨.str z, rfl, (Sh.str (ascB_ok ha)).q.mono (by omega) (Nat.le_refl _)⟩
theorem rq_two {x : E} {z : Str} {n k : Nat} (ha : Rq (.str z) 1002 0) (h : Rq x n k) : Rq (.lst [.str z, x]) (n + 2000) (k + 1) := by
  obtain ⟨p, h1, h2⟩ := ha
  obtain ⟨q, h3, h4⟩ := h
  have e : p = .str z := by
    simp only [pyQ] at h1
    cases h1
    rfl
  subst e
  refine ⟨.list [.str z, q], by simp only [pyQ, pyQs, h3, Option.bind_some, Option.map_some], (Sq.list (SqA.cons h2 (SqA.cons h4 SqA.nil))).mono ?_ (by omega)⟩
  simp only [List.length_cons, List.length_nil]
  omega
theorem rq_repr {e : E} {n k : Nat} (h : Rq e n k) (hn : n ≤ 1000000) (hk : k ≤ 40) : ∃ z, ∀ W, oReprA [e] W = some (.str z) := by
  obtain ⟨p, h1, h2⟩ := h
  refine ⟨p.shown, fun W => ?_⟩
  unfold oReprA
  dsimp only
  rw [h1]
  show (if _ then _ else _) = _
  rw [if_pos ⟨h2.s, Nat.le_trans h2.dp hk, Nat.le_trans h2.l hn⟩]
theorem rq_rs {e : E} : ∃ n : Nat, ∀ W z, oReprA [e] W = some (.str z) → oLenS [.str z] W = some (.int (n : Nat)) := by
  cases h : pyQ e with
  | none =>
    refine ⟨0, fun W z q => ?_⟩
    unfold oReprA at q
    dsimp only at q
    rw [h] at q
    cases q
  | some p =>
    refine ⟨p.shown.length, fun W z q => ?_⟩
    unfold oReprA at q
    dsimp only at q
    rw [h, Option.bind_some] at q
    split at q
    · rename_i hh
      cases q
      exact lenS_go (by omega)
    · cases q
theorem isi_txt {z : Str} {W : WE} : oIsi csL [.str z, .ty "int"] W = some (.bl false) := rfl
theorem th_txt {cs : List Nat} (hl : cs.length ≤ 100) (ha : ∀ c ∈ cs, c < 128) : Th (.str (mkS cs)) (digL cs 0) where
  lt d h := digL_8 (by decide) h
  il W := letters_txt (by omega) ha
  dg W := digit_txt (by omega)
  nR W := rfl
  eq W := by exact rfl
  ct := ⟨inV (V.str (mkS cs)) [V.str "r", V.str "x"], fun W => by simp only [RE, wrd_5]; exact rfl, fun W => by exact rfl⟩
  rp := rq_repr (rq_str (asc_m ha) (by rw [len_mk]; omega)) (by decide) (by decide)
  rs := rq_rs
  rr := rq_repr (rq_two (rq_str (by decide +kernel) (by decide +kernel)) (rq_str (asc_m ha) (by rw [len_mk]; omega))) (by decide) (by decide)
  ri := rq_repr (rq_two (rq_str (by decide +kernel) (by decide +kernel)) (rq_str (asc_m ha) (by rw [len_mk]; omega))) (by decide) (by decide)
  nf := rfl
  an := rfl
  wh := .inr ⟨fun env W => rfl, fun W => by
    unfold f_Rights_from_digit b_Rights_from_digit
    simp_arith [isi_txt]⟩
def oddL : List E := [.non, .bl true, .bl false, .int 0, .int (-1), .int 8, .int 100000000000000000000000000000, .str "", .str "root", .str "R", .str "rr", .str "rwxr", .str "A", .str "toolonganame", .lst [], .lst [.int 1], .dic [], .dic [(.inr "a", .int 1)], .tup [], .tup [.str "a", .str "b"], .lst [.str "7", .str "5", .str "0"], .str "/", .str "//", .str "r w", .str "7777", .str "888", .str " ", .str "a/b", .int 7, .str "rwx\n"]
def chkT (x : E) : Bool := nfE x && (anyE "Rights" x && (rqB 3000 5 x && (rqB 3000 5 (.lst [.str "rights", x]) && rqB 3000 5 (.lst [.str "integer", x]))))
theorem th_mk {x : E} {b : Bool} (h : chkT x = true) (il : ∀ W, f_law_is_letters [x] W = .ret (.bl false) W) (dg : ∀ W, f_digit_of [x] W = .ret .non W) (nR : ∀ W, oIsi csL [x, .fn "Rights"] W = some (.bl false)) (eq : ∀ W, oEqC tbl_1 (RE 5) x W = some (.bl false))
    (c1 : ∀ W, f_Rights_contains [RE 5, x] W = .ret (.bl b) W) (c2 : ∀ W, oInY false x (.lst [.str "r", .str "x"]) W = some (.bl b))
    (wh : ((∀ env W, wT (.pl x :: env) W = .ret (.bl true) W) ∧ ∃ d < 8, x = .int (d : Nat)) ∨ ((∀ env W, wT (.pl x :: env) W = .ret (.bl false) W) ∧ ∀ W, f_Rights_from_digit [.fn "Rights", x] W = .exc "InvalidInteger" [("value", x)] W)) : Th x none := by
  unfold chkT at h
  simp only [Bool.and_eq_true] at h
  obtain ⟨h1, h2, h3, h4, h5⟩ := h
  exact { lt := fun d z => (by cases z), il := il, dg := dg, nR := nR, eq := eq, ct := ⟨b, c1, c2⟩, rp := rq_repr (rq_b h3) (by decide) (by decide), rs := rq_rs, rr := rq_repr (rq_b h4) (by decide) (by decide), ri := rq_repr (rq_b h5) (by decide) (by decide), nf := h1, an := h2, wh := wh }
theorem th_no {x : E} (h : chkT x = true) (il : ∀ W, f_law_is_letters [x] W = .ret (.bl false) W) (dg : ∀ W, f_digit_of [x] W = .ret .non W) (nR : ∀ W, oIsi csL [x, .fn "Rights"] W = some (.bl false)) (eq : ∀ W, oEqC tbl_1 (RE 5) x W = some (.bl false))
    (c1 : ∀ W, f_Rights_contains [RE 5, x] W = .ret (.bl false) W) (c2 : ∀ W, oInY false x (.lst [.str "r", .str "x"]) W = some (.bl false))
    (w : ∀ env W, wT (.pl x :: env) W = .ret (.bl false) W) (f : ∀ W, f_Rights_from_digit [.fn "Rights", x] W = .exc "InvalidInteger" [("value", x)] W) : ∃ g, Th x g := ⟨none, th_mk h il dg nR eq c1 c2 (.inr ⟨w, f⟩)⟩
theorem th_in {d : Nat} (hd : d < 8) (h : chkT (.int (d : Nat)) = true) (w : ∀ env W, wT (.pl (.int (d : Nat)) :: env) W = .ret (.bl true) W) : Th (.int (d : Nat)) none :=
  th_mk (b := false) h (fun W => by exact rfl) (fun W => by exact rfl) (fun W => by exact rfl) (fun W => by exact rfl) (fun W => by exact rfl) (fun W => by exact rfl) (.inl ⟨w, d, hd, rfl⟩)
theorem oddL_ok : ∀ x ∈ oddL, ∃ g, Th x g := by
  intro x hx
  simp only [oddL, List.mem_cons, List.not_mem_nil, or_false] at hx
  rcases hx with rfl | rfl | rfl | rfl | rfl | rfl | rfl | rfl | rfl | rfl | rfl | rfl | rfl | rfl | rfl | rfl | rfl | rfl | rfl | rfl | rfl | rfl | rfl | rfl | rfl | rfl | rfl | rfl | rfl | rfl
  case inr.inr.inr.inl => exact ⟨none, th_in (d := 0) (by decide) (by kernel_rfl) (fun env W => by kernel_rfl)⟩
  case inr.inr.inr.inr.inr.inr.inr.inl => exact ⟨_, by rw [show ("" : Str) = mkS [] by decide +kernel]; exact th_txt (by decide) (by decide)⟩
  case inr.inr.inr.inr.inr.inr.inr.inr.inr.inr.inr.inr.inr.inr.inr.inr.inr.inr.inr.inr.inr.inr.inr.inr.inr.inr.inr.inr.inl => exact ⟨none, th_in (d := 7) (by decide) (by kernel_rfl) (fun env W => by kernel_rfl)⟩
  all_goals exact th_no (by kernel_rfl) (fun W => by kernel_rfl) (fun W => by kernel_rfl) (fun W => by kernel_rfl) (fun W => by kernel_rfl) (fun W => by kernel_rfl) (fun W => by kernel_rfl) (fun env W => by kernel_rfl) (fun W => by kernel_rfl)
structure It (x : E) (g : Option Nat) : Prop where
  lt : ∀ d, g = some d → d < 8
  cs : (∃ d, x = RE d ∧ g = some d) ∨ ((∀ W, oIsi csL [x, .fn "Rights"] W = some (.bl false)) ∧ ∀ W, f_digit_of [x] W = .ret (digE g) W)
theorem Th.it {x : E} {g : Option Nat} (h : Th x g) : It x g := ⟨h.lt, .inr ⟨h.nR, h.dg⟩⟩
theorem it_R {d : Nat} (h : d < 8) : It (RE d) (some d) := ⟨fun e z => by cases z; exact h, .inl ⟨d, rfl, rfl⟩⟩
theorem it_w {d : Nat} (h : d < 8) : It (.str (wrd d)) (some d) := ⟨fun e z => by cases z; exact h, .inr ⟨fun W => rfl, fun W => digit_of_w h⟩⟩
def ofL : List (E × Option Nat) → Nat → E ⊕ Nat
  | [], a => .inr a
  | (x, none) :: _, _ => .inl x
  | (_, some d) :: r, a => ofL r (a ||| d)
def b_ofB : S3 := (s3Seq (s3Asg (e3If (b3T (e3CB (oIsi csL) (a3Cons (e3Var 3) (a3Cons (e3C (.fn "Rights")) a3Nil)))) (e3Prop "Rights" (calmF f_Rights_digit) (e3Var 3)) (e3Call (calmF f_digit_of) (a3Cons (e3Var 3) a3Nil))) (g3Name 4))
        (s3Seq (s3If (b3T (e3Op (oIsN false) (e3Var 4) (e3C .non)))
          (s3Raise "InvalidRights" "value" (e3Var 3))
          s3Nx)
        (s3Aug 2 (e3Var 4) oOr)))
theorem of_eq : b_Rights_of = (s3Seq (s3Asg (e3C (.int (0))) (g3Name 2))
      (s3Seq (s3For (a3TupI (e3Var 1)) (g3Name 3) b_ofB)
      (s3Ret (e3MakeV 0 "Rights" (dflFi [] f_Rights_init) (a3Cons (e3Op oIxT (e3C (.tup [(.str ""), (.str "x"), (.str "w"), (.str "wx"), (.str "r"), (.str "rx"), (.str "rw"), (.str "rwx")])) (e3Var 2)) a3Nil))))) := by
  unfold b_Rights_of b_ofB
  exact rfl
theorem isN_dg {d : Nat} {W : WE} : oIsN false (.int (d : Nat)) .non W = some (.bl false) := rfl
theorem isN_no {W : WE} : oIsN false .non .non W = some (.bl true) := rfl
theorem it_step {x t : E} {g : Option Nat} {a : Nat} {s4 : Sl} {W : WE} (ha : a < 8) (h : It x g) : b_ofB [.pl (.fn "Rights"), .pl t, .pl (.int (a : Nat)), .pl x, s4] W = match (generalizing := false) g with
    | some d => .ret (.nx [.pl (.fn "Rights"), .pl t, .pl (.int ((a ||| d : Nat) : Int)), .pl x, .pl (.int (d : Nat))]) W
    | none => .exc "InvalidRights" [("value", x)] W := by
  rcases h.cs with ⟨d, rfl, rfl⟩ | ⟨h1, h2⟩
  · have h8 := h.lt d rfl
    show _ = Tr.ret (Out.nx [.pl (.fn "Rights"), .pl t, .pl (.int ((a ||| d : Nat) : Int)), .pl (RE d), .pl (.int (d : Nat))]) W
    rw [← borN a ha d h8]
    unfold b_ofB
    rfl
  · cases g with
    | none =>
      unfold b_ofB
      simp_arith [h1 W, h2 W, digE, isN_no]
    | some d =>
      unfold b_ofB
      simp_arith [h1 W, h2 W, digE, isN_dg, lor_go ha (h.lt d rfl)]
theorem of_loop2 {W : WE} : ∀ {xs : List (E × Option Nat)} {a : Nat} {t : E} {s3 s4 : Sl}, a < 8 → (∀ p ∈ xs, It p.1 p.2) → ∃ s3' s4', forT (g3Name 3) b_ofB (xs.map (·.1)) [.pl (.fn "Rights"), .pl t, .pl (.int (a : Nat)), s3, s4] W = match ofL xs a with
    | .inl x => .exc "InvalidRights" [("value", x)] W
    | .inr d => .ret (.nx [.pl (.fn "Rights"), .pl t, .pl (.int (d : Nat)), s3', s4']) W
  | [], a, t, s3, s4, ha, h => ⟨s3, s4, rfl⟩
  | (x, g) :: xs, a, t, s3, s4, ha, h => by
    have hx := h _ (List.mem_cons_self ..)
    have st := it_step (t := t) (s4 := s4) (W := W) ha hx
    have gg : (g3Name 3) x [.pl (.fn "Rights"), .pl t, .pl (.int (a : Nat)), s3, s4] W = .ret [.pl (.fn "Rights"), .pl t, .pl (.int (a : Nat)), .pl x, s4] W := rfl
    cases g with
    | none =>
      refine ⟨.no, .no, ?_⟩
      rw [show ofL ((x, none) :: xs) a = .inl x from rfl, List.map_cons, forT, gg]
      show (Tr.bind (b_ofB _ W) _) = _
      rw [st]
      rfl
    | some d =>
      obtain ⟨s3', s4', e⟩ := of_loop2 (xs := xs) (a := a ||| d) (t := t) (s3 := .pl x) (s4 := .pl (.int (d : Nat))) (or_lt ha (hx.lt d rfl)) fun p hp => h p (List.mem_cons_of_mem _ hp)
      refine ⟨s3', s4', ?_⟩
      rw [show ofL ((x, some d) :: xs) a = ofL xs (a ||| d) from rfl, ← e, List.map_cons, forT, gg]
      show (Tr.bind (b_ofB _ W) _) = _
      rw [st]
      rfl
theorem ofL_8 : ∀ {xs : List (E × Option Nat)} {a d : Nat}, a < 8 → (∀ p ∈ xs, It p.1 p.2) → ofL xs a = .inr d → d < 8
  | [], a, d, ha, h, e => by
    cases e
    exact ha
  | (x, none) :: xs, a, d, ha, h, e => by cases e
  | (x, some n) :: xs, a, d, ha, h, e => ofL_8 (xs := xs) (or_lt ha ((h _ (List.mem_cons_self ..)).lt n rfl)) (fun p hp => h p (List.mem_cons_of_mem _ hp)) e
theorem of_any {xs : List (E × Option Nat)} (hl : xs.length ≤ 1000) (h : ∀ p ∈ xs, It p.1 p.2) {W : WE} : f_Rights_of [.fn "Rights", .tup (xs.map (·.1))] W = match ofL xs 0 with
    | .inl x => .exc "InvalidRights" [("value", x)] W
    | .inr d => .ret (RE d) W := by
  unfold f_Rights_of
  rw [of_eq]
  obtain ⟨s3', s4', e⟩ := of_loop2 (W := W) (t := .tup (xs.map (·.1))) (s3 := .no) (s4 := .no) (a := 0) (by decide) h
  have e : forT (g3Name 3) b_ofB (xs.map (·.1)) [.pl (.fn "Rights"), .pl (.tup (xs.map (·.1))), .pl (.int 0), .no, .no] W = _ := e
  cases q : ofL xs 0 with
  | inl x =>
    rw [q] at e
    simp_arith [e]
  | inr d =>
    rw [q] at e
    have h8 := ofL_8 (by decide) h q
    simp_arith [e]
    rw [words_at h8, ofO_some]
    simp_arith [dflFi, List.append_nil, make_R h8]
    rfl
theorem make_no {x : E} (h : Th x none) {W : WE} : f_Rights_init [x] W = .exc "InvalidRights" [("value", x)] W := by
  unfold f_Rights_init b_Rights_init
  simp_arith [h.dg W, digE, isN_no]
theorem make_yes {x : E} {d : Nat} (h : Th x (some d)) {W : WE} : f_Rights_init [x] W = .ret [("own_digit", .int (d : Nat)), ("own_letters", .lst (sgE (wrd d)))] W := by
  have h8 := h.lt d rfl
  unfold f_Rights_init b_Rights_init
  simp_arith [h.dg W, digE, isN_dg, words_at h8, oListS, if_pos (wrd_16 h8)]
theorem q_binA {C : String} {f : F3} {a b : E3} {env : En3} {W : WE} : e3BinA C f a b env W = (a env W).bind fun x W1 => (b env W1).bind fun y W2 => (ofO (isObjE C (vE W2 x)) W2).bind fun u W2 => if anyE C y = true then f [x, y] W2 else .stuck := rfl
theorem vE_R {d : Nat} {W : WE} : vE W (RE d) = RE d := rfl
theorem isObj_R {d : Nat} : isObjE "Rights" (RE d) = some ([("own_digit", E.int (d : Nat)), ("own_letters", E.lst (sgE (wrd d)))] : List (Str × E)) := rfl
theorem lkc_R {d : Nat} : ([("own_digit", E.int (d : Nat)), ("own_letters", E.lst (sgE (wrd d)))] : List (Str × E)).lookup ("covers" : Str) = none := by simp (config := { decide := true }) only [lk_cons, lk_nil, ↓reduceIte]
theorem lkd_R {d : Nat} : ([("own_digit", E.int (d : Nat)), ("own_letters", E.lst (sgE (wrd d)))] : List (Str × E)).lookup ("own_digit" : Str) = some (.int (d : Nat)) := rfl
section
variable {x : E} {g : Option Nat} {W : WE}
theorem sign_no (h : Th x g) {d i : Nat} (hi : i < 5) : f_law_sign [RE d, x, .int (i : Nat)] W = .exc "InvalidRights" [("value", x)] W := by
  have o1 : f_Rights_or [RE d, x] W = .exc "InvalidRights" [("value", x)] W := by
    unfold f_Rights_or b_Rights_or
    simp_arith [h.nR W]
  have o2 : f_Rights_and [RE d, x] W = .exc "InvalidRights" [("value", x)] W := by
    unfold f_Rights_and b_Rights_and
    simp_arith [h.nR W]
  have o3 : f_Rights_sub [RE d, x] W = .exc "InvalidRights" [("value", x)] W := by
    unfold f_Rights_sub b_Rights_sub
    simp_arith [h.nR W]
  have o4 : f_Rights_xor [RE d, x] W = .exc "InvalidRights" [("value", x)] W := by
    unfold f_Rights_xor b_Rights_xor
    simp_arith [h.nR W]
  have o5 : f_bits_of [x] W = .exc "InvalidRights" [("value", x)] W := by
    unfold f_bits_of b_bits_of
    simp_arith [h.nR W]
  have o6 : f_Rights_covers [RE d, x] W = .exc "InvalidRights" [("value", x)] W := by
    unfold f_Rights_covers b_Rights_covers
    simp_arith [vE_R, isObj_R, lkd_R, o5]
  unfold f_law_sign b_law_sign
  match i, hi with
  | 0, _ => simp_arith [vEq_int, q_binA, vE_R, isObj_R, h.an, o1]
  | 1, _ => simp_arith [vEq_int, q_binA, vE_R, isObj_R, h.an, o2]
  | 2, _ => simp_arith [vEq_int, q_binA, vE_R, isObj_R, h.an, o3]
  | 3, _ => simp_arith [vEq_int, q_binA, vE_R, isObj_R, h.an, o4]
  | 4, _ => simp_arith [vE_R, isObj_R, lkc_R, o6]
theorem make_s {d : Nat} (h : d < 8) {z : Str} (e : z = wrd d) : f_Rights_init [.str z] W = .ret [("own_digit", .int (d : Nat)), ("own_letters", .lst (sgE (wrd d)))] W := by
  rw [e]
  exact make_R h
theorem m_rx : f_Rights_init [.str "rx"] W = .ret [("own_digit", .int 5), ("own_letters", .lst (sgE (wrd 5)))] W := make_s (d := 5) (by decide) wrd_5.symm
theorem m_rwx : f_Rights_init [.str "rwx"] W = .ret [("own_digit", .int 7), ("own_letters", .lst (sgE (wrd 7)))] W := make_s (d := 7) (by decide) wrd_7.symm
theorem m_e : f_Rights_init [.str ""] W = .ret [("own_digit", .int 0), ("own_letters", .lst (sgE (wrd 0)))] W := make_s (d := 0) (by decide) wrd_0.symm
theorem ask_sign (h : Th x g) {i : Nat} (hi : i < 5) : f_law_ask [.int (i : Nat), x] W = .exc "InvalidRights" [("value", x)] W := by
  obtain ⟨z, hz⟩ := h.rp
  obtain ⟨n, hn⟩ := h.rs
  have hn := hn W z (hz W)
  have md : oMod (.int (n : Nat)) (.int 3) W = some (.int ((n % 3 : Nat) : Int)) := by
    rw [mod_go (by decide)]
    rfl
  have lt : decide (((i : Nat) : Int) < 5) = true := decide_eq_true (by omega)
  have ix : ∃ d, oIxL (.lst [.obj "Rights" [("own_digit", .int 5), ("own_letters", .lst (sgE (wrd 5)))], .obj "Rights" [("own_digit", .int 7), ("own_letters", .lst (sgE (wrd 7)))], .obj "Rights" [("own_digit", .int 0), ("own_letters", .lst (sgE (wrd 0)))]]) (.int ((n % 3 : Nat) : Int)) W = some (RE d) := by
    have : n % 3 < 3 := Nat.mod_lt _ (by decide)
    generalize n % 3 = k at this
    match k, this with
    | 0, _ => exact ⟨5, rfl⟩
    | 1, _ => exact ⟨7, rfl⟩
    | 2, _ => exact ⟨0, rfl⟩
  obtain ⟨d, ix⟩ := ix
  unfold f_law_ask b_law_ask
  simp_arith [lt, dflFi, List.append_nil, List.nil_append, m_rx, m_rwx, m_e, hz W, hn, md, ix, sign_no h hi]
theorem of1 {y : E} {k : Option Nat} (h : It y k) : f_Rights_of [.fn "Rights", .tup [y]] W = match ofL [(y, k)] 0 with
    | .inl x => .exc "InvalidRights" [("value", x)] W
    | .inr d => .ret (RE d) W := of_any (xs := [(y, k)]) (by simp only [List.length_cons, List.length_nil]; decide) (by simpa using h)
theorem of3 {y1 y2 y3 : E} {k1 k2 k3 : Option Nat} (h1 : It y1 k1) (h2 : It y2 k2) (h3 : It y3 k3) : f_Rights_of [.fn "Rights", .tup [y1, y2, y3]] W = match ofL [(y1, k1), (y2, k2), (y3, k3)] 0 with
    | .inl x => .exc "InvalidRights" [("value", x)] W
    | .inr d => .ret (RE d) W := of_any (xs := [(y1, k1), (y2, k2), (y3, k3)]) (by simp only [List.length_cons, List.length_nil]; decide) (by simpa using ⟨h1, h2, h3⟩)
theorem it_r : It (.str "r") (some 4) := by
  have := it_w (d := 4) (by decide)
  rw [wrd_4] at this
  exact this
theorem it_x : It (.str "x") (some 1) := by
  have := it_w (d := 1) (by decide)
  rw [wrd_1] at this
  exact this
theorem ask_no (h : Th x none) {i : Nat} (hi : i < 9) : f_law_ask [.int (i : Nat), x] W = .exc "InvalidRights" [("value", x)] W := by
  by_cases h5 : i < 5
  · exact ask_sign h h5
  have o1 := of1 (W := W) h.it
  have e1 : ofL [(x, none)] 0 = .inl x := rfl
  rw [e1] at o1
  have o3 := of3 (W := W) it_r (it_R (d := 0) (by decide)) h.it
  have e3 : ofL [(E.str "r", some 4), (RE 0, some 0), (x, none)] 0 = .inl x := rfl
  rw [e3] at o3
  have o3 : f_Rights_of [.fn "Rights", .tup [.str "r", .obj "Rights" [("own_digit", .int 0), ("own_letters", .lst (sgE (wrd 0)))], x]] W = _ := o3
  have ar : f_as_rights [x] W = .exc "InvalidRights" [("value", x)] W := by
    unfold f_as_rights b_as_rights
    simp_arith [List.take_succ_cons, List.take_zero, List.drop_succ_cons, List.drop_zero, o1]
  obtain ⟨j, rfl⟩ : ∃ j, i = 5 + j := ⟨i - 5, by omega⟩
  unfold f_law_ask b_law_ask
  match j, (show j < 4 by omega) with
  | 0, _ => simp_arith [vEq_int, dflFi, List.append_nil, List.nil_append, make_no h]
  | 1, _ => simp_arith [vEq_int, ar]
  | 2, _ => simp_arith [vEq_int, List.take_succ_cons, List.take_zero, List.drop_succ_cons, List.drop_zero, o1]
  | 3, _ => simp_arith [vEq_int, dflFi, List.append_nil, List.nil_append, m_e, List.take_succ_cons, List.take_zero, List.drop_succ_cons, List.drop_zero, o3]
theorem ask_yes {d : Nat} (h : Th x (some d)) {i : Nat} (hi : i < 9) (h5 : 5 ≤ i) : ∃ y, ∀ W, f_law_ask [.int (i : Nat), x] W = .ret y W := by
  have o1 : ∀ W, f_Rights_of [.fn "Rights", .tup [x]] W = .ret (RE (0 ||| d)) W := fun W => of1 (W := W) h.it
  have o3 : ∀ W, f_Rights_of [.fn "Rights", .tup [.str "r", .obj "Rights" [("own_digit", .int 0), ("own_letters", .lst (sgE (wrd 0)))], x]] W = .ret (RE (0 ||| 4 ||| 0 ||| d)) W := fun W => of3 (W := W) it_r (it_R (d := 0) (by decide)) h.it
  have ar : ∀ W, f_as_rights [x] W = .ret (RE (0 ||| d)) W := fun W => by
    unfold f_as_rights b_as_rights
    simp_arith [List.take_succ_cons, List.take_zero, List.drop_succ_cons, List.drop_zero, o1 W]
  obtain ⟨j, rfl⟩ : ∃ j, i = 5 + j := ⟨i - 5, by omega⟩
  unfold f_law_ask b_law_ask
  match j, (show j < 4 by omega) with
  | 0, _ => exact ⟨RE d, fun W => by
    simp_arith [vEq_int, dflFi, List.append_nil, List.nil_append, make_yes h]
    rfl⟩
  | 1, _ => exact ⟨_, fun W => by simp_arith [vEq_int, ar W]; rfl⟩
  | 2, _ => exact ⟨_, fun W => by simp_arith [vEq_int, List.take_succ_cons, List.take_zero, List.drop_succ_cons, List.drop_zero, o1 W]; rfl⟩
  | 3, _ => exact ⟨_, fun W => by simp_arith [vEq_int, dflFi, List.append_nil, List.nil_append, m_e, List.take_succ_cons, List.take_zero, List.drop_succ_cons, List.drop_zero, o3 W]; rfl⟩
theorem ask_9 (h : Th x g) : ((∀ env W, wT (.pl x :: env) W = .ret (.bl true) W) ∧ ∃ y, ∀ W, f_law_ask [.int 9, x] W = .ret y W) ∨ ((∀ env W, wT (.pl x :: env) W = .ret (.bl false) W) ∧ ∀ W, f_law_ask [.int 9, x] W = .exc "InvalidInteger" [("value", x)] W) := by
  unfold f_law_ask b_law_ask
  rcases h.wh with ⟨h1, d, h2, rfl⟩ | ⟨h1, h2⟩
  · exact .inl ⟨h1, RE d, fun W => by simp_arith [vEq_int, from_digit_R h2]⟩
  · exact .inr ⟨h1, fun W => by simp_arith [vEq_int, h2 W]⟩
end
theorem i00_go {e : E} {r : List E} {W : WE} : oIxL (.lst (e :: r)) (.int 0) W = some e := ixl_nat (r := 0) rfl
theorem int1_f : vInt1 [.bl false] = some (.int 0) := rfl
theorem lam_sa {fT : Addr → (Fr.WE → Tr E) → F3} {m : E3} {env : En3} {W : WE} {Q : E → WE → Prop} {X : XE} (h : ∀ f, Sa (fT f (fun W' => m env W') [.ety f] W) Q (fun _ _ _ => False)) : Sa (e3Lam fT m env W) Q X := .of fun i => (calm_sa (h i.toNat)).to
theorem isEty_c {p : Addr} : isEty p (.ety p) = some () := if_pos rfl
section
variable {f : Addr} {θ : Fr.WE → Tr E} {x : E} {W : WE} {Q : E → WE → Prop} {X : XE}
theorem caught_rights (h : ∀ W, θ W = .exc "InvalidRights" [("value", x)] W) (q : Q (.lst [.str "rights", x]) W) : Sa (f_law_caught f θ [.ety f] W) Q X := by
  unfold f_law_caught b_law_caught
  have e : ∀ s1 s2 W, e3Thk 0 f θ [.pl (.ety f), s1, s2] W = .exc "InvalidRights" [("value", x)] W := fun s1 s2 W => by
    unfold e3Thk
    show (if f = f then θ W else .stuck) = _
    rw [if_pos rfl, h]
  simp_arith [e]
  simp only [sa_bnd]
  refine hd3_sa (by decide +kernel) fun p => ?_
  simp_arith [gon3, isEty_c, clsE, int1_f, i00_go, show subAny subT "InvalidRights" [.fn "InvalidInteger", .fn "MissingError", .fn "RefusedError"] = some false by decide +kernel]
  exact q
theorem caught_int (h : ∀ W, θ W = .exc "InvalidInteger" [("value", x)] W) (q : Q (.lst [.str "integer", x]) W) : Sa (f_law_caught f θ [.ety f] W) Q X := by
  unfold f_law_caught b_law_caught
  have e : ∀ s1 s2 W, e3Thk 0 f θ [.pl (.ety f), s1, s2] W = .exc "InvalidInteger" [("value", x)] W := fun s1 s2 W => by
    unfold e3Thk
    show (if f = f then θ W else .stuck) = _
    rw [if_pos rfl, h]
  simp_arith [e]
  simp only [sa_bnd]
  rw [hd3_no (by decide +kernel)]
  refine hd3_sa (by decide +kernel) fun p => ?_
  simp_arith [gon3, isEty_c, clsE, int1_f, i00_go, show subAny subT "InvalidInteger" [.fn "MissingError", .fn "RefusedError"] = some false by decide +kernel]
  exact q
theorem caught_told (h : ∀ W, θ W = .ret x W) (q : Q (.lst [.str "told", x]) W) : Sa (f_law_caught f θ [.ety f] W) Q X := by
  unfold f_law_caught b_law_caught
  have e : ∀ s1 s2 W, e3Thk 0 f θ [.pl (.ety f), s1, s2] W = .ret x W := fun s1 s2 W => by
    unfold e3Thk
    show (if f = f then θ W else .stuck) = _
    rw [if_pos rfl, h]
  simp_arith [e]
  exact q
end
def b_rt3 : S3 := (s3Seq (s3Asg wT (g3Name 7))
      (s3Seq (s3Asg (e3Lam f_law_caught (e3Call f_law_ask (a3Cons (e3C (.int (9))) (a3Cons (e3Var 0) a3Nil)))) (g3Name 4))
      (s3Ret (e3If (b3T (e3Var 7)) (e3Op oEq (e3Op oIxL (e3Var 4) (e3C (.int (0)))) (e3C (.str "told"))) (e3Call (calmF f_law_same) (a3Cons (e3Var 4) (a3Cons (e3Lst (a3Cons (e3C (.str "integer")) (a3Cons (e3Var 0) a3Nil))) a3Nil)))))))
def b_rt2 : S3 := (s3Seq (s3Asg (e3Lc (a3List (e3Lst (a3Cons (e3Var 0) (a3Cons (e3Var 1) a3Nil)))) (g3Name 6) (b3Not (b3T (e3Call (calmF f_law_is_letters) (a3Cons (e3Var 6) a3Nil)))) (e3Var 6) [6]) (g3Name 5))
      (s3Seq (s3Asg (e3Lam f_law_caught (e3CMeth "Rights" (starF 1 f_Rights_of) (e3C (.fn "Rights")) (a3Cons (e3C (.str "x")) (a3Cons (e3Var 0) (a3Cons (e3Var 1) a3Nil))))) (g3Name 4))
      (s3Seq (s3If (b3Or (b3And (b3T (e3Op (oEqL (!·) tbl_1) (e3Var 5) (e3Lst a3Nil))) (b3Not (b3T (e3Call (calmF f_law_same) (a3Cons (e3Var 4) (a3Cons (e3Lst (a3Cons (e3C (.str "rights")) (a3Cons (e3Op oIxL (e3Var 5) (e3C (.int (0)))) a3Nil))) a3Nil)))))) (b3And (b3T (e3Op (oEqL id tbl_1) (e3Var 5) (e3Lst a3Nil))) (b3T (e3Op oNe (e3Op oIxL (e3Var 4) (e3C (.int (0)))) (e3C (.str "told"))))))
        (s3Ret (e3C (.bl false)))
        s3Nx)
      b_rt3)))
theorem right_eq : b_law_right = (s3Seq (s3Asg (e3Call (calmF f_law_is_letters) (a3Cons (e3Var 0) a3Nil)) (g3Name 2))
      (s3Seq (s3If (b3T (e3Op oNe (e3CB oReprA (a3Cons (e3Lst (a3Cons (e3Call (calmF f_is_rights) (a3Cons (e3Var 0) a3Nil)) (a3Cons (e3Op (oEqC tbl_1) (e3Make "Rights" (calmFi (dflFi [] f_Rights_init)) (a3Cons (e3C (.str "rx")) a3Nil)) (e3Var 0)) (a3Cons (e3InO "Rights" (calmF f_Rights_contains) id (e3Var 0) (e3Make "Rights" (calmFi (dflFi [] f_Rights_init)) (a3Cons (e3C (.str "rx")) a3Nil))) a3Nil)))) a3Nil)) (e3CB oReprA (a3Cons (e3Lst (a3Cons (e3Var 2) (a3Cons (e3C (.bl false)) (a3Cons (e3Op (oInY false) (e3Var 0) (e3Lst (a3Cons (e3C (.str "r")) (a3Cons (e3C (.str "x")) a3Nil)))) a3Nil)))) a3Nil))))
        (s3Ret (e3C (.bl false)))
        s3Nx)
      (s3Seq (s3For (a3Rng1 (a3Cons (e3C (.int (9))) a3Nil)) (g3Name 3)
        l_law_right_1)
      b_rt2))) := by
  unfold b_law_right b_rt2 b_rt3 wT
  exact rfl
section
variable {x y : E} {g k : Option Nat} {W : WE} {X : XE}
theorem same_go {z : Str} {e : E} (h : ∀ W, oReprA [e] W = some (.str z)) : f_law_same [e, e] W = .ret (.bl true) W := by
  have ds : decide (z = z) = true := decide_eq_true rfl
  unfold f_law_same b_law_same
  simp_arith [h W, vEq_str, ds]
theorem i0_go {z : Str} {e : E} : oIxL (.lst [.str z, e]) (.int 0) W = some (.str z) := rfl
theorem told_d : decide (("told" : Str) = ("told" : Str)) = true := decide_eq_true rfl
theorem rt3_sa {Q : Out → WE → Prop} (hx : Th x g) {s1 s2 s3 s4 s5 s6 s7 : Sl} (q : Q (.rt (.bl true)) W) : Sa (b_rt3 [.pl x, s1, s2, s3, s4, s5, s6, s7] W) Q X := by
  unfold b_rt3
  rcases ask_9 hx with ⟨h1, y, h2⟩ | ⟨h1, h2⟩
  · simp_arith [h1]
    simp only [sa_bnd]
    refine lam_sa fun f => caught_told (x := y) (fun W => ?_) ?_
    · simp_arith [h2]
    · simp_arith [i0_go, vEq_str, told_d]
      exact q
  · obtain ⟨z, hz⟩ := hx.ri
    simp_arith [h1]
    simp only [sa_bnd]
    refine lam_sa fun f => caught_int (x := x) (fun W => ?_) ?_
    · simp_arith [h2]
    · simp_arith [same_go hz]
      exact q
theorem eqL_b {es : List E} {f : Bool → Bool} (h : nfEs es = true) : oEqL f tbl_1 (.lst es) (.lst []) W = some (.bl (f es.isEmpty)) := by
  unfold oEqL
  show (if nfEs es = true ∧ nfEs [] = true then _ else none) = _
  rw [if_pos ⟨h, rfl⟩]
  cases es <;> rfl
theorem rt2_sa {Q : Out → WE → Prop} (hx : Th x g) (hy : Th y k) {s2 s3 s4 s5 s6 s7 : Sl} (q : Q (.rt (.bl true)) W) : Sa (b_rt2 [.pl x, .pl y, s2, s3, s4, s5, s6, s7] W) Q X := by
  unfold b_rt2
  obtain ⟨zx, hzx⟩ := hx.rr
  obtain ⟨zy, hzy⟩ := hy.rr
  have o := fun W => of3 (W := W) it_x hx.it hy.it
  have n1 : nfEs [x] = true := by simp only [nfEs, hx.nf, Bool.and_self]
  have n2 : nfEs [y] = true := by simp only [nfEs, hy.nf, Bool.and_self]
  have n3 : nfEs [x, y] = true := by simp only [nfEs, hx.nf, hy.nf, Bool.and_self]
  have lx := hx.il W
  have ly := hy.il W
  cases g with
  | none =>
    cases k with
    | none =>
      have oo : ∀ W, f_Rights_of [.fn "Rights", .tup [.str "x", x, y]] W = .exc "InvalidRights" [("value", x)] W := o
      have a1 := eqL_b (W := W) (f := (!·)) n3
      have a2 := eqL_b (W := W) (f := id) n3
      simp_arith [lcT, lcStep, lx, ly, Option.isSome]
      simp only [sa_bnd]
      refine lam_sa fun f => caught_rights (x := x) (fun W => ?_) ?_
      · simp_arith [List.take_succ_cons, List.take_zero, List.drop_succ_cons, List.drop_zero, oo W]
      · simp_arith [a1, a2, List.isEmpty, i00_go, same_go hzx]
        exact rt3_sa hx q
    | some d =>
      have oo : ∀ W, f_Rights_of [.fn "Rights", .tup [.str "x", x, y]] W = .exc "InvalidRights" [("value", x)] W := o
      have a1 := eqL_b (W := W) (f := (!·)) n1
      have a2 := eqL_b (W := W) (f := id) n1
      simp_arith [lcT, lcStep, lx, ly, Option.isSome]
      simp only [sa_bnd]
      refine lam_sa fun f => caught_rights (x := x) (fun W => ?_) ?_
      · simp_arith [List.take_succ_cons, List.take_zero, List.drop_succ_cons, List.drop_zero, oo W]
      · simp_arith [a1, a2, List.isEmpty, i00_go, same_go hzx]
        exact rt3_sa hx q
  | some c =>
    cases k with
    | none =>
      have oo : ∀ W, f_Rights_of [.fn "Rights", .tup [.str "x", x, y]] W = .exc "InvalidRights" [("value", y)] W := o
      have a1 := eqL_b (W := W) (f := (!·)) n2
      have a2 := eqL_b (W := W) (f := id) n2
      simp_arith [lcT, lcStep, lx, ly, Option.isSome]
      simp only [sa_bnd]
      refine lam_sa fun f => caught_rights (x := y) (fun W => ?_) ?_
      · simp_arith [List.take_succ_cons, List.take_zero, List.drop_succ_cons, List.drop_zero, oo W]
      · simp_arith [a1, a2, List.isEmpty, i00_go, same_go hzy]
        exact rt3_sa hx q
    | some d =>
      have oo : ∀ W, f_Rights_of [.fn "Rights", .tup [.str "x", x, y]] W = .ret (RE (0 ||| 1 ||| c ||| d)) W := o
      have a1 := eqL_b (W := W) (es := []) (f := (!·)) rfl
      have a2 := eqL_b (W := W) (es := []) (f := id) rfl
      simp_arith [lcT, lcStep, lx, ly, Option.isSome]
      simp only [sa_bnd]
      refine lam_sa fun f => caught_told (x := RE (0 ||| 1 ||| c ||| d)) (fun W => ?_) ?_
      · simp_arith [List.take_succ_cons, List.take_zero, List.drop_succ_cons, List.drop_zero, oo W]
      · simp_arith [a1, a2, List.isEmpty, i0_go, vNe_str, told_d]
        exact rt3_sa hx q
theorem is_rights_th (h : Th x g) : f_is_rights [x] W = .ret (.bl g.isSome) W := by
  have t1 : oIsN true .non .non W = some (.bl false) := rfl
  have t2 : ∀ d : Nat, oIsN true (.int (d : Nat)) .non W = some (.bl true) := fun d => rfl
  have e : f_digit_in [x] W = .ret (digE g) W := by
    unfold f_digit_in b_digit_in
    simp_arith [h.nR W, h.dg W]
  unfold f_is_rights b_is_rights
  cases g with
  | none => simp_arith [e, digE, t1, Option.isSome]
  | some d => simp_arith [e, digE, t2, Option.isSome]
theorem rg9 {i : Nat} {e : E} (h : (rgE 0 (Int.toNat 9))[i]? = some e) : i < 9 ∧ e = .int (i : Nat) := by
  obtain ⟨h1, h2⟩ := List.getElem?_eq_some_iff.mp h
  unfold rgE at h1 h2
  rw [List.length_map, List.length_range] at h1
  rw [List.getElem_map, List.getElem_range] at h2
  exact ⟨by omega, by rw [← h2]; congr 1; omega⟩
theorem rb_go {a b : Bool} : ∃ z, ∀ W, oReprA [.lst [.bl a, .bl false, .bl b]] W = some (.str z) := by
  refine rq_repr (n := 3000) (k := 5) (rq_b ?_) (by decide) (by decide)
  cases a <;> cases b <;> decide +kernel
theorem right_sa {Q : E → WE → Prop} (hx : Th x g) (hy : Th y k) (q : Q (.bl true) W) : Sa (f_law_right [x, y] W) Q X := by
  unfold f_law_right
  rw [right_eq]
  obtain ⟨b, c1, c2⟩ := hx.ct
  have c1 : f_Rights_contains [.obj "Rights" [("own_digit", .int 5), ("own_letters", .lst (sgE (wrd 5)))], x] W = .ret (.bl b) W := c1 W
  have e1 : oEqC tbl_1 (.obj "Rights" [("own_digit", .int 5), ("own_letters", .lst (sgE (wrd 5)))]) x W = some (.bl false) := hx.eq W
  obtain ⟨z, hz⟩ := rb_go (a := g.isSome) (b := b)
  have ds : decide (z = z) = true := decide_eq_true rfl
  simp_arith [hx.il W, is_rights_th hx, dflFi, List.append_nil, m_rx, c1, c2 W, e1, hz W, vNe_str, ds, id_eq]
  simp only [sa_bnd]
  refine for_sa (I := fun j env W' => W' = W ∧ ∃ s3 s4, env = [.pl x, .pl y, .pl (.bl g.isSome), s3, s4, .no, .no, .no]) (k := 0) ⟨rfl, _, _, rfl⟩ (fun i e env W' he hI => ?_) (fun env W' hI => ?_)
  · obtain ⟨rfl, s3, s4, rfl⟩ := hI
    obtain ⟨hi, rfl⟩ := rg9 he
    obtain ⟨zx, hzx⟩ := hx.rr
    unfold l_law_right_1
    simp_arith []
    simp only [sa_bnd]
    cases g with
    | none =>
      refine lam_sa fun f => caught_rights (x := x) (fun W => ?_) ?_
      · simp_arith [ask_no hx hi]
      · by_cases h5 : i < 5
        · have lt : decide (((i : Nat) : Int) < 5) = true := decide_eq_true (by omega)
          simp_arith [lt, same_go hzx]
          exact ⟨_, _, rfl⟩
        · have lt : decide (((i : Nat) : Int) < 5) = false := decide_eq_false (by omega)
          simp_arith [lt, Option.isSome, same_go hzx]
          exact ⟨_, _, rfl⟩
    | some d =>
      by_cases h5 : i < 5
      · have lt : decide (((i : Nat) : Int) < 5) = true := decide_eq_true (by omega)
        refine lam_sa fun f => caught_rights (x := x) (fun W => ?_) ?_
        · simp_arith [ask_sign hx h5]
        · simp_arith [lt, same_go hzx]
          exact ⟨_, _, rfl⟩
      · have lt : decide (((i : Nat) : Int) < 5) = false := decide_eq_false (by omega)
        obtain ⟨v, hv⟩ := ask_yes hx hi (by omega)
        refine lam_sa fun f => caught_told (x := v) (fun W => ?_) ?_
        · simp_arith [hv]
        · simp_arith [lt, Option.isSome, i0_go, vNe_str, told_d]
          exact ⟨_, _, rfl⟩
  · obtain ⟨rfl, s3, s4, rfl⟩ := hI
    simp_arith []
    exact rt2_sa hx hy (by simp_arith []; exact q)
end
def sgnL : List Nat := [114, 119, 120, 82, 45, 55, 119, 114]
theorem sgn_tl : tl ("rwxR-7wr" : Str) = sgnL := by decide +kernel
theorem sgn_ix {r : Nat} (hr : r < 8) {W : WE} : ∃ c, c < 128 ∧ oIxS (.str "rwxR-7wr") (.int (r : Nat)) W = some (.str (mkS [c])) := by
  have hr : r < sgnL.length := hr
  refine ⟨sgnL[r], ?_, ixS_go (by decide +kernel) (by rw [sgn_tl]; exact List.getElem?_eq_getElem hr)⟩
  have : ∀ c ∈ sgnL, c < 128 := by decide
  exact this _ (List.getElem_mem hr)
theorem odd_sa {b : Addr} {n : Nat} {W : WE} {Q : E → WE → Prop} {X : XE} (hb : Bg b n W) (hn : n < 1000000) (h : ∀ x g, Th x g → ∀ W', Bg b (n + 1) W' → Fm b W W' → Q x W') : Sa (f_law_odd [.cel b] W) Q X := by
  unfold f_law_odd b_law_odd
  have p : ∀ W, oPow (.int 10) (.int 29) W = some (.int 100000000000000000000000000000) := fun W => by kernel_rfl
  have ng : ∀ W, oNeg (.int 1) W = some (.int (-1)) := fun W => rfl
  have dd : kvsE [(E.str "a", E.int 1)] = some [(.inr "a", E.int 1)] := rfl
  have mg : mergeE ([] : List (Key × E)) [((Sum.inr "a" : Key), E.int 1)] = ([((Sum.inr "a" : Key), E.int 1)] : List (Key × E)) := rfl
  have ct : ∀ W, oCat (.lst [.non, .bl true, .bl false, .int 0, .int (-1), .int 8, .int 100000000000000000000000000000, .str "", .str "root", .str "R", .str "rr", .str "rwxr", .str "A", .str "toolonganame", .lst [], .lst [.int 1], .dic []]) (.lst [.dic [(.inr "a", .int 1)], .tup [], .tup [.str "a", .str "b"], .lst [.str "7", .str "5", .str "0"], .str "/", .str "//", .str "r w", .str "7777", .str "888", .str " ", .str "a/b", .int 7, .str "rwx\n"]) W = some (.lst oddL) := fun W => by kernel_rfl
  simp_arith [p, ng, dd, mg, ct]
  simp only [sa_bnd]
  refine take_sa hb (by omega) (by decide) (by decide) fun r hr W1 hb1 fm1 => ?_
  have hr : r < 30 := hr
  obtain ⟨x, hx⟩ : ∃ x, oddL[r]? = some x := ⟨_, List.getElem?_eq_getElem (by show r < 30; exact hr)⟩
  have ix : oIxL (.lst oddL) (.int (r : Nat)) W1 = some x := ixl_nat hx
  simp_arith [ix]
  obtain ⟨g, hg⟩ := oddL_ok x (List.mem_of_getElem? hx)
  exact h x g hg W1 hb1 fm1
theorem th_s {z : Str} {cs : List Nat} (e : z = mkS cs) (hl : cs.length ≤ 100) (ha : ∀ c ∈ cs, c < 128) : Th (.str z) (digL cs 0) := by
  rw [e]
  exact th_txt hl ha
theorem th_w : Th (.str "w") (digL [119] 0) := th_s (by decide +kernel) (by decide) (by decide)
theorem th_rdx : Th (.str "r-x") (digL [114, 45, 120] 0) := th_s (by decide +kernel) (by decide) (by decide)
theorem th_ddx : Th (.str "--x") (digL [45, 45, 120] 0) := th_s (by decide +kernel) (by decide) (by decide)
theorem text_sa {b : Addr} {n m : Nat} {W : WE} {s0 s1 s3 s4 s5 s6 s7 s8 s9 s10 s11 s12 : Sl} {X : XE} (hb : Bg b n W) (hn : n < 990000) (hm : m < 6) :
    Sa (lcT (g3Name 5) b3Yes (e3Op oIxS (e3C (.str "rwxR-7wr")) (e3Call (calmF f3_take) (a3Cons (e3Var 2) (a3Cons (e3C (.int (8))) a3Nil)))) [s0, s1, .pl (.cel b), s3, s4, s5, s6, s7, s8, s9, s10, s11, s12] (rgE 0 (Int.toNat (m : Nat))) W)
      (fun ys W' => ∃ cs : List Nat, ys = (cs.map fun c => E.str (mkS [c])) ∧ cs.length = m ∧ (∀ c ∈ cs, c < 128) ∧ Bg b (n + m) W') X := by
  have hlen : (rgE 0 (Int.toNat ((m : Nat) : Int))).length = m := by
    unfold rgE
    rw [List.length_map, List.length_range]
    rfl
  refine lc_sa (I := fun k acc W' => ∃ cs : List Nat, acc = (cs.map fun c => E.str (mkS [c])) ∧ cs.length = k ∧ (∀ c ∈ cs, c < 128) ∧ Bg b (n + k) W') (k := 0) (acc := []) ⟨[], rfl, rfl, fun p hp => absurd hp List.not_mem_nil, hb⟩ (fun j e acc W' he hI => ?hstep) (fun ys W4 hI => ?_)
  case hstep =>
    obtain ⟨cs, rfl, hl, h8, hbj⟩ := hI
    have hj : j < m := by rw [← hlen]; exact (List.getElem?_eq_some_iff.mp he).1
    simp_arith []
    simp only [sa_bnd]
    refine take_sa hbj (by omega) (by decide) (by decide) fun d hd W6 hb6 fm6 => ?_
    have hd : d < 8 := hd
    obtain ⟨c, hc, ix⟩ := sgn_ix hd (W := W6)
    simp_arith [ix]
    refine ⟨cs ++ [c], by rw [List.map_append]; rfl, by rw [List.length_append, hl]; rfl, fun p hp => ?_, hb6⟩
    rcases List.mem_append.mp hp with hp | hp
    · exact h8 p hp
    · rw [List.mem_singleton.mp hp]
      exact hc
  obtain ⟨cs, hys, hl, h8, hb4⟩ := hI
  rw [hlen, Nat.zero_add] at hl hb4
  rw [List.nil_append] at hys
  exact ⟨cs, hys, hl, h8, hb4⟩
theorem turn_sa {ns : List Int} {k : Int} {b : Addr} {n : Nat} {W : WE} {Q : Out → WE → Prop} {X : XE} {s3 s4 s5 s6 s7 s8 s9 s10 s11 s12 : Sl} (hb : Bg b n W) (hn : n < 800000)
    (q : ∀ s4 s5 s6 s7 W', Bg b (n + 10) W' → Q (.nx [.pl (.scr ns), .pl (.int k), .pl (.cel b), s3, s4, s5, s6, s7, s8, s9, s10, s11, s12]) W') :
    Sa (l_law_1 [.pl (.scr ns), .pl (.int k), .pl (.cel b), s3, s4, s5, s6, s7, s8, s9, s10, s11, s12] W) Q X := by
  unfold l_law_1
  simp_arith []
  try simp only [sa_bnd]
  refine take_sa hb (by omega) (by decide) (by decide) fun m hm W1 hb1 fm1 => ?_
  have hm : m < 6 := hm
  have rg : (-(2 ^ 62) ≤ ((m : Nat) : Int) ∧ ((m : Nat) : Int) < 2 ^ 62) := by omega
  have lrg : (rgE 0 (Int.toNat ((m : Nat) : Int))).length ≤ 1000000 := by
    unfold rgE
    rw [List.length_map, List.length_range]
    show m ≤ 1000000
    omega
  simp_arith [if_pos rg, if_pos lrg]
  try simp only [sa_bnd]
  refine (text_sa hb1 (by omega) hm).imp fun ys W2 hI => ?_
  obtain ⟨cs, rfl, hl, ha, hb2⟩ := hI
  have tx := th_txt (cs := cs) (by omega) ha
  simp_arith [join_go (W := W2) (cs := cs) (by omega)]
  try simp only [sa_bnd]
  refine calm_sa (odd_sa hb2 (by omega) fun x1 g1 h1 W3 hb3 fm3 => ?_)
  simp_arith []
  try simp only [sa_bnd]
  refine take_sa hb3 (by omega) (by decide) (by decide) fun r hr W4 hb4 fm4 => ?_
  have hr : r < 4 := hr
  obtain ⟨x, g, hx, ix⟩ : ∃ x g, Th x g ∧ oIxL (.lst [x1, .str (mkS cs), .str "r-x", .str "--x"]) (.int (r : Nat)) W4 = some x := by
    match r, hr with
    | 0, _ => exact ⟨_, _, h1, rfl⟩
    | 1, _ => exact ⟨_, _, tx, rfl⟩
    | 2, _ => exact ⟨_, _, th_rdx, rfl⟩
    | 3, _ => exact ⟨_, _, th_ddx, rfl⟩
  simp_arith [ix]
  try simp only [sa_bnd]
  refine calm_sa (odd_sa hb4 (by omega) fun y1 g2 h2 W5 hb5 fm5 => ?_)
  refine take_sa hb5 (by omega) (by decide) (by decide) fun r2 hr2 W6 hb6 fm6 => ?_
  have hr2 : r2 < 3 := hr2
  obtain ⟨y, g3, hy, iy⟩ : ∃ y g, Th y g ∧ oIxL (.lst [y1, .str "w", .str (mkS cs)]) (.int (r2 : Nat)) W6 = some y := by
    match r2, hr2 with
    | 0, _ => exact ⟨_, _, h2, rfl⟩
    | 1, _ => exact ⟨_, _, th_w, rfl⟩
    | 2, _ => exact ⟨_, _, tx, rfl⟩
  simp_arith [iy]
  try simp only [sa_bnd]
  refine calm_sa (right_sa hx hy ?_)
  simp_arith []
  exact q _ _ _ _ _ (hb6.mono (by omega))
theorem neC_RR {d : Nat} (h : d < 8) {W : WE} : oNeC tbl_1 (RE d) (RE d) W = some (.bl false) := by
  refine all8 (P := fun d => oNeC tbl_1 (RE d) (RE d) W = some (.bl false)) ?_ ?_ ?_ ?_ ?_ ?_ ?_ ?_ h <;> kernel_rfl
section
variable {a b : Nat} {W : WE}
theorem make_R_no : f_Rights_init [RE a] W = .exc "InvalidRights" [("value", RE a)] W := by
  have i : oIsi csL [RE a, .ty "str"] W = some (.bl false) := rfl
  have e : f_digit_of [RE a] W = .ret .non W := by
    unfold f_digit_of b_digit_of
    simp_arith [i]
  unfold f_Rights_init b_Rights_init
  simp_arith [e, isN_no]
theorem of2_go (ha : a < 8) (hb : b < 8) : f_Rights_of [.fn "Rights", .tup [RE a, RE b]] W = .ret (RE (a ||| b)) W := by
  have := of_any (xs := [(RE a, some a), (RE b, some b)]) (W := W) (by simp only [List.length_cons, List.length_nil]; decide) (by simpa using ⟨it_R ha, it_R hb⟩)
  have e : ofL [(RE a, some a), (RE b, some b)] 0 = .inr (0 ||| a ||| b) := rfl
  rw [e, Nat.zero_or] at this
  exact this
theorem of0_go : f_Rights_of [.fn "Rights", .tup []] W = .ret (RE 0) W := of_any (xs := []) (W := W) (by decide) (by simp)
theorem ofwx_go (ha : a < 8) : f_Rights_of [.fn "Rights", .tup [.str "wx", RE a]] W = .ret (RE (a ||| 3)) W := by
  have w := it_w (d := 3) (by decide)
  rw [wrd_3] at w
  have := of_any (xs := [(E.str "wx", some 3), (RE a, some a)]) (W := W) (by simp only [List.length_cons, List.length_nil]; decide) (by simpa using ⟨w, it_R ha⟩)
  have e : ofL [(E.str "wx", some 3), (RE a, some a)] 0 = .inr (0 ||| 3 ||| a) := rfl
  rw [e, Nat.zero_or, Nat.or_comm] at this
  exact this
theorem or6 : ∀ a < 8, ∀ b < 8, 0 ||| 0 ||| a ||| 4 ||| b ||| 0 ||| 1 = a ||| b ||| 5 := by decide
theorem of6_go (ha : a < 8) (hb : b < 8) : f_Rights_of [.fn "Rights", .tup [.str "", RE a, .str "r", RE b, .obj "Rights" [("own_digit", .int 0), ("own_letters", .lst (sgE (wrd 0)))], .str "x"]] W = .ret (RE (a ||| b ||| 5)) W := by
  have w := it_w (d := 0) (by decide)
  rw [wrd_0] at w
  have z := it_R (d := 0) (by decide)
  have r := it_r
  have x := it_x
  have := of_any (xs := [(E.str "", some 0), (RE a, some a), (E.str "r", some 4), (RE b, some b), (RE 0, some 0), (E.str "x", some 1)]) (W := W) (by simp only [List.length_cons, List.length_nil]; decide) (fun p hp => by
    simp only [List.mem_cons, List.not_mem_nil, or_false] at hp
    rcases hp with rfl | rfl | rfl | rfl | rfl | rfl
    · exact w
    · exact it_R ha
    · exact r
    · exact it_R hb
    · exact z
    · exact x)
  have e : ofL [(E.str "", some 0), (RE a, some a), (E.str "r", some 4), (RE b, some b), (RE 0, some 0), (E.str "x", some 1)] 0 = .inr (0 ||| 0 ||| a ||| 4 ||| b ||| 0 ||| 1) := rfl
  rw [e, or6 a ha b hb] at this
  exact this
theorem listed_go (hb : b < 8) : f_Rights_listed [RE b] W = .ret (.lst (sgE (wrd b))) W := rfl
theorem joinw (hb : b < 8) : oJoin "" (.lst (sgE (wrd b))) W = some (.str (wrd b)) := by
  refine all8 (P := fun b => oJoin "" (.lst (sgE (wrd b))) W = some (.str (wrd b))) ?_ ?_ ?_ ?_ ?_ ?_ ?_ ?_ hb <;> kernel_rfl
theorem lkl_R {d : Nat} : ([("own_digit", E.int (d : Nat)), ("own_letters", E.lst (sgE (wrd d)))] : List (Str × E)).lookup ("listed" : Str) = none := by simp (config := { decide := true }) only [lk_cons, lk_nil, ↓reduceIte]
theorem digit_0 : f_Rights_digit [RE 0] W = .ret (.int 0) W := rfl
theorem oor3 (ha : a < 8) : oOr (.int (a : Nat)) (.int 3) W = some (.int ((a ||| 3 : Nat) : Int)) := lor_go (b := 3) ha (by decide)
theorem oor5 (ha : a < 8) : oOr (.int (a : Nat)) (.int 5) W = some (.int ((a ||| 5 : Nat) : Int)) := lor_go (b := 5) ha (by decide)
theorem ieq {i : Int} : decide (i = i) = true := decide_eq_true rfl
theorem rts_d : decide (("rights" : Str) = ("rights" : Str)) = true := decide_eq_true rfl
end
theorem rg8 {i : Nat} {e : E} (h : (rgE 0 (Int.toNat 8))[i]? = some e) : i < 8 ∧ e = .int (i : Nat) := by
  obtain ⟨h1, h2⟩ := List.getElem?_eq_some_iff.mp h
  unfold rgE at h1 h2
  rw [List.length_map, List.length_range] at h1
  rw [List.getElem_map, List.getElem_range] at h2
  exact ⟨by omega, by rw [← h2]; congr 1; omega⟩
def b_cl2 : S3 := (s3Seq (s3If (b3Or (b3T (e3Op oNe (e3Prop "Rights" (calmF f_Rights_digit) (e3CMeth "Rights" (calmF (starF 1 f_Rights_of)) (e3C (.fn "Rights")) (a3Cons (e3Var 10) (a3Cons (e3Var 11) a3Nil)))) (e3Op oOr (e3Var 8) (e3Var 9)))) (b3Or (b3T (e3Op oNe (e3Prop "Rights" (calmF f_Rights_digit) (e3CMeth "Rights" (calmF (starF 1 f_Rights_of)) (e3C (.fn "Rights")) a3Nil)) (e3C (.int (0))))) (b3T (e3Op (oNeC tbl_1) (e3Call (calmF f_as_rights) (a3Cons (e3Var 10) a3Nil)) (e3Var 10)))))
          (s3Ret (e3C (.bl false)))
          s3Nx)
        (s3Seq (s3If (b3Or (b3Not (b3T (e3Call (calmF f_is_rights) (a3Cons (e3Var 10) a3Nil)))) (b3Or (b3T (e3Op (oNeC tbl_1) (e3Call (calmF f_as_rights) (a3Cons (e3M1 oJoin (e3C (.str "")) (e3Meth "Rights" "listed" (calmF f_Rights_listed) (e3Var 11) a3Nil)) a3Nil)) (e3Var 11))) (b3T (e3Op oNe (e3Prop "Rights" (calmF f_Rights_digit) (e3CMeth "Rights" (calmF (starF 1 f_Rights_of)) (e3C (.fn "Rights")) (a3Cons (e3C (.str "wx")) (a3Cons (e3Var 10) a3Nil)))) (e3Op oOr (e3Var 8) (e3C (.int (3))))))))
          (s3Ret (e3C (.bl false)))
          s3Nx)
        (s3If (b3T (e3Op oNe (e3Prop "Rights" (calmF f_Rights_digit) (e3CMeth "Rights" (calmF (starF 1 f_Rights_of)) (e3C (.fn "Rights")) (a3Cons (e3C (.str "")) (a3Cons (e3Var 10) (a3Cons (e3C (.str "r")) (a3Cons (e3Var 11) (a3Cons (e3Make "Rights" (calmFi (dflFi [(.str "")] f_Rights_init)) a3Nil) (a3Cons (e3C (.str "x")) a3Nil)))))))) (e3Op oOr (e3Op oOr (e3Var 8) (e3Var 9)) (e3C (.int (5))))))
          (s3Ret (e3C (.bl false)))
          s3Nx)))
def b_cl1 : S3 := (s3Seq (s3Par 8 9 (a3Cons (e3Call (calmF f3_take) (a3Cons (e3Var 2) (a3Cons (e3C (.int (8))) a3Nil))) (a3Cons (e3Call (calmF f3_take) (a3Cons (e3Var 2) (a3Cons (e3C (.int (8))) a3Nil))) a3Nil)))
        (s3Seq (s3Asg (e3Tup (a3Cons (e3CMeth "Rights" (calmF f_Rights_from_digit) (e3C (.fn "Rights")) (a3Cons (e3Var 8) a3Nil)) (a3Cons (e3CMeth "Rights" (calmF f_Rights_from_digit) (e3C (.fn "Rights")) (a3Cons (e3Var 9) a3Nil)) a3Nil))) (g3Tup 2 (g3Cons (g3Name 10) (g3Cons (g3Name 11) g3Nil))))
        (s3Seq (s3Asg (e3Lam f_law_caught (e3Make "Rights" (dflFi [] f_Rights_init) (a3Cons (e3Var 10) a3Nil))) (g3Name 12))
        (s3Seq (s3If (b3Or (b3T (e3Op oNe (e3Op oIxL (e3Var 12) (e3C (.int (0)))) (e3C (.str "rights")))) (b3T (e3Op (oNeC tbl_1) (e3Op oIxL (e3Var 12) (e3C (.int (1)))) (e3Var 10))))
          (s3Ret (e3C (.bl false)))
          s3Nx)
        b_cl2))))
theorem cel_eq : l_law_2 = (s3Seq (s3Asg (e3Call (calmF f3_bag) (a3Cons (e3Call (calmF f3_cell) (a3Cons (e3Var 0) (a3Cons (e3Var 1) a3Nil))) a3Nil)) (g3Name 2))
        (s3Seq (s3For (a3Rng1 (a3Cons (e3C (.int (8))) a3Nil)) (g3Name 3)
          l_law_1) b_cl1)) := by
  unfold l_law_2 b_cl1 b_cl2
  exact rfl
theorem cl2_go {a b : Nat} {W : WE} {s0 s1 s2 s3 s4 s5 s6 s7 s12 : Sl} (ha : a < 8) (hb : b < 8) : b_cl2 [s0, s1, s2, s3, s4, s5, s6, s7, .pl (.int (a : Nat)), .pl (.int (b : Nat)), .pl (RE a), .pl (RE b), s12] W = .ret (.nx [s0, s1, s2, s3, s4, s5, s6, s7, .pl (.int (a : Nat)), .pl (.int (b : Nat)), .pl (RE a), .pl (RE b), s12]) W := by
  unfold b_cl2
  have ab : a ||| b < 8 := or_lt ha hb
  simp_arith [dflFi, List.append_nil, List.nil_append, m_e, List.take_succ_cons, List.take_zero, List.drop_succ_cons, List.drop_zero, vE_R, isObj_R, digit_R, digit_0, of2_go ha hb, of0_go, ofwx_go ha, of6_go ha hb, lor_go ha hb, oor3 ha, oor5 ab, vNe_int, ieq, as_rights_rp (rp_r ha), as_rights_rp (rp_s hb), is_rights_rp (rp_r ha), neC_RR ha, neC_RR hb, lkl_R, listed_go hb, joinw hb]
theorem cl1_sa {ns : List Int} {k : Int} {p : Addr} {n : Nat} {W : WE} {Q : Out → WE → Prop} {X : XE} {s3 s4 s5 s6 s7 s8 s9 s10 s11 s12 : Sl} (hb : Bg p n W) (hn : n < 800000)
    (q : ∀ s8 s9 s10 s11 s12 W', Q (.nx [.pl (.scr ns), .pl (.int k), .pl (.cel p), s3, s4, s5, s6, s7, s8, s9, s10, s11, s12]) W') :
    Sa (b_cl1 [.pl (.scr ns), .pl (.int k), .pl (.cel p), s3, s4, s5, s6, s7, s8, s9, s10, s11, s12] W) Q X := by
  unfold b_cl1
  simp_arith []
  simp only [sa_bnd]
  refine take_sa hb (by omega) (by decide) (by decide) fun a ha W1 hb1 fm1 => ?_
  have ha : a < 8 := ha
  simp_arith []
  simp only [sa_bnd]
  refine take_sa hb1 (by omega) (by decide) (by decide) fun b hb W2 hb2 fm2 => ?_
  have hb : b < 8 := hb
  simp_arith [from_digit_R ha, from_digit_R hb]
  simp only [sa_bnd]
  refine lam_sa fun f => caught_rights (x := RE a) (fun W => ?_) ?_
  · simp_arith [dflFi, List.append_nil, make_R_no]
  · have i1 : oIxL (.lst [.str "rights", RE a]) (.int 1) W2 = some (RE a) := rfl
    simp_arith [i0_go, i1, vNe_str, rts_d, neC_RR ha, cl2_go ha hb]
    exact q _ _ _ _ _ _
theorem cel_sa {ns : List Int} {k : Int} {W : WE} {s2 s3 s4 s5 s6 s7 s8 s9 s10 s11 s12 : Sl} {Q : Out → WE → Prop} {X : XE} (hk : 0 ≤ k ∧ k < 1000)
    (q : ∀ s2 s3 s4 s5 s6 s7 s8 s9 s10 s11 s12 W', Q (.nx [.pl (.scr ns), .pl (.int k), s2, s3, s4, s5, s6, s7, s8, s9, s10, s11, s12]) W') :
    Sa (l_law_2 [.pl (.scr ns), .pl (.int k), s2, s3, s4, s5, s6, s7, s8, s9, s10, s11, s12] W) Q X := by
  rw [cel_eq]
  simp_arith []
  simp only [sa_bnd]
  refine cell_sa hk fun r => ?_
  simp_arith []
  simp only [sa_bnd]
  refine bag_sa fun b hb => ?_
  refine for_sa (I := fun j env W' => ∃ s3 s4 s5 s6 s7, env = [.pl (.scr ns), .pl (.int k), .pl (.cel b), s3, s4, s5, s6, s7, s8, s9, s10, s11, s12] ∧ Bg b (0 + 10 * j) W') (k := 0) ⟨_, _, _, _, _, rfl, ⟨0, Nat.le_refl _, WE.same⟩⟩ (fun i e env W5 he hI => ?_) (fun env W5 hI => ?_)
  · obtain ⟨s3, s4, s5, s6, s7, rfl, hb5⟩ := hI
    obtain ⟨hi, rfl⟩ := rg8 he
    simp_arith []
    exact turn_sa hb5 (by omega) fun _ _ _ _ W' h1 => ⟨_, _, _, _, _, rfl, h1.mono (by omega)⟩
  · obtain ⟨s3, s4, s5, s6, s7, rfl, hb5⟩ := hI
    have hb5 : Bg b 80 W5 := hb5
    simp_arith []
    exact cl1_sa hb5 (by decide) fun _ _ _ _ _ W' => q _ _ _ _ _ _ _ _ _ _ _ W'
theorem law_eq : b_law = (s3Seq (s3For (a3Rng1 (a3Cons (e3CB oMax2 (a3Cons (e3C (.int (2))) (a3Cons (e3CB oMin2 (a3Cons (e3C (.int (8))) (a3Cons (e3CB oLen (a3Cons (e3Var 0) a3Nil)) a3Nil))) a3Nil))) a3Nil)) (g3Name 1)
      l_law_2)
      (s3Ret (e3C (.bl true)))) := by
  unfold b_law
  exact rfl
theorem main (ns : List Int) (W : WE) (hl : ns.length ≤ 63) : Sat (f_law [.scr ns] W) (fun e _ => e = .bl true) (fun _ _ _ => False) := by
  rw [← sa_e]
  unfold f_law
  rw [law_eq]
  obtain ⟨n, hn, hn2⟩ : ∃ n : Nat, oMax2 [.int 2, .int (if (ns.length : Int) < 8 then (ns.length : Int) else 8)] W = some (.int (n : Nat)) ∧ n ≤ 8 := by
    by_cases h : (ns.length : Int) < 8
    · rw [if_pos h]
      by_cases h2 : (ns.length : Int) > 2
      · exact ⟨ns.length, (congrArg (fun z => some (E.int z)) (if_pos h2)), by omega⟩
      · exact ⟨2, (congrArg (fun z => some (E.int z)) (if_neg h2)), by omega⟩
    · rw [if_neg h]
      exact ⟨8, rfl, by omega⟩
  have mn : oMin2 [.int 8, .int (ns.length : Nat)] W = some (.int (if (ns.length : Int) < 8 then (ns.length : Int) else 8)) := rfl
  have rg : (-(2 ^ 62) ≤ (n : Int) ∧ (n : Int) < 2 ^ 62) := by omega
  simp_arith [lenScr_go, mn, hn, if_pos rg]
  simp only [sa_bnd]
  refine for_sa (I := fun j env W' => ∃ s1 s2 s3 s4 s5 s6 s7 s8 s9 s10 s11 s12, env = [.pl (.scr ns), s1, s2, s3, s4, s5, s6, s7, s8, s9, s10, s11, s12]) (k := 0) ⟨_, _, _, _, _, _, _, _, _, _, _, _, rfl⟩ (fun i e env W5 he hI => ?_) (fun env W5 hI => ?_)
  · obtain ⟨s1, s2, s3, s4, s5, s6, s7, s8, s9, s10, s11, s12, rfl⟩ := hI
    have hi : i < 8 ∧ e = .int (i : Nat) := by
      have h1 := (List.getElem?_eq_some_iff.mp he)
      obtain ⟨h1, h2⟩ := h1
      unfold rgE at h1 h2
      rw [List.length_map, List.length_range] at h1
      rw [List.getElem_map, List.getElem_range] at h2
      exact ⟨by omega, by rw [← h2]; congr 1; omega⟩
    obtain ⟨hi, rfl⟩ := hi
    simp_arith []
    exact cel_sa (by omega) fun s2 s3 s4 s5 s6 s7 s8 s9 s10 s11 s12 W' => ⟨_, _, _, _, _, _, _, _, _, _, _, _, rfl⟩
  · obtain ⟨s1, s2, s3, s4, s5, s6, s7, s8, s9, s10, s11, s12, rfl⟩ := hI
    simp_arith []
local macro_rules | `(tactic| walk_at "lk") => `(tactic| first | exact rF_d _ _ | exact rF_l _ _ | rfl)
local macro_rules | `(tactic| walk_at "fld") => `(tactic| (refine' ⟨_, _, _, _, _, rfl, ?fe, ?fc, ?fn, ?fl, ?_⟩; (case fe => walk_at "hp"); (case fc => assumption); (case fn => assumption); (case fl => walk_at "lk")))
local macro_rules | `(tactic| walk_at "s") => `(tactic| walk_at "fld")
local macro_rules | `(tactic| walk_at "st") => `(tactic| first | assumption | exact upd_same | (refine stay ?_ (by assumption); walk_at "st"))
local macro_rules | `(tactic| walk_at "sq") => `(tactic| first | assumption | (refine SqT.of ?_; walk_at "st") | (refine SqL.of ?_; walk_at "st"))
local macro_rules | `(tactic| walk_at "nb") => `(tactic| (intro _ _ _ h; cases h))
local macro_rules | `(tactic| walk_at "hp") => `(tactic| first | assumption | exact upd_same | (refine (upd_ne ?n).trans ?m; (case n => walk_at "ne"); case m => walk_at "hp"))
local macro_rules | `(tactic| walk_at "ne") => `(tactic| first | assumption | exact Ne.symm (by assumption) | exact ne_of_none (by assumption) (by assumption) | exact Ne.symm (ne_of_none (by assumption) (by assumption)))
local macro_rules | `(tactic| walk_at "s") => `(tactic| first
  | with_reducible refine w_seq ?_ | with_reducible refine w_next ?_ | with_reducible refine w_ret ?_ | with_reducible refine w_asg ?_ | with_reducible refine w_ifS ?_
  | with_reducible refine w_drop ?_ | with_reducible refine w_retN ?_ | with_reducible refine w_gname ?_ | with_reducible refine w_gsub ?_ | with_reducible refine w_par ?_
  | with_reducible refine w_op ?_ | with_reducible refine w_c ?_ | with_reducible refine w_un ?_ | with_reducible refine w_cons ?_ | with_reducible refine w_nil ?_ | with_reducible refine w_cb ?_ | with_reducible refine w_call ?_
  | ((with_reducible show tVar _ _ _ _); refine w_var rfl ?_)
  | with_reducible refine w_I0 ?_ | with_reducible refine w_U ?_ | with_reducible refine w_test ?_ | with_reducible refine w_B ?_ | with_reducible refine w_and ?_ | with_reducible refine w_or ?_ | with_reducible refine w_not ?_ | with_reducible refine w_yes ?_
  | with_reducible refine w_if ?_ | with_reducible refine w_lst ?_ | with_reducible refine w_tup ?_ | with_reducible refine w_andV ?_ | with_reducible refine w_orV ?_ | with_reducible refine w_notV ?_ | with_reducible refine w_orT ?_ | with_reducible refine w_chain ?_
  | with_reducible refine w_m1 ?_ | with_reducible refine w_isS ?_ | with_reducible refine w_bm ?_ | with_reducible refine w_bm0 ?_ | with_reducible refine w_sl ?_ | with_reducible refine w_noPart ?_ | with_reducible refine w_part ?_
  | ((with_reducible refine' w_I ?hc_I ?_); case hc_I => first | omega | exact ⟨by decide, by decide⟩ | exact Or.inl ⟨by decide, by decide⟩ | exact Or.inr ⟨by decide, by decide⟩ | (refine ⟨?_, ?_⟩ <;> omega) | (refine ⟨by decide, by decide, ?_⟩; omega) | (refine Or.inl ⟨?_, ?_⟩ <;> omega) | (refine Or.inr ⟨?_, ?_⟩ <;> omega) | decide)
  | ((with_reducible refine' w_eq ?hs_eq ?_); case hs_eq => rfl) | ((with_reducible refine' w_ne ?hs_ne ?_); case hs_ne => rfl)
  | ((with_reducible refine' w_ixL ?h_ix ?ha_ix ?_); (case h_ix => walk_at "hp"); case ha_ix => first | rfl | exact at_head)
  | ((with_reducible refine' w_ixLS ?h_ix ?ha_ix ?_); (case h_ix => walk_at "sq"); case ha_ix => first | rfl | exact at_head)
  | ((with_reducible refine' w_setL ?h_ix ?ha_ix ?_); (case h_ix => walk_at "hp"); case ha_ix => first | rfl | exact at_head)
  | ((with_reducible refine' w_ixT ?h_ix ?ha_ix ?_); (case h_ix => walk_at "sq"); case ha_ix => first | rfl | exact at_head)
  | ((with_reducible refine' w_aug ?h_var ?_); case h_var => rfl) | with_reducible refine w_ipI ?_
  | ((with_reducible show gTup _ _ _ _ _ _ _); refine' w_gtup (SqT.of ?h_ix) ?ha_ix ?_; (case h_ix => walk_at "st"); (case ha_ix => rfl)) | with_reducible refine w_gcons ?_ | with_reducible refine w_gnil ?_
  | ((with_reducible refine' w_tyL ?h_ix ?_); case h_ix => walk_at "hp")
  | with_reducible refine iteT ?_ | with_reducible refine iteF ?_ | with_reducible refine w_nT ?_ | with_reducible refine w_nF ?_ | with_reducible refine w_callZ ?_
  | ((with_reducible refine' w_addT ?h_add ?_); case h_add => ((try simp only [app_len, mkS_len, List.length_cons, List.length_nil]); omega)) | ((with_reducible refine' w_slS ?h_add ?_); case h_add => exact le_line (by (try simp only [app_len, mkS_len, List.length_cons, List.length_nil]); omega))
  | with_reducible refine w_dnewK ?_ | with_reducible refine w_disp ?_ | with_reducible refine w_pcons ?_ | with_reducible refine w_pnil ?_
  | with_reducible refine w_for ?_ | with_reducible refine w_lc ?_ | with_reducible refine w_iStr ?_ | with_reducible refine w_iList ?_ | with_reducible refine w_iTup ?_ | with_reducible refine w_iRng1 ?_
  | ((with_reducible show _ ≤ sizeLine ∧ _); refine ⟨le_line (by first | omega | exact Nat.le_of_ble_eq_true rfl | decide), ?_⟩)
  | with_reducible refine ⟨_, rfl, ?_⟩ | with_reducible refine ⟨_, _, rfl, ?_⟩ | with_reducible refine ⟨rfl, ?_⟩)
local macro_rules | `(tactic| walk_at "ss") => `(tactic| repeat walk_at "s")
local macro_rules | `(tactic| walk_at "s") => `(tactic| first | with_reducible refine w_callR ?_ | ((with_reducible refine' w_slL ?h_ix ?_); case h_ix => walk_at "sq") | ((with_reducible refine' w_lenSL ?h_ix ?_); case h_ix => walk_at "sq"))
local macro_rules | `(tactic| walk_at "nm") => `(tactic| first | assumption | (intro hz; cases hz; done) | (intro hz; rcases List.mem_singleton.mp hz with rfl; contradiction))
local macro_rules | `(tactic| walk_at "hp") => `(tactic| first | assumption | exact upd_same | (refine stay ?_ (by assumption); walk_at "hp") | (refine (upd_ne ?n).trans ?m; (case n => walk_at "ne"); case m => walk_at "hp") | (refine Keep.get (S := []) (by assumption) ?_ (by simp); walk_at "hp") | (refine Keep.get (by assumption) ?_ ?nm; (case nm => walk_at "nm"); walk_at "hp"))
local macro_rules | `(tactic| walk_at "sq") => `(tactic| first | assumption | (refine SqL.of ?_; walk_at "hp") | (refine SqT.of ?_; walk_at "hp"))
local macro_rules | `(tactic| walk_at "s") => `(tactic| first
  | with_reducible refine w_fldT ?_ | with_reducible refine w_prop ?_ | with_reducible refine w_make ?_ | with_reducible refine w_meth ?_ | with_reducible refine w_cmeth ?_ | with_reducible refine w_truO ?_ | with_reducible refine w_fmtO ?_ | with_reducible refine w_kget ?_ | with_reducible refine w_notT ?_ | with_reducible refine w_sfld ?_
  | ((with_reducible show tMakeV _ _ _ _ _ _ _ _); refine w_makeV rfl ?_)
  | with_reducible refine w_spD ?_)
local macro_rules | `(tactic| walk_at "bg") => `(tactic| first | assumption | (refine Bag.keep0 ?_ (by assumption); walk_at "bg"))
local macro_rules | `(tactic| walk_at "nw") => `(tactic| (intro p hp; generalize hH : upd _ p _ = H1; have kp := keep_upd hH hp; have ep := at_upd hH; clear hH))
local macro_rules | `(tactic| walk_at "nwb") => `(tactic| (intro p hp; have nb := Bag.nin (by assumption) hp; generalize hH : upd _ p _ = H1; have kp := keep_upd hH hp; have ep := at_upd hH; have hB := Bag.keep0 (by assumption) kp; clear hH))
local macro_rules | `(tactic| walk_at "tk") => `(tactic| (refine' take_go ?t0 ?t1 ?tb ?tn ?_; (case tb => walk_at "bg"); (case t0 => first | decide | omega); (case t1 => first | decide | omega); (case tn => omega)))
local macro_rules | `(tactic| walk_at "kp") => `(tactic| first | assumption | exact Keep.refl _ | (refine Keep.trans ?_ (Keep.mono (by assumption) (by simp)); walk_at "kp") | (refine Keep.trans ?_ (by assumption); walk_at "kp"))
local macro_rules | `(tactic| walk_at "pl") => `(tactic| first | trivial | assumption | exact ⟨trivial, trivial⟩ | exact ⟨trivial, trivial, trivial⟩ | exact ⟨trivial, trivial, trivial, trivial⟩ | exact ⟨trivial, trivial, trivial, trivial, trivial⟩ | (repeat' (first | trivial | assumption | constructor)))
local macro_rules | `(tactic| walk_at "vw") => `(tactic| first | rfl | (with_reducible assumption))
local macro_rules | `(tactic| walk_at "z") => `(tactic| first
  | with_reducible refine z_seq ?_ | with_reducible refine z_nx ?_ | with_reducible refine z_ret ?_ | with_reducible refine z_asg ?_ | with_reducible refine z_ifS ?_ | (with_reducible refine z_gname ?_; try dsimp only [List.set]) | with_reducible refine z_op ?_ | with_reducible refine z_c ?_
  | ((with_reducible refine' z_var ?hv ?_); case hv => rfl)
  | with_reducible refine z_cons ?_ | with_reducible refine z_nil ?_ | with_reducible refine z_cb ?_ | with_reducible refine z_call ?_ | with_reducible refine z_un ?_ | with_reducible refine z_T ?_ | with_reducible refine z_and ?_ | with_reducible refine z_or ?_ | with_reducible refine z_not ?_ | with_reducible refine z_yes ?_
  | with_reducible refine z_lst ?_ | with_reducible refine z_tup ?_ | with_reducible refine z_andV ?_ | with_reducible refine z_orV ?_ | with_reducible refine z_notV ?_ | with_reducible refine z_ifE ?_ | with_reducible refine z_chain ?_ | with_reducible refine z_retN ?_ | with_reducible refine z_drop ?_ | with_reducible refine z_bk ?_
  | ((with_reducible refine' z_pl ?p1 ?p2 ?_); (case p1 => walk_at "pl"); (case p2 => first | decide | (simp only [List.length_cons, List.length_nil]; omega)))
  | ((with_reducible show PlL _ ∧ _); refine ⟨by walk_at "pl", ?_⟩)
  | ((with_reducible refine' z_I0 ?hs ?_); case hs => rfl)
  | ((with_reducible refine' z_I ?hc ?hs ?_); (case hs => rfl); case hc => first | omega | exact ⟨by decide, by decide⟩ | exact Or.inl ⟨by decide, by decide⟩ | exact Or.inr ⟨by decide, by decide⟩ | (refine ⟨?_, ?_⟩ <;> omega) | (refine ⟨by decide, by decide, ?_⟩; omega) | (refine Or.inl ⟨?_, ?_⟩ <;> omega) | (refine Or.inr ⟨?_, ?_⟩ <;> omega) | decide)
  | with_reducible refine z_tupO ?_ | ((with_reducible refine' z_gotp ?hl ?_); case hl => rfl) | with_reducible refine z_ip ?_ | ((with_reducible refine' z_lenS ?hl ?_); case hl => first | assumption | (simp only []; omega)) | with_reducible refine z_inSign ?_
  | ((with_reducible refine' z_U ?hs ?_); case hs => rfl)
  | ((with_reducible refine' z_eq ?h1 ?h2 ?hs ?_); (case h1 => rfl); (case h2 => rfl); case hs => rfl) | ((with_reducible refine' z_ne ?h1 ?h2 ?hs ?_); (case h1 => rfl); (case h2 => rfl); case hs => rfl)
  | ((with_reducible refine' z_ixL ?h1 ?h2 ?_); (case h1 => walk_at "vw"); case h2 => first | rfl | assumption)
  | ((with_reducible refine' z_ixT ?h2 ?_); case h2 => first | rfl | assumption)
  | with_reducible refine z_isNt ?_ | with_reducible refine z_noNt ?_
  | ((with_reducible refine' z_isNf ?hn ?_); case hn => (intro n hn2; cases hn2; try (intro hz; cases hz))) | ((with_reducible refine' z_noNf ?hn ?_); case hn => (intro n hn2; cases hn2; try (intro hz; cases hz)))
  | with_reducible refine iteT ?_ | with_reducible refine iteF ?_ | with_reducible refine w_nT ?_ | with_reducible refine w_nF ?_
  | with_reducible refine z_meth ?_ | with_reducible refine z_prop ?_ | with_reducible refine z_cmeth ?_ | with_reducible refine z_make ?_ | with_reducible refine z_fld ?_ | with_reducible refine z_sfld ?_ | with_reducible refine z_callZ ?_
  | with_reducible refine z_sl ?_ | with_reducible refine z_noPart ?_ | with_reducible refine z_part ?_ | with_reducible refine z_for ?_ | with_reducible refine z_lc ?_ | with_reducible refine z_setLc ?_ | with_reducible refine z_iL ?_ | with_reducible refine z_iT ?_ | with_reducible refine z_iS ?_ | with_reducible refine z_iR ?_ | with_reducible refine z_iD ?_ | with_reducible refine z_iE ?_
  | with_reducible refine z_listVals ?_ | with_reducible refine z_cmethS ?_ | with_reducible refine z_makeZ ?_ | with_reducible refine z_methZ ?_ | with_reducible refine z_callZS ?_ | with_reducible refine z_sfldO ?_ | with_reducible refine z_fldExt ?_ | with_reducible refine z_try ?_ | with_reducible refine z_xf ?_ | with_reducible refine z_isET ?_ | with_reducible refine z_isiT ?_ | with_reducible refine z_gsetL ?_ | with_reducible refine z_lindex ?_ | with_reducible refine z_disp ?_ | with_reducible refine z_dispO ?_ | with_reducible refine z_pr ?_ | with_reducible refine z_pr0 ?_ | with_reducible refine z_par3 ?_ | with_reducible refine z_par ?_
  | with_reducible refine z_kget ?_ | with_reducible refine z_m1 ?_ | with_reducible refine z_dget ?_ | with_reducible refine z_din ?_ | with_reducible refine z_dput ?_ | with_reducible refine z_raise ?_ | with_reducible refine z_gcons ?_ | with_reducible refine z_gnil ?_ | ((with_reducible refine' z_gtup ?hn ?_); case hn => rfl)
  | ((with_reducible refine' z_aug ?hv ?_); case hv => rfl)
  | with_reducible refine ⟨_, rfl, ?_⟩ | with_reducible refine ⟨_, _, rfl, ?_⟩ | with_reducible refine ⟨rfl, ?_⟩)
local macro_rules | `(tactic| walk_at "zz") => `(tactic| repeat walk_at "z")
local macro_rules | `(tactic| walk_at "sf") => `(tactic| (refine ⟨_, _, _, Or.inl rfl, Wd.same, by walk_at "pl", by first | exact (by decide : 0 < 1000) | exact (by decide : 1 < 1000) | exact (by decide : 2 < 1000) | exact (by decide : 3 < 1000) | exact (by decide : 4 < 1000) | exact (by decide : 5 < 1000) | exact (by decide : 6 < 1000) | exact (by decide : 7 < 1000), ?_⟩; rw [Wd.setSet]))
theorem Txt.isf {w : World} {K : PySem.W.Frag} {mg : Str → Option Value} (T : Txt w K mg) : IsF K csL := ⟨(List.forall_mem_cons.mpr ⟨T.k_Rights, (fun _ h => absurd h List.not_mem_nil)⟩), (List.forall_mem_cons.mpr ⟨fun t ht => (T.off_Rights t ht).1, (fun _ h => absurd h List.not_mem_nil)⟩), (List.forall_mem_cons.mpr ⟨T.on_Rights, (fun _ h => absurd h List.not_mem_nil)⟩), (List.forall_mem_cons.mpr ⟨(List.forall_mem_cons.mpr ⟨fun h => absurd rfl h, (fun _ h => absurd h List.not_mem_nil)⟩), (fun _ h => absurd h List.not_mem_nil)⟩)⟩
section
variable {w : World} {K : PySem.W.Frag} {mg : Str → Option Value} {base : Heap}
theorem tbk_0 (T : Txt w K mg) : TbOkP P w K mg base 1 (tb2 K tbl_0) := by
  rintro _ _ ⟨e, he, _, _⟩
  cases he
theorem tnk_0 (T : Txt w K mg) : NeOkP K (tb2 K tbl_0) := by
  rintro _ _ ⟨e, he, _, _⟩
  cases he
theorem nfk_0 (T : Txt w K mg) : NfOk K csL tbl_0 := by
  intro e he
  cases he
theorem tbo_0 : ∀ e ∈ tbl_0, EqOk csL e := by
  intro e he
  cases he
theorem tbc_0 : ∀ e ∈ tbl_0, EqCel e := by
  intro e he
  cases he
theorem ok_Rights_eq (T : Txt w K mg) : FnOk P w K mg base CX0 1 (a_Rights_eq K) (fdOf K (a_Rights_eq K)) ["self", "other"] (spL K (spF K f_Rights_eq)) := by
  refine T.F_Rights_eq.ok sc_Rights_eq (fun vs H Q E h => spF_len h) (fun cdv A outer s H vs Q E hr h => ?_)
  obtain ⟨Z, ds, W, Q2, E2, ok, a, h, ca, cx⟩ := h
  have nd := sc_Rights_eq.nd
  have hu := hu_of hr
  exact ⟨_, PSs.nox (PSs.im (pss_cons (PS.im (ps_if (PT.im (pt_not (PT.im (pt_val (PE.im (pe_callB call_isi (by rfl) T.m_isinstance (by decide +kernel) (PA.im (pa_cons (PE.im (pv 1) i_var) (PA.im (pa_cons (PE.im (pe_glob (v := .ref (He.ga K "Rights")) rfl T.m_Rights rfl) i_fn) (PA.im pa_nil i_nil)) i_cons)) i_cons)) (i_cb l_isi))) i_B)) i_not)
        (pss_one (PS.im (ps_ret (PE.im (pe_bl) (i_c rfl))) i_ret))
        (PSs.im pss_nil i_next)) i_ifS)
      (pss_one (PS.im (ps_ret (PE.im (pe_cmpR op_eq (PE.im (pe_fld (PE.im (pv 0) i_var) rfl) (i_fld T.k_Rights.cl T.n_Rights_own_digit)) (PE.im (pe_fld (PE.im (pv 1) i_var) rfl) (i_fld T.k_Rights.cl T.n_Rights_own_digit)) (nomark _)) (i_op l_s))) i_ret))) i_seq),
    body_x ok a ca cx (ev_body (Nn := 2) rfl (v_seq (v_ifS (v_not (v_T (v_cb (k_isi T.isf) (v_consV (EvP.v v_var) (v_consV (EvP.v (v_fn rfl)) v_nilV)))))
        (v_ret v_cbool)
        v_next)
      (v_ret (v_op k_eq (EvP.v (v_fld (EvP.v v_var))) (EvP.v (v_fld (EvP.v v_var)))))) h)⟩
theorem tbk_1 (T : Txt w K mg) : TbOkP P w K mg base 1 (tb2 K tbl_1) := by
  rintro _ _ ⟨e, he, rfl, rfl⟩
  rcases List.mem_append.mp he with h | h
  · obtain ⟨g, k, hk, d, f⟩ := tbk_0 (w := w) (K := K) (mg := mg) (base := base) T _ _ ⟨e, h, rfl, rfl⟩
    exact ⟨g, k, by omega, d, f⟩
  · cases List.mem_singleton.mp h
    refine ⟨_, _, ?_, T.du_Rights_eq, ((ok_Rights_eq T).r (bN_Rights_eq T.F_Rights_eq))⟩
    decide
theorem tnk_1 (T : Txt w K mg) : NeOkP K (tb2 K tbl_1) := by
  rintro _ _ ⟨e, he, rfl, rfl⟩
  rcases List.mem_append.mp he with h | h
  · exact tnk_0 T _ _ ⟨e, h, rfl, rfl⟩
  · cases List.mem_singleton.mp h
    exact ⟨T.ne_Rights, T.k_Rights.cm⟩
theorem nfk_1 (T : Txt w K mg) : NfOk K csL tbl_1 := by
  intro e he
  rcases List.mem_append.mp he with h | h
  · exact nfk_0 T e h
  · cases List.mem_singleton.mp h
    exact ⟨(List.forall_mem_cons.mpr ⟨T.nr_Rights_Rights, (fun _ h => absurd h List.not_mem_nil)⟩), fun t ht => (T.off_Rights t ht).2, T.mn_Rights⟩
theorem tbo_1 : ∀ e ∈ tbl_1, EqOk csL e := by
  intro e he
  rcases List.mem_append.mp he with h | h
  · exact tbo_0 e h
  · cases List.mem_singleton.mp h
    exact eok_Rights
theorem tbc_1 : ∀ e ∈ tbl_1, EqCel e := by
  intro e he
  rcases List.mem_append.mp he with h | h
  · exact tbc_0 e h
  · cases List.mem_singleton.mp h
    exact ecl_Rights
theorem ok_digit_of (T : Txt w K mg) : FnOk P w K mg base CX0 1 (a_digit_of K) (fdOf K (a_digit_of K)) ["text"] (spL K (spF K f_digit_of)) := by
  refine T.F_digit_of.ok sc_digit_of (fun vs H Q E h => spF_len h) (fun cdv A outer s H vs Q E hr h => ?_)
  obtain ⟨Z, ds, W, Q2, E2, ok, a, h, ca, cx⟩ := h
  have nd := sc_digit_of.nd
  have hu := hu_of hr
  exact ⟨_, PSs.nox (PSs.im (pss_cons (PS.im (ps_if (PT.im (pt_not (PT.im (pt_val (PE.im (pe_callB call_isi (by rfl) T.m_isinstance (by decide +kernel) (PA.im (pa_cons (PE.im (pv 0) i_var) (PA.im (pa_cons (PE.im (pe_bltn (v := .ty "str") (by rfl) T.m_str (by decide +kernel) rfl) (i_c rfl)) (PA.im pa_nil i_nil)) i_cons)) i_cons)) (i_cb l_isi))) i_B)) i_not)
        (pss_one (PS.im (ps_ret (PE.im (pe_non) (i_c rfl))) i_ret))
        (PSs.im pss_nil i_next)) i_ifS)
      (PSs.im (pss_cons (PS.im (ps_set (i := 1) nd rfl (Or.inl rfl) (PE.im (pe_int) (i_c rfl))) (i_asg (lg_name (by decide : 1 ∈ [1]))))
      (PSs.im (pss_cons (PS.im (ps_for PassesOwn.never rfl (PI.im (pi_str (PE.im (pv 0) i_var)) i_iStr) (pg_name (i := 2) nd rfl (Or.inl rfl))
        (PSs.im (pss_cons (PS.im (ps_set (i := 3) nd rfl (Or.inl rfl) (PE.im (pe_kget T.t_BITS (PE.im (pe_glob (v := .ref (He.ga K "BITS")) rfl T.m_BITS rfl) i_fn) (PE.im (pv 2) i_var) (PE.im (pe_int) (i_c rfl)) ⟨rfl, rfl, rfl, rfl⟩) i_kget)) (i_asg (lg_name (by decide : 3 ∈ [3]))))
        (PSs.im (pss_cons (PS.im (ps_if (PW.pt (PW.im (pw_or (PT.im (pt_cmpR op_eq (PE.im (pv 3) i_var) (PE.im (pe_int) (i_c rfl)) (nomark _)) (i_test (i_op l_s))) (pw_or1 (PT.im (pt_cmpR op_gt (PE.im (pe_op op_and (PE.im (pv 1) i_var) (PE.im (pv 3) i_var)) (i_op l_s)) (PE.im (pe_int) (i_c rfl)) (nomark _)) (i_test (i_op l_s))))) i_or))
          (pss_one (PS.im (ps_ret (PE.im (pe_non) (i_c rfl))) i_ret))
          (PSs.im pss_nil i_next)) i_ifS)
        (pss_one (PS.im (ps_set (i := 1) nd rfl (Or.inl rfl) (PE.im (pe_op op_or (PE.im (pv 1) i_var) (PE.im (pv 3) i_var)) (i_op l_s))) (i_asg (lg_name (by decide : 1 ∈ [1])))))) i_seq)) i_seq)) (i_for (ws := [2]) (lg_name (by decide))))
      (pss_one (PS.im (ps_ret (PE.im (pv 1) i_var)) i_ret))) i_seq)) i_seq)) i_seq),
    body_x ok a ca cx (ev_body (Nn := 4) rfl (v_seq (v_ifS (v_not (v_T (v_cb (k_isi T.isf) (v_consV (EvP.v v_var) (v_consV (EvP.v v_cty) v_nilV)))))
        (v_ret v_cnon)
        v_next)
      (v_seq (v_asg v_cint v_gname xf_name)
      (v_seq (v_for (v_iStr v_var) v_gname xf_name
        (v_seq (v_asg (v_kget (v_fn rfl) v_var v_cint) v_gname xf_name)
        (v_seq (v_ifS (v_or (v_T (v_op k_eq (EvP.v v_var) (EvP.v v_cint))) (v_T (v_op k_I0 (EvP.v (v_op k_I0 (EvP.v v_var) (EvP.v v_var))) (EvP.v v_cint))))
          (v_ret v_cnon)
          v_next)
        (v_asg (v_op k_I0 (EvP.v v_var) (EvP.v v_var)) v_gname xf_name))))
      (v_ret v_var)))) h)⟩
theorem ok_Rights_init (T : Txt w K mg) : FnOk P w K mg base (L2.CX P w) 3 (a_Rights_init K) (fdOf K (a_Rights_init K)) ["self", "letters"] (spI K (He.ga K "Rights") (spFi K f_Rights_init)) := by
  refine T.F_Rights_init.ok sc_Rights_init (fun vs H Q E h => spFi_len h) (fun cdv A outer s H vs Q E hr h => ?_)
  obtain ⟨Z, x, vs', ds, W, Q2, E2, rfl, hx, ok, a, h, ca, cx⟩ := h
  have nd := sc_Rights_init.nd
  have hu := hu_of hr
  exact ⟨_, (PSs.im (pss_cons (PS.im (ps_set (i := 2) nd rfl (Or.inl rfl) (PE.im (pe_call (ok_digit_of T) (hr.mono (by decide)) (by rfl) T.m_digit_of T.F_digit_of.kp (bN_digit_of T.F_digit_of) .nil pass0 (PA.im (pa_cons (PE.im (pv 1) i_var) (PA.im pa_nil i_nil)) i_cons)) (i_call spIs xok_0))) (i_asg (lg_name (by decide : 2 ∈ [2]))))
      (PSs.im (pss_cons (PS.im (ps_if (PT.im (pt_cmpR op_isN (PE.im (pv 2) i_var) (PE.im (pe_non) (i_c rfl)) (nomark _)) (i_test (i_op l_isN)))
        (pss_one (PS.im (ps_raise rfl (takes_of rfl rfl rfl rfl) (pmk_sup (k := 0) veF T.s_InvalidRights T.i_InvalidRights (hr.mono (by decide)) T.m_super (by rfl) T.m_InvalidRights (PE.im (pv 1) i_var))) (i_raise xok_x)))
        (PSs.im pss_nil i_next)) i_ifS)
      (PSs.im (pss_cons (PS.im (ps_fld (PE.im (pv 0) i_var) (PE.im (pv 2) i_var) rfl) (i_sfld T.k_Rights.cl T.n_Rights_own_digit))
      (pss_one (PS.im (ps_fld (PE.im (pv 0) i_var) (PE.im (pe_callTy (call_listS rfl) (by rfl) T.m_list (by decide +kernel) (PA.im (pa_cons (PE.im (pe_ix ix_tup (PE.im (pe_glob (v := .ref (He.ga K "WORDS")) rfl T.m_WORDS rfl) (i_gt T.q_WORDS rfl)) (PE.im (pv 2) i_var) (fun _ _ => rfl)) (i_op l_ixT)) (PA.im pa_nil i_nil)) i_cons)) (i_cb l_listS)) rfl) (i_sfld T.k_Rights.cl T.n_Rights_own_letters)))) i_seq)) i_seq)) i_seq),
    body_i hx ok a ca cx (ev_init (Nn := 3) rfl (by decide) hx (v_seq (v_asg (v_callC (FnE.calm0 fne) (v_cons v_var v_nil)) v_gname xf_name)
      (v_seq (v_ifS (v_T (v_op k_isN (EvP.v v_var) (EvP.v v_cnon)))
        (v_raise v_var)
        v_next)
      (v_seq (v_sfld v_var)
      (v_sfld (v_cb k_listS (v_consV (EvP.v (v_op k_ixT (EvP.v (v_c (by simp only [tD, tDs]))) (EvP.v v_var))) v_nilV)))))) h)⟩
theorem ok_Rights_digit (T : Txt w K mg) : FnOk P w K mg base CX0 1 (a_Rights_digit K) (fdOf K (a_Rights_digit K)) ["self"] (spL K (spF K f_Rights_digit)) := by
  refine T.F_Rights_digit.ok sc_Rights_digit (fun vs H Q E h => spF_len h) (fun cdv A outer s H vs Q E hr h => ?_)
  obtain ⟨Z, ds, W, Q2, E2, ok, a, h, ca, cx⟩ := h
  have nd := sc_Rights_digit.nd
  have hu := hu_of hr
  exact ⟨_, PSs.nox (pss_one (PS.im (ps_ret (PE.im (pe_fld (PE.im (pv 0) i_var) rfl) (i_fld T.k_Rights.cl T.n_Rights_own_digit))) i_ret)),
    body_x ok a ca cx (ev_body (Nn := 1) rfl (v_ret (v_fld (EvP.v v_var))) h)⟩
theorem ok_Rights_from_digit (T : Txt w K mg) : FnOk P w K mg base (L2.CX P w) 5 (a_Rights_from_digit K) (fdOf K (a_Rights_from_digit K)) ["cls", "digit"] (spL K (spF K f_Rights_from_digit)) := by
  refine T.F_Rights_from_digit.ok sc_Rights_from_digit (fun vs H Q E h => spF_len h) (fun cdv A outer s H vs Q E hr h => ?_)
  obtain ⟨Z, ds, W, Q2, E2, ok, a, h, ca, cx⟩ := h
  have nd := sc_Rights_from_digit.nd
  have hu := hu_of hr
  exact ⟨_, (PSs.im (pss_cons (PS.im (ps_if (PW.pt (PW.im (pw_or (PT.im (pt_not (PT.im (pt_val (PE.im (pe_callB call_isi (by rfl) T.m_isinstance (by decide +kernel) (PA.im (pa_cons (PE.im (pv 1) i_var) (PA.im (pa_cons (PE.im (pe_bltn (v := .ty "int") (by rfl) T.m_int (by decide +kernel) rfl) (i_c rfl)) (PA.im pa_nil i_nil)) i_cons)) i_cons)) (i_cb l_isi))) i_B)) i_not) (PW.im (pw_or (PT.im (pt_val (PE.im (pe_callB call_isi (by rfl) T.m_isinstance (by decide +kernel) (PA.im (pa_cons (PE.im (pv 1) i_var) (PA.im (pa_cons (PE.im (pe_bltn (v := .ty "bool") (by rfl) T.m_bool (by decide +kernel) rfl) (i_c rfl)) (PA.im pa_nil i_nil)) i_cons)) i_cons)) (i_cb l_isi))) i_B) (pw_or1 (PT.im (pt_not (PT.im (pt_chain op_le op_le (PE.im (pe_int) (i_c rfl)) (PE.im (pv 1) i_var) (PE.im (pe_int) (i_c rfl))) (i_test (i_chain l_s l_s)))) i_not))) i_or)) i_or))
        (pss_one (PS.im (ps_raise rfl (takes_of rfl rfl rfl rfl) (pmk_sup (k := 0) veF T.s_InvalidInteger T.i_InvalidInteger (hr.mono (by decide)) T.m_super (by rfl) T.m_InvalidInteger (PE.im (pv 1) i_var))) (i_raise xok_x)))
        (PSs.im pss_nil i_next)) i_ifS)
      (pss_one (PS.im (ps_ret (PE.im (pe_makeV (i := 0) T.mk_Rights ((ok_Rights_init T).rD (bD2_Rights_init T.F_Rights_init)) (hr.mono (by decide)) (passes_call (takes_of rfl rfl rfl rfl) (fun _ _ _ _ h => h)) rfl (Or.inl rfl) (PA.im (pa_cons (PE.im (pe_ix ix_tup (PE.im (pe_glob (v := .ref (He.ga K "WORDS")) rfl T.m_WORDS rfl) (i_gt T.q_WORDS rfl)) (PE.im (pv 1) i_var) (fun _ _ => rfl)) (i_op l_ixT)) (PA.im pa_nil i_nil)) i_cons)) (i_makeV (i_make (spIsI_D rfl) xok_x)))) i_ret))) i_seq),
    body_x ok a ca cx (ev_body (Nn := 2) rfl (v_seq (v_ifS (v_or (v_not (v_T (v_cb (k_isi T.isf) (v_consV (EvP.v v_var) (v_consV (EvP.v v_cty) v_nilV))))) (v_or (v_T (v_cb (k_isi T.isf) (v_consV (EvP.v v_var) (v_consV (EvP.v v_cty) v_nilV)))) (v_not (v_T (v_chain k_I0 k_I0 (EvP.v v_cint) (EvP.v v_var) (EvP.v v_cint))))))
        (v_raise v_var)
        v_next)
      (v_ret (v_makeV (v_make (FiE.dfl fie (by simp only [tDs, tD])) (v_cons (v_op k_ixT (EvP.v (v_c (by simp only [tD, tDs]))) (EvP.v v_var)) v_nil))))) h)⟩
theorem ok_Rights_listed (T : Txt w K mg) : FnOk P w K mg base CX0 1 (a_Rights_listed K) (fdOf K (a_Rights_listed K)) ["self"] (spL K (spF K f_Rights_listed)) := by
  refine T.F_Rights_listed.ok sc_Rights_listed (fun vs H Q E h => spF_len h) (fun cdv A outer s H vs Q E hr h => ?_)
  obtain ⟨Z, ds, W, Q2, E2, ok, a, h, ca, cx⟩ := h
  have nd := sc_Rights_listed.nd
  have hu := hu_of hr
  exact ⟨_, PSs.nox (pss_one (PS.im (ps_ret (PE.im (pe_callTy call_list_of (by rfl) T.m_list (by decide +kernel) (PA.im (pa_cons (PE.im (pe_fld (PE.im (pv 0) i_var) rfl) (i_fld T.k_Rights.cl T.n_Rights_own_letters)) (PA.im pa_nil i_nil)) i_cons)) (i_cb l_list))) i_ret)),
    body_x ok a ca cx (ev_body (Nn := 1) rfl (v_ret (v_cb k_list (v_consV (EvP.v (v_fld (EvP.v v_var))) v_nilV))) h)⟩
theorem ok_Rights_of (T : Txt w K mg) : FnR P w K mg base (L2.CX P w) 5 (a_Rights_of K) (spStar 1 (spL K (spF K f_Rights_of))) := by
  refine T.F_Rights_of.okStarX (ps := ["cls"]) (pv := "parts") sc_Rights_of (fun _ _ _ _ _ _ us rest hl => match us, rest, hl with | [_], [], _ => rfl | [_], _ :: _, _ => rfl) (fun cdv A outer s H vs Q E hr h => ?_)
  obtain ⟨Z, ds, W, Q2, E2, ok, a, h, ca, cx⟩ := h
  have nd := sc_Rights_of.nd
  have hu := hu_of hr
  exact ⟨_, (PSs.im (pss_cons (PS.im (ps_set (i := 2) nd rfl (Or.inl rfl) (PE.im (pe_int) (i_c rfl))) (i_asg (lg_name (by decide : 2 ∈ [2]))))
      (PSs.im (pss_cons (PS.im (ps_for (passes_of rfl) rfl (PI.im (pi_tup (PE.im (pv 1) i_var)) i_iTup) (pg_name (i := 3) nd rfl (Or.inl rfl))
        (PSs.im (pss_cut (PS.im (ps_set (i := 4) nd rfl (Or.inl rfl) (PE.im (pe_ifExp (PT.im (pt_val (PE.im (pe_callB call_isi (by rfl) T.m_isinstance (by decide +kernel) (PA.im (pa_cons (PE.im (pv 3) i_var) (PA.im (pa_cons (PE.im (pe_glob (v := .ref (He.ga K "Rights")) rfl T.m_Rights rfl) i_fn) (PA.im pa_nil i_nil)) i_cons)) i_cons)) (i_cb l_isi))) i_B) (PE.im (pe_prop (PE.im (pv 3) i_var) T.k_Rights.cl T.pr_Rights_digit (ok_Rights_digit T) (hr.mono (by decide)) (bN_Rights_digit T.F_Rights_digit) .nil pass0 rfl) (i_prop spIs xok_0)) (PE.im (pe_call (ok_digit_of T) (hr.mono (by decide)) (by rfl) T.m_digit_of T.F_digit_of.kp (bN_digit_of T.F_digit_of) .nil pass0 (PA.im (pa_cons (PE.im (pv 3) i_var) (PA.im pa_nil i_nil)) i_cons)) (i_call spIs xok_0))) i_if)) (i_asg (lg_name (by decide : 4 ∈ [4]))))
        (PSs.im (pss_cons (PS.im (ps_if (PT.im (pt_cmpR op_isN (PE.im (pv 4) i_var) (PE.im (pe_non) (i_c rfl)) (nomark _)) (i_test (i_op l_isN)))
          (pss_one (PS.im (ps_raise rfl (takes_of rfl rfl rfl rfl) (pmk_sup (k := 0) veF T.s_InvalidRights T.i_InvalidRights (hr.mono (by decide)) T.m_super (by rfl) T.m_InvalidRights (PE.im (pv 3) i_var))) (i_raise xok_x)))
          (PSs.im pss_nil i_next)) i_ifS)
        (pss_one (PS.im (ps_aug (i := 2) nd rfl (Or.inl rfl) (PE.im (pv 4) i_var) ip_or) (i_aug l_s)))) i_seq)) i_cut)) (i_for (ws := [3]) (lg_name (by decide))))
      (pss_one (PS.im (ps_ret (PE.im (pe_makeV (i := 0) T.mk_Rights ((ok_Rights_init T).rD (bD2_Rights_init T.F_Rights_init)) (hr.mono (by decide)) (passes_call (takes_of rfl rfl rfl rfl) (fun _ _ _ _ h => h)) rfl (Or.inl rfl) (PA.im (pa_cons (PE.im (pe_ix ix_tup (PE.im (pe_glob (v := .ref (He.ga K "WORDS")) rfl T.m_WORDS rfl) (i_gt T.q_WORDS rfl)) (PE.im (pv 2) i_var) (fun _ _ => rfl)) (i_op l_ixT)) (PA.im pa_nil i_nil)) i_cons)) (i_makeV (i_make (spIsI_D rfl) xok_x)))) i_ret))) i_seq)) i_seq),
    body_x ok a ca cx (ev_body (Nn := 5) rfl (v_seq (v_asg v_cint v_gname xf_name)
      (v_seq (v_for (v_iTup v_var) v_gname xf_name
        (v_cut (v_asg (v_if (v_T (v_cb (k_isi T.isf) (v_consV (EvP.v v_var) (v_consV (EvP.v (v_fn rfl)) v_nilV)))) (v_propC (FnE.calm0 fne) v_var) (v_callC (FnE.calm0 fne) (v_cons v_var v_nil))) v_gname xf_name)
        (v_seq (v_ifS (v_T (v_op k_isN (EvP.v v_var) (EvP.v v_cnon)))
          (v_raise v_var)
          v_next)
        (v_aug k_ip (EvP.v v_var)))))
      (v_ret (v_makeV (v_make (FiE.dfl fie (by simp only [tDs, tD])) (v_cons (v_op k_ixT (EvP.v (v_c (by simp only [tD, tDs]))) (EvP.v v_var)) v_nil)))))) h)⟩
theorem ok_law_box (T : Txt w K mg) : FnOk P w K mg base CX0 1 (a_law_box K) (fdOf K (a_law_box K)) ["_law_cell_here"] (spBag) := by
  refine T.F_law_box.ok sc_law_box (fun vs H Q E h => ?len) (fun cdv A outer s H vs Q E hr h => ?body)
  case len =>
    obtain ⟨n, rfl, _⟩ := h
    rfl
  case body =>
    obtain ⟨n, rfl, q⟩ := h
    have nd := sc_law_box.nd
    have hu := hu_of hr
    refine ⟨_, PSs.nox (pss_one (ps_ret (pe_lst (pa_cons (pe_callB (call_max2 rfl) (by rfl) T.m_max (by decide +kernel) (pa_cons pe_int (pa_cons (pe_op op_sub (pv 0) (pe_op op_pow pe_int pe_int)) pa_nil))) (pa_cons (pe_op op_mod (pv 0) pe_int) (pa_cons pe_int pa_nil)))))), ?_⟩
    walk_at "ss"
    refine fun p hp => q p _ hp ?_
    refine ⟨_, _, 0, upd_same, ?_, Int.emod_nonneg _ (by decide), Int.lt_of_lt_of_le (Int.emod_lt_of_pos _ (by decide)) (by decide), by decide, by decide⟩
    split <;> omega
theorem lo_law_caught (T : Txt w K mg) : LamOk P w K mg base 3 (a_law_caught K) "_law_caught" N_law_caught (defScope s_law_caught) (defBody s_law_caught) "_law_ask_here" f_law_caught := by
  intro cdg A outer s H Z W fL G θ Q2 Q E gd hr ok ha hθ h ca
  have nd := sc_law_caught.nd
  have hu := hu_of hr
  refine ⟨_, PSs.nox (PSs.im (pss_cons (PS.im (ps_try_hp (tb := tTry2 K _ _) (l := HP2.lay K _ (.as (.ref (He.ga K "InvalidRights")) 2 _ (.as (.ref (He.ga K "InvalidInteger")) 2 _ (.never)))) rfl rfl nd takes0 (fun Wy pn xe tk _ => pss_try2 (fun x2 => pss_cast (t := LS K (phiT K (phiL Z H W) x2 Wy) _) (pss_one (PS.im (ps_set (i := 1) nd rfl (Or.inl rfl) (ha Wy pn xe (L2.WE Wy) x2 (phiT K (phiL Z H W) x2 Wy) _ _ (fun _ _ _ h => h.1) (fun σ => passAt tk σ) xok_t)) (i_asg (lg_name (by decide : 1 ∈ [1]))))) (by dsimp only [Cx.tr, Cx.nox, cxOf])))
        (.as (i := 2) ⟨by rfl, by decide, Or.inl T.m_InvalidRights⟩ rfl rfl (suOk (fun a C fs oe d pn hz hf => (pss_one (PS.im (ps_ret (PE.im (pe_lst (PA.im (pa_cons (PE.im (pe_ix (ix_listB (K := K) rfl) (PE.im (pe_lst (PA.im (pa_cons (PE.im (pe_str) (i_c rfl)) (PA.im (pa_cons (PE.im (pe_str) (i_c rfl)) (PA.im pa_nil i_nil)) i_cons)) i_cons)) i_lst) (PE.im (pe_callTy call_int1 (by rfl) T.m_int (by decide +kernel) (PA.im (pa_cons (PE.im (pe_callB (call_isEDT T.e_InvalidRights hz hf) (by rfl) T.m_isinstance (by decide +kernel) (pa_cons (PE.im (pv 2) i_var) (pa_cons (pe_tup (PA.im (pa_cons (PE.im (pe_glob (v := .ref (He.ga K "InvalidInteger")) rfl T.m_InvalidInteger rfl) i_fn) (PA.im (pa_cons (PE.im (pe_glob (v := .ref (He.ga K "MissingError")) rfl T.m_MissingError rfl) i_fn) (PA.im (pa_cons (PE.im (pe_glob (v := .ref (He.ga K "RefusedError")) rfl T.m_RefusedError rfl) i_fn) (PA.im pa_nil i_nil)) i_cons)) i_cons)) i_cons)) pa_nil))) i_isET) (PA.im pa_nil i_nil)) i_cons)) (i_cb l_sL)) (fun _ _ => rfl)) (i_op l_ixL)) (PA.im (pa_cons (PE.im (pe_xf T.x_InvalidRights T.s_InvalidRights.nf hz hf (PE.im (pv 2) i_var)) i_xf) (PA.im pa_nil i_nil)) i_cons)) i_cons)) i_lst)) i_ret)))) (.as (i := 2) ⟨by rfl, by decide, Or.inl T.m_InvalidInteger⟩ rfl rfl (suOk (fun a C fs oe d pn hz hf => (pss_one (PS.im (ps_ret (PE.im (pe_lst (PA.im (pa_cons (PE.im (pe_ix (ix_listB (K := K) rfl) (PE.im (pe_lst (PA.im (pa_cons (PE.im (pe_str) (i_c rfl)) (PA.im (pa_cons (PE.im (pe_str) (i_c rfl)) (PA.im pa_nil i_nil)) i_cons)) i_cons)) i_lst) (PE.im (pe_callTy call_int1 (by rfl) T.m_int (by decide +kernel) (PA.im (pa_cons (PE.im (pe_callB (call_isEDT T.e_InvalidInteger hz hf) (by rfl) T.m_isinstance (by decide +kernel) (pa_cons (PE.im (pv 2) i_var) (pa_cons (pe_tup (PA.im (pa_cons (PE.im (pe_glob (v := .ref (He.ga K "MissingError")) rfl T.m_MissingError rfl) i_fn) (PA.im (pa_cons (PE.im (pe_glob (v := .ref (He.ga K "RefusedError")) rfl T.m_RefusedError rfl) i_fn) (PA.im pa_nil i_nil)) i_cons)) i_cons)) pa_nil))) i_isET) (PA.im pa_nil i_nil)) i_cons)) (i_cb l_sL)) (fun _ _ => rfl)) (i_op l_ixL)) (PA.im (pa_cons (PE.im (pe_xf T.x_InvalidInteger T.s_InvalidInteger.nf hz hf (PE.im (pv 2) i_var)) i_xf) (PA.im pa_nil i_nil)) i_cons)) i_cons)) i_lst)) i_ret)))) (.never)))) (i_try xokS_0))
      (pss_one (PS.im (ps_ret (PE.im (pe_lst (PA.im (pa_cons (PE.im (pe_str) (i_c rfl)) (PA.im (pa_cons (PE.im (pv 1) i_var) (PA.im pa_nil i_nil)) i_cons)) i_cons)) i_lst)) i_ret))) i_seq), body_l ok ca (ev_body (Nn := 3) rfl ?_ h)⟩
  exact (v_seq (v_try (fun x2 => (v_tAsg (v_thk hθ) v_gname xf_name)) (v_hcl T.sbx (fun xa xC xfs => (v_ret (v_lst (v_cons (v_op k_ixL (EvP.v (v_lst (v_cons v_cstr (v_cons v_cstr v_nil)))) (EvP.v (v_cb k_int1 (v_consV (EvP.v (v_isET T.sbt v_var (v_cons (v_fn rfl) (v_cons (v_fn rfl) (v_cons (v_fn rfl) v_nil))))) v_nilV)))) (v_cons (v_xf v_var) v_nil)))))
        (v_hcl T.sbx (fun xa xC xfs => (v_ret (v_lst (v_cons (v_op k_ixL (EvP.v (v_lst (v_cons v_cstr (v_cons v_cstr v_nil)))) (EvP.v (v_cb k_int1 (v_consV (EvP.v (v_isET T.sbt v_var (v_cons (v_fn rfl) (v_cons (v_fn rfl) v_nil)))) v_nilV)))) (v_cons (v_xf v_var) v_nil)))))
        v_hnever)))
      (v_ret (v_lst (v_cons v_cstr (v_cons v_var v_nil)))))
theorem ok_law_cell (T : Txt w K mg) : FnOk P w K mg base CX0 1 (a_law_cell K) (fdOf K (a_law_cell K)) ["_law_script", "_law_k"] (Fr.spCell K) := by
  refine T.F_law_cell.ok sc_law_cell (fun vs H Q E h => ?len) (fun cdv A outer s H vs Q E hr h => ?body)
  case len =>
    obtain ⟨a, ns, k, rfl, _⟩ := h
    rfl
  case body =>
    obtain ⟨a, ns, k, rfl, hS, hk, q⟩ := h
    have nd := sc_law_cell.nd
    have hu := hu_of hr
    refine ⟨_, PSs.nox (pss_one (ps_ret (pe_ifExp (pt_cmpR op_lt (pv 1) (pe_callB call_len_seq (by rfl) T.m_len PySem.boot_len (pa_cons (pv 0) pa_nil)) (nomark _)) (pe_ix ix_list (pv 0) (pv 1) (fun _ _ => rfl)) (pe_op op_add (pe_op op_mul pe_int (pv 1)) pe_int)))), ?_⟩
    walk_at "ss"
    refine ⟨a, ns.map V.int, rfl, .inl hS, ?_⟩
    walk_at "ss"
    refine w_ite (fun hlt => ?_) (fun hlt => ?_)
    · rw [len_ints] at hlt
      walk_at "ss"
      exact w_ixLS hS (at_ints (by omega)) (q _)
    · walk_at "ss"
      exact q _
theorem ok_law_take (T : Txt w K mg) : FnOk P w K mg base CX0 1 (a_law_take K) (fdOf K (a_law_take K)) ["_law_box_here", "_law_many"] (spTake) := by
  refine T.F_law_take.ok sc_law_take (fun vs H Q E h => ?len) (fun cdv A outer s H vs Q E hr h => ?body)
  case len =>
    obtain ⟨b, m, n, rfl, _⟩ := h
    rfl
  case body =>
    obtain ⟨b, m, n, rfl, hm0, hm1, ⟨x, y, z, hb, hx, hy0, hy1, hz0, hz1⟩, hn, q⟩ := h
    have nd := sc_law_take.nd
    have hu := hu_of hr
    refine ⟨_, PSs.nox (pss_cons (ps_if (pt_cmpR op_gt (pe_ix ix_list (pv 0) pe_int (fun _ _ => rfl)) pe_int (nomark _))
        (pss_cons (ps_set (i := 2) nd rfl (Or.inl rfl) (pe_op op_mod (pe_ix ix_list (pv 0) pe_int (fun _ _ => rfl)) (pv 1)))
        (pss_cons (ps_asg (pe_op op_fdiv (pe_ix ix_list (pv 0) pe_int (fun _ _ => rfl)) (pv 1)) (pg_sub (pv 0) pe_int set_list))
        (pss_one (ps_ret (pv 2)))))
        (pss_nil))
      (pss_cons (ps_asg (pe_op op_add (pe_ix ix_list (pv 0) pe_int (fun _ _ => rfl)) pe_int) (pg_sub (pv 0) pe_int set_list))
      (pss_cons (ps_set (i := 3) nd rfl (Or.inl rfl) (pe_op op_mod (pe_op op_pow (pe_op op_add (pe_op op_add (pe_ix ix_list (pv 0) pe_int (fun _ _ => rfl)) (pe_op op_mul pe_int (pe_ix ix_list (pv 0) pe_int (fun _ _ => rfl)))) pe_int) pe_int) pe_int))
      (pss_cons (ps_set (i := 3) nd rfl (Or.inl rfl) (pe_op op_mod (pe_op op_pow (pe_op op_add (pv 3) (pe_op op_mul pe_int (pe_ix ix_list (pv 0) pe_int (fun _ _ => rfl)))) pe_int) pe_int))
      (pss_one (ps_ret (pe_op op_mod (pe_op op_fdiv (pv 3) pe_int) (pv 1)))))))), ?_⟩
    walk_at "ss"
    refine w_ite (fun hpos => ?_) (fun hpos => ?_)
    · walk_at "ss"
      exact q _ _ (Int.emod_nonneg _ (by omega)) (Int.emod_lt_of_pos _ hm0) (Keep.set (by simp)) ⟨x / m, y, z, upd_same, Int.ediv_nonneg hx (by omega), hy0, hy1, hz0, by omega⟩
    · walk_at "ss"
      exact q _ _ (Int.emod_nonneg _ (by omega)) (Int.emod_lt_of_pos _ hm0) (Keep.set (by simp)) ⟨x, y, z + 1, upd_same, hx, hy0, hy1, by omega, by omega⟩
theorem ok_law_odd (T : Txt w K mg) : FnOk P w K mg base CX0 2 (a_law_odd K) (fdOf K (a_law_odd K)) ["_law_box_here"] (spL K (spF K f_law_odd)) := by
  refine T.F_law_odd.ok sc_law_odd (fun vs H Q E h => spF_len h) (fun cdv A outer s H vs Q E hr h => ?_)
  obtain ⟨Z, ds, W, Q2, E2, ok, a, h, ca, cx⟩ := h
  have nd := sc_law_odd.nd
  have hu := hu_of hr
  exact ⟨_, PSs.nox (PSs.im (pss_cons (PS.im (ps_set (i := 1) nd rfl (Or.inl rfl) (PE.im (pe_lst (PA.im (pa_cons (PE.im (pe_non) (i_c rfl)) (PA.im (pa_cons (PE.im (pe_bl) (i_c rfl)) (PA.im (pa_cons (PE.im (pe_bl) (i_c rfl)) (PA.im (pa_cons (PE.im (pe_int) (i_c rfl)) (PA.im (pa_cons (PE.im (pe_un un_neg (PE.im (pe_int) (i_c rfl))) (i_un l_s1)) (PA.im (pa_cons (PE.im (pe_int) (i_c rfl)) (PA.im (pa_cons (PE.im (pe_op op_pow (PE.im (pe_int) (i_c rfl)) (PE.im (pe_int) (i_c rfl))) (i_op l_s)) (PA.im (pa_cons (PE.im (pe_str) (i_c rfl)) (PA.im (pa_cons (PE.im (pe_str) (i_c rfl)) (PA.im (pa_cons (PE.im (pe_str) (i_c rfl)) (PA.im (pa_cons (PE.im (pe_str) (i_c rfl)) (PA.im (pa_cons (PE.im (pe_str) (i_c rfl)) (PA.im (pa_cons (PE.im (pe_str) (i_c rfl)) (PA.im (pa_cons (PE.im (pe_str) (i_c rfl)) (PA.im (pa_cons (PE.im (pe_lst (PA.im pa_nil i_nil)) i_lst) (PA.im (pa_cons (PE.im (pe_lst (PA.im (pa_cons (PE.im (pe_int) (i_c rfl)) (PA.im pa_nil i_nil)) i_cons)) i_lst) (PA.im (pa_cons (PE.im (pe_dnewK) i_dnew) (PA.im pa_nil i_nil)) i_cons)) i_cons)) i_cons)) i_cons)) i_cons)) i_cons)) i_cons)) i_cons)) i_cons)) i_cons)) i_cons)) i_cons)) i_cons)) i_cons)) i_cons)) i_cons)) i_cons)) i_lst)) (i_asg (lg_name (by decide : 1 ∈ [1]))))
      (PSs.im (pss_cons (PS.im (ps_set (i := 1) nd rfl (Or.inl rfl) (PE.im (pe_op op_cat (PE.im (pv 1) i_var) (PE.im (pe_lst (PA.im (pa_cons (PE.im (pe_disp (pps_cons (PE.im (pe_str) (i_c rfl)) (PE.im (pe_int) (i_c rfl)) pps_nil) (by rfl) (by rfl) (fun z => by cases z) (by decide)) (i_disp (ps := [(_, _)]))) (PA.im (pa_cons (PE.im (pe_tup (PA.im pa_nil i_nil)) i_tup) (PA.im (pa_cons (PE.im (pe_tup (PA.im (pa_cons (PE.im (pe_str) (i_c rfl)) (PA.im (pa_cons (PE.im (pe_str) (i_c rfl)) (PA.im pa_nil i_nil)) i_cons)) i_cons)) i_tup) (PA.im (pa_cons (PE.im (pe_lst (PA.im (pa_cons (PE.im (pe_str) (i_c rfl)) (PA.im (pa_cons (PE.im (pe_str) (i_c rfl)) (PA.im (pa_cons (PE.im (pe_str) (i_c rfl)) (PA.im pa_nil i_nil)) i_cons)) i_cons)) i_cons)) i_lst) (PA.im (pa_cons (PE.im (pe_str) (i_c rfl)) (PA.im (pa_cons (PE.im (pe_str) (i_c rfl)) (PA.im (pa_cons (PE.im (pe_str) (i_c rfl)) (PA.im (pa_cons (PE.im (pe_str) (i_c rfl)) (PA.im (pa_cons (PE.im (pe_str) (i_c rfl)) (PA.im (pa_cons (PE.im (pe_str) (i_c rfl)) (PA.im (pa_cons (PE.im (pe_str) (i_c rfl)) (PA.im (pa_cons (PE.im (pe_int) (i_c rfl)) (PA.im (pa_cons (PE.im (pe_str) (i_c rfl)) (PA.im pa_nil i_nil)) i_cons)) i_cons)) i_cons)) i_cons)) i_cons)) i_cons)) i_cons)) i_cons)) i_cons)) i_cons)) i_cons)) i_cons)) i_cons)) i_lst)) (i_op l_cat))) (i_asg (lg_name (by decide : 1 ∈ [1]))))
      (pss_one (PS.im (ps_ret (PE.im (pe_ix ix_list (PE.im (pv 1) i_var) (PE.im (pe_call (ok_law_take T) (hr.mono (by decide)) (by rfl) T.m_law_take T.F_law_take.kp (bN_law_take T.F_law_take) .nil pass0 (PA.im (pa_cons (PE.im (pv 0) i_var) (PA.im (pa_cons (PE.im (pe_int) (i_c rfl)) (PA.im pa_nil i_nil)) i_cons)) i_cons)) (i_call is_take xok_0)) (fun _ _ => rfl)) (i_op l_ixL))) i_ret))) i_seq)) i_seq),
    body_x ok a ca cx (ev_body (Nn := 2) rfl (v_seq (v_asg (v_lst (v_cons v_cnon (v_cons v_cbool (v_cons v_cbool (v_cons v_cint (v_cons (v_un k_U (EvP.v v_cint)) (v_cons v_cint (v_cons (v_op k_pow (EvP.v v_cint) (EvP.v v_cint)) (v_cons v_cstr (v_cons v_cstr (v_cons v_cstr (v_cons v_cstr (v_cons v_cstr (v_cons v_cstr (v_cons v_cstr (v_cons (v_lst v_nil) (v_cons (v_lst (v_cons v_cint v_nil)) (v_cons v_dnew v_nil)))))))))))))))))) v_gname xf_name)
      (v_seq (v_asg (v_op k_cat (EvP.v v_var) (EvP.v (v_lst (v_cons (v_disp (v_pcons v_cstr v_cint v_pnil)) (v_cons (v_tup v_nil) (v_cons (v_tup (v_cons v_cstr (v_cons v_cstr v_nil))) (v_cons (v_lst (v_cons v_cstr (v_cons v_cstr (v_cons v_cstr v_nil)))) (v_cons v_cstr (v_cons v_cstr (v_cons v_cstr (v_cons v_cstr (v_cons v_cstr (v_cons v_cstr (v_cons v_cstr (v_cons v_cint (v_cons v_cstr v_nil)))))))))))))))) v_gname xf_name)
      (v_ret (v_op k_ixL (EvP.v v_var) (EvP.v (v_callC (FnE.calm0 fne_take) (v_cons v_var (v_cons v_cint v_nil)))))))) h)⟩
theorem ok_Rights_contains (T : Txt w K mg) : FnOk P w K mg base CX0 1 (a_Rights_contains K) (fdOf K (a_Rights_contains K)) ["self", "value"] (spL K (spF K f_Rights_contains)) := by
  refine T.F_Rights_contains.ok sc_Rights_contains (fun vs H Q E h => spF_len h) (fun cdv A outer s H vs Q E hr h => ?_)
  obtain ⟨Z, ds, W, Q2, E2, ok, a, h, ca, cx⟩ := h
  have nd := sc_Rights_contains.nd
  have hu := hu_of hr
  exact ⟨_, PSs.nox (pss_one (PS.im (ps_ret (PE.im (pe_and (PE.im (pe_callB call_isi (by rfl) T.m_isinstance (by decide +kernel) (PA.im (pa_cons (PE.im (pv 1) i_var) (PA.im (pa_cons (PE.im (pe_bltn (v := .ty "str") (by rfl) T.m_str (by decide +kernel) rfl) (i_c rfl)) (PA.im pa_nil i_nil)) i_cons)) i_cons)) (i_cb l_isi)) (pe_one (PE.im (pe_cmpR op_in_seq (PE.im (pv 1) i_var) (PE.im (pe_fld (PE.im (pv 0) i_var) rfl) (i_fld T.k_Rights.cl T.n_Rights_own_letters)) (by rfl)) (i_op l_in)))) i_andV)) i_ret)),
    body_x ok a ca cx (ev_body (Nn := 2) rfl (v_ret (v_andV (v_cb (k_isi T.isf) (v_consV (EvP.v v_var) (v_consV (EvP.v v_cty) v_nilV))) (v_op k_in (EvP.v v_var) (EvP.v (v_fld (EvP.v v_var)))))) h)⟩
theorem ok_Rights_and (T : Txt w K mg) : FnOk P w K mg base (L2.CX P w) 5 (a_Rights_and K) (fdOf K (a_Rights_and K)) ["self", "other"] (spL K (spF K f_Rights_and)) := by
  refine T.F_Rights_and.ok sc_Rights_and (fun vs H Q E h => spF_len h) (fun cdv A outer s H vs Q E hr h => ?_)
  obtain ⟨Z, ds, W, Q2, E2, ok, a, h, ca, cx⟩ := h
  have nd := sc_Rights_and.nd
  have hu := hu_of hr
  exact ⟨_, (PSs.im (pss_cons (PS.im (ps_if (PT.im (pt_not (PT.im (pt_val (PE.im (pe_callB call_isi (by rfl) T.m_isinstance (by decide +kernel) (PA.im (pa_cons (PE.im (pv 1) i_var) (PA.im (pa_cons (PE.im (pe_glob (v := .ref (He.ga K "Rights")) rfl T.m_Rights rfl) i_fn) (PA.im pa_nil i_nil)) i_cons)) i_cons)) (i_cb l_isi))) i_B)) i_not)
        (pss_one (PS.im (ps_raise rfl (takes_of rfl rfl rfl rfl) (pmk_sup (k := 0) veF T.s_InvalidRights T.i_InvalidRights (hr.mono (by decide)) T.m_super (by rfl) T.m_InvalidRights (PE.im (pv 1) i_var))) (i_raise xok_x)))
        (PSs.im pss_nil i_next)) i_ifS)
      (pss_one (PS.im (ps_ret (PE.im (StX.pe_makeR T.mk_Rights ((ok_Rights_init T).rD (bD2_Rights_init T.F_Rights_init)) (hr.mono (by decide)) (by rfl) T.m_Rights (passes_call (takes_of rfl rfl rfl rfl) (fun _ _ _ _ h => h)) (PA.im (pa_cons (PE.im (pe_ix ix_tup (PE.im (pe_glob (v := .ref (He.ga K "WORDS")) rfl T.m_WORDS rfl) (i_gt T.q_WORDS rfl)) (PE.im (pe_op op_and (PE.im (pe_fld (PE.im (pv 0) i_var) rfl) (i_fld T.k_Rights.cl T.n_Rights_own_digit)) (PE.im (pe_fld (PE.im (pv 1) i_var) rfl) (i_fld T.k_Rights.cl T.n_Rights_own_digit))) (i_op l_s)) (fun _ _ => rfl)) (i_op l_ixT)) (PA.im pa_nil i_nil)) i_cons)) (i_make (spIsI_D rfl) xok_x))) i_ret))) i_seq),
    body_x ok a ca cx (ev_body (Nn := 2) rfl (v_seq (v_ifS (v_not (v_T (v_cb (k_isi T.isf) (v_consV (EvP.v v_var) (v_consV (EvP.v (v_fn rfl)) v_nilV)))))
        (v_raise v_var)
        v_next)
      (v_ret (v_make (FiE.dfl fie (by simp only [tDs, tD])) (v_cons (v_op k_ixT (EvP.v (v_c (by simp only [tD, tDs]))) (EvP.v (v_op k_I0 (EvP.v (v_fld (EvP.v v_var))) (EvP.v (v_fld (EvP.v v_var)))))) v_nil)))) h)⟩
theorem ok_Rights_or (T : Txt w K mg) : FnOk P w K mg base (L2.CX P w) 5 (a_Rights_or K) (fdOf K (a_Rights_or K)) ["self", "other"] (spL K (spF K f_Rights_or)) := by
  refine T.F_Rights_or.ok sc_Rights_or (fun vs H Q E h => spF_len h) (fun cdv A outer s H vs Q E hr h => ?_)
  obtain ⟨Z, ds, W, Q2, E2, ok, a, h, ca, cx⟩ := h
  have nd := sc_Rights_or.nd
  have hu := hu_of hr
  exact ⟨_, (PSs.im (pss_cons (PS.im (ps_if (PT.im (pt_not (PT.im (pt_val (PE.im (pe_callB call_isi (by rfl) T.m_isinstance (by decide +kernel) (PA.im (pa_cons (PE.im (pv 1) i_var) (PA.im (pa_cons (PE.im (pe_glob (v := .ref (He.ga K "Rights")) rfl T.m_Rights rfl) i_fn) (PA.im pa_nil i_nil)) i_cons)) i_cons)) (i_cb l_isi))) i_B)) i_not)
        (pss_one (PS.im (ps_raise rfl (takes_of rfl rfl rfl rfl) (pmk_sup (k := 0) veF T.s_InvalidRights T.i_InvalidRights (hr.mono (by decide)) T.m_super (by rfl) T.m_InvalidRights (PE.im (pv 1) i_var))) (i_raise xok_x)))
        (PSs.im pss_nil i_next)) i_ifS)
      (pss_one (PS.im (ps_ret (PE.im (StX.pe_makeR T.mk_Rights ((ok_Rights_init T).rD (bD2_Rights_init T.F_Rights_init)) (hr.mono (by decide)) (by rfl) T.m_Rights (passes_call (takes_of rfl rfl rfl rfl) (fun _ _ _ _ h => h)) (PA.im (pa_cons (PE.im (pe_ix ix_tup (PE.im (pe_glob (v := .ref (He.ga K "WORDS")) rfl T.m_WORDS rfl) (i_gt T.q_WORDS rfl)) (PE.im (pe_op op_or (PE.im (pe_fld (PE.im (pv 0) i_var) rfl) (i_fld T.k_Rights.cl T.n_Rights_own_digit)) (PE.im (pe_fld (PE.im (pv 1) i_var) rfl) (i_fld T.k_Rights.cl T.n_Rights_own_digit))) (i_op l_s)) (fun _ _ => rfl)) (i_op l_ixT)) (PA.im pa_nil i_nil)) i_cons)) (i_make (spIsI_D rfl) xok_x))) i_ret))) i_seq),
    body_x ok a ca cx (ev_body (Nn := 2) rfl (v_seq (v_ifS (v_not (v_T (v_cb (k_isi T.isf) (v_consV (EvP.v v_var) (v_consV (EvP.v (v_fn rfl)) v_nilV)))))
        (v_raise v_var)
        v_next)
      (v_ret (v_make (FiE.dfl fie (by simp only [tDs, tD])) (v_cons (v_op k_ixT (EvP.v (v_c (by simp only [tD, tDs]))) (EvP.v (v_op k_I0 (EvP.v (v_fld (EvP.v v_var))) (EvP.v (v_fld (EvP.v v_var)))))) v_nil)))) h)⟩
theorem ok_Rights_sub (T : Txt w K mg) : FnOk P w K mg base (L2.CX P w) 5 (a_Rights_sub K) (fdOf K (a_Rights_sub K)) ["self", "other"] (spL K (spF K f_Rights_sub)) := by
  refine T.F_Rights_sub.ok sc_Rights_sub (fun vs H Q E h => spF_len h) (fun cdv A outer s H vs Q E hr h => ?_)
  obtain ⟨Z, ds, W, Q2, E2, ok, a, h, ca, cx⟩ := h
  have nd := sc_Rights_sub.nd
  have hu := hu_of hr
  exact ⟨_, (PSs.im (pss_cons (PS.im (ps_if (PT.im (pt_not (PT.im (pt_val (PE.im (pe_callB call_isi (by rfl) T.m_isinstance (by decide +kernel) (PA.im (pa_cons (PE.im (pv 1) i_var) (PA.im (pa_cons (PE.im (pe_glob (v := .ref (He.ga K "Rights")) rfl T.m_Rights rfl) i_fn) (PA.im pa_nil i_nil)) i_cons)) i_cons)) (i_cb l_isi))) i_B)) i_not)
        (pss_one (PS.im (ps_raise rfl (takes_of rfl rfl rfl rfl) (pmk_sup (k := 0) veF T.s_InvalidRights T.i_InvalidRights (hr.mono (by decide)) T.m_super (by rfl) T.m_InvalidRights (PE.im (pv 1) i_var))) (i_raise xok_x)))
        (PSs.im pss_nil i_next)) i_ifS)
      (pss_one (PS.im (ps_ret (PE.im (StX.pe_makeR T.mk_Rights ((ok_Rights_init T).rD (bD2_Rights_init T.F_Rights_init)) (hr.mono (by decide)) (by rfl) T.m_Rights (passes_call (takes_of rfl rfl rfl rfl) (fun _ _ _ _ h => h)) (PA.im (pa_cons (PE.im (pe_ix ix_tup (PE.im (pe_glob (v := .ref (He.ga K "WORDS")) rfl T.m_WORDS rfl) (i_gt T.q_WORDS rfl)) (PE.im (pe_op op_and (PE.im (pe_fld (PE.im (pv 0) i_var) rfl) (i_fld T.k_Rights.cl T.n_Rights_own_digit)) (PE.im (pe_op op_sub (PE.im (pe_int) (i_c rfl)) (PE.im (pe_fld (PE.im (pv 1) i_var) rfl) (i_fld T.k_Rights.cl T.n_Rights_own_digit))) (i_op l_s))) (i_op l_s)) (fun _ _ => rfl)) (i_op l_ixT)) (PA.im pa_nil i_nil)) i_cons)) (i_make (spIsI_D rfl) xok_x))) i_ret))) i_seq),
    body_x ok a ca cx (ev_body (Nn := 2) rfl (v_seq (v_ifS (v_not (v_T (v_cb (k_isi T.isf) (v_consV (EvP.v v_var) (v_consV (EvP.v (v_fn rfl)) v_nilV)))))
        (v_raise v_var)
        v_next)
      (v_ret (v_make (FiE.dfl fie (by simp only [tDs, tD])) (v_cons (v_op k_ixT (EvP.v (v_c (by simp only [tD, tDs]))) (EvP.v (v_op k_I0 (EvP.v (v_fld (EvP.v v_var))) (EvP.v (v_op k_I0 (EvP.v v_cint) (EvP.v (v_fld (EvP.v v_var)))))))) v_nil)))) h)⟩
theorem ok_Rights_xor (T : Txt w K mg) : FnOk P w K mg base (L2.CX P w) 5 (a_Rights_xor K) (fdOf K (a_Rights_xor K)) ["self", "other"] (spL K (spF K f_Rights_xor)) := by
  refine T.F_Rights_xor.ok sc_Rights_xor (fun vs H Q E h => spF_len h) (fun cdv A outer s H vs Q E hr h => ?_)
  obtain ⟨Z, ds, W, Q2, E2, ok, a, h, ca, cx⟩ := h
  have nd := sc_Rights_xor.nd
  have hu := hu_of hr
  exact ⟨_, (PSs.im (pss_cons (PS.im (ps_if (PT.im (pt_not (PT.im (pt_val (PE.im (pe_callB call_isi (by rfl) T.m_isinstance (by decide +kernel) (PA.im (pa_cons (PE.im (pv 1) i_var) (PA.im (pa_cons (PE.im (pe_glob (v := .ref (He.ga K "Rights")) rfl T.m_Rights rfl) i_fn) (PA.im pa_nil i_nil)) i_cons)) i_cons)) (i_cb l_isi))) i_B)) i_not)
        (pss_one (PS.im (ps_raise rfl (takes_of rfl rfl rfl rfl) (pmk_sup (k := 0) veF T.s_InvalidRights T.i_InvalidRights (hr.mono (by decide)) T.m_super (by rfl) T.m_InvalidRights (PE.im (pv 1) i_var))) (i_raise xok_x)))
        (PSs.im pss_nil i_next)) i_ifS)
      (pss_one (PS.im (ps_ret (PE.im (StX.pe_makeR T.mk_Rights ((ok_Rights_init T).rD (bD2_Rights_init T.F_Rights_init)) (hr.mono (by decide)) (by rfl) T.m_Rights (passes_call (takes_of rfl rfl rfl rfl) (fun _ _ _ _ h => h)) (PA.im (pa_cons (PE.im (pe_ix ix_tup (PE.im (pe_glob (v := .ref (He.ga K "WORDS")) rfl T.m_WORDS rfl) (i_gt T.q_WORDS rfl)) (PE.im (pe_op op_xor (PE.im (pe_fld (PE.im (pv 0) i_var) rfl) (i_fld T.k_Rights.cl T.n_Rights_own_digit)) (PE.im (pe_fld (PE.im (pv 1) i_var) rfl) (i_fld T.k_Rights.cl T.n_Rights_own_digit))) (i_op l_s)) (fun _ _ => rfl)) (i_op l_ixT)) (PA.im pa_nil i_nil)) i_cons)) (i_make (spIsI_D rfl) xok_x))) i_ret))) i_seq),
    body_x ok a ca cx (ev_body (Nn := 2) rfl (v_seq (v_ifS (v_not (v_T (v_cb (k_isi T.isf) (v_consV (EvP.v v_var) (v_consV (EvP.v (v_fn rfl)) v_nilV)))))
        (v_raise v_var)
        v_next)
      (v_ret (v_make (FiE.dfl fie (by simp only [tDs, tD])) (v_cons (v_op k_ixT (EvP.v (v_c (by simp only [tD, tDs]))) (EvP.v (v_op k_I0 (EvP.v (v_fld (EvP.v v_var))) (EvP.v (v_fld (EvP.v v_var)))))) v_nil)))) h)⟩
theorem ok_bits_of (T : Txt w K mg) : FnOk P w K mg base (L2.CX P w) 5 (a_bits_of K) (fdOf K (a_bits_of K)) ["value"] (spL K (spF K f_bits_of)) := by
  refine T.F_bits_of.ok sc_bits_of (fun vs H Q E h => spF_len h) (fun cdv A outer s H vs Q E hr h => ?_)
  obtain ⟨Z, ds, W, Q2, E2, ok, a, h, ca, cx⟩ := h
  have nd := sc_bits_of.nd
  have hu := hu_of hr
  exact ⟨_, (PSs.im (pss_cons (PS.im (ps_if (PT.im (pt_not (PT.im (pt_val (PE.im (pe_callB call_isi (by rfl) T.m_isinstance (by decide +kernel) (PA.im (pa_cons (PE.im (pv 0) i_var) (PA.im (pa_cons (PE.im (pe_glob (v := .ref (He.ga K "Rights")) rfl T.m_Rights rfl) i_fn) (PA.im pa_nil i_nil)) i_cons)) i_cons)) (i_cb l_isi))) i_B)) i_not)
        (pss_one (PS.im (ps_raise rfl (takes_of rfl rfl rfl rfl) (pmk_sup (k := 0) veF T.s_InvalidRights T.i_InvalidRights (hr.mono (by decide)) T.m_super (by rfl) T.m_InvalidRights (PE.im (pv 0) i_var))) (i_raise xok_x)))
        (PSs.im pss_nil i_next)) i_ifS)
      (pss_one (PS.im (ps_ret (PE.im (pe_fld (PE.im (pv 0) i_var) rfl) (i_fld T.k_Rights.cl T.n_Rights_own_digit))) i_ret))) i_seq),
    body_x ok a ca cx (ev_body (Nn := 1) rfl (v_seq (v_ifS (v_not (v_T (v_cb (k_isi T.isf) (v_consV (EvP.v v_var) (v_consV (EvP.v (v_fn rfl)) v_nilV)))))
        (v_raise v_var)
        v_next)
      (v_ret (v_fld (EvP.v v_var)))) h)⟩
theorem ok_Rights_covers (T : Txt w K mg) : FnOk P w K mg base (L2.CX P w) 6 (a_Rights_covers K) (fdOf K (a_Rights_covers K)) ["self", "other"] (spL K (spF K f_Rights_covers)) := by
  refine T.F_Rights_covers.ok sc_Rights_covers (fun vs H Q E h => spF_len h) (fun cdv A outer s H vs Q E hr h => ?_)
  obtain ⟨Z, ds, W, Q2, E2, ok, a, h, ca, cx⟩ := h
  have nd := sc_Rights_covers.nd
  have hu := hu_of hr
  exact ⟨_, (pss_one (PS.im (ps_ret (PE.im (pe_cmpR op_eq (PE.im (pe_op op_and (PE.im (pe_fld (PE.im (pv 0) i_var) rfl) (i_fld T.k_Rights.cl T.n_Rights_own_digit)) (PE.im (pe_call (ok_bits_of T) (hr.mono (by decide)) (by rfl) T.m_bits_of T.F_bits_of.kp (bN_bits_of T.F_bits_of) .nil (passes_call (takes_of rfl rfl rfl rfl) (fun _ _ _ _ h => h)) (PA.im (pa_cons (PE.im (pv 1) i_var) (PA.im pa_nil i_nil)) i_cons)) (i_call spIs xok_x))) (i_op l_s)) (PE.im (pe_call (ok_bits_of T) (hr.mono (by decide)) (by rfl) T.m_bits_of T.F_bits_of.kp (bN_bits_of T.F_bits_of) .nil (passes_call (takes_of rfl rfl rfl rfl) (fun _ _ _ _ h => h)) (PA.im (pa_cons (PE.im (pv 1) i_var) (PA.im pa_nil i_nil)) i_cons)) (i_call spIs xok_x)) (nomark _)) (i_op l_s))) i_ret)),
    body_x ok a ca cx (ev_body (Nn := 2) rfl (v_ret (v_op k_eq (EvP.v (v_op k_I0 (EvP.v (v_fld (EvP.v v_var))) (EvP.v (v_call fne (v_cons v_var v_nil))))) (EvP.v (v_call fne (v_cons v_var v_nil))))) h)⟩
theorem ok_law_sign (T : Txt w K mg) : FnOk P w K mg base (L2.CX P w) 9 (a_law_sign K) (fdOf K (a_law_sign K)) ["_law_one", "_law_odd_here", "_law_way"] (spL K (spF K f_law_sign)) := by
  refine T.F_law_sign.ok sc_law_sign (fun vs H Q E h => spF_len h) (fun cdv A outer s H vs Q E hr h => ?_)
  obtain ⟨Z, ds, W, Q2, E2, ok, a, h, ca, cx⟩ := h
  have nd := sc_law_sign.nd
  have hu := hu_of hr
  exact ⟨_, (PSs.im (pss_cons (PS.im (ps_if (PT.im (pt_cmpR op_lt (PE.im (pv 2) i_var) (PE.im (pe_int) (i_c rfl)) (nomark _)) (i_test (i_op l_s)))
        (PSs.im (pss_cons (PS.im (ps_if (PT.im (pt_cmpR op_lt (PE.im (pv 2) i_var) (PE.im (pe_int) (i_c rfl)) (nomark _)) (i_test (i_op l_s)))
          (pss_one (PS.im (ps_ret (PE.im (pe_ifExp (PT.im (pt_cmpR op_eq (PE.im (pv 2) i_var) (PE.im (pe_int) (i_c rfl)) (nomark _)) (i_test (i_op l_s))) (PE.im (pe_op (op_binA (K := K) rfl (op := .BitOr) T.k_Rights.sf T.bt_Rights_or T.du_Rights_or ((ok_Rights_or T).r (bN_Rights_or T.F_Rights_or)) (hr.mono (by decide)) (passes_call (takes_of rfl rfl rfl rfl) (fun _ _ _ _ h => h))) (PE.im (pv 0) i_var) (PE.im (pv 1) i_var)) (i_binA spIs xok_x)) (PE.im (pe_op (op_binA (K := K) rfl (op := .BitAnd) T.k_Rights.sf T.bt_Rights_and T.du_Rights_and ((ok_Rights_and T).r (bN_Rights_and T.F_Rights_and)) (hr.mono (by decide)) (passes_call (takes_of rfl rfl rfl rfl) (fun _ _ _ _ h => h))) (PE.im (pv 0) i_var) (PE.im (pv 1) i_var)) (i_binA spIs xok_x))) i_if)) i_ret))
          (PSs.im pss_nil i_next)) i_ifS)
        (pss_one (PS.im (ps_ret (PE.im (pe_ifExp (PT.im (pt_cmpR op_eq (PE.im (pv 2) i_var) (PE.im (pe_int) (i_c rfl)) (nomark _)) (i_test (i_op l_s))) (PE.im (pe_op (op_binA (K := K) rfl (op := .Sub) T.k_Rights.sf T.bt_Rights_sub T.du_Rights_sub ((ok_Rights_sub T).r (bN_Rights_sub T.F_Rights_sub)) (hr.mono (by decide)) (passes_call (takes_of rfl rfl rfl rfl) (fun _ _ _ _ h => h))) (PE.im (pv 0) i_var) (PE.im (pv 1) i_var)) (i_binA spIs xok_x)) (PE.im (pe_op (op_binA (K := K) rfl (op := .BitXor) T.k_Rights.sf T.bt_Rights_xor T.du_Rights_xor ((ok_Rights_xor T).r (bN_Rights_xor T.F_Rights_xor)) (hr.mono (by decide)) (passes_call (takes_of rfl rfl rfl rfl) (fun _ _ _ _ h => h))) (PE.im (pv 0) i_var) (PE.im (pv 1) i_var)) (i_binA spIs xok_x))) i_if)) i_ret))) i_seq)
        (PSs.im pss_nil i_next)) i_ifS)
      (pss_one (PS.im (ps_ret (PE.im (pe_meth (PE.im (pv 0) i_var) T.k_Rights.cl T.me_Rights_covers (ok_Rights_covers T) (hr.mono (by decide)) (bN_Rights_covers T.F_Rights_covers) .nil (passes_call (takes_of rfl rfl rfl rfl) (fun _ _ _ _ h => h)) (PA.im (pa_cons (PE.im (pv 1) i_var) (PA.im pa_nil i_nil)) i_cons)) (i_meth spIs xok_x))) i_ret))) i_seq),
    body_x ok a ca cx (ev_body (Nn := 3) rfl (v_seq (v_ifS (v_T (v_op k_I0 (EvP.v v_var) (EvP.v v_cint)))
        (v_seq (v_ifS (v_T (v_op k_I0 (EvP.v v_var) (EvP.v v_cint)))
          (v_ret (v_if (v_T (v_op k_eq (EvP.v v_var) (EvP.v v_cint))) (v_binA fne v_var v_var) (v_binA fne v_var v_var)))
          v_next)
        (v_ret (v_if (v_T (v_op k_eq (EvP.v v_var) (EvP.v v_cint))) (v_binA fne v_var v_var) (v_binA fne v_var v_var))))
        v_next)
      (v_ret (v_meth fne v_var (v_cons v_var v_nil)))) h)⟩
theorem ok_as_rights (T : Txt w K mg) : FnOk P w K mg base (L2.CX P w) 6 (a_as_rights K) (fdOf K (a_as_rights K)) ["value"] (spL K (spF K f_as_rights)) := by
  refine T.F_as_rights.ok sc_as_rights (fun vs H Q E h => spF_len h) (fun cdv A outer s H vs Q E hr h => ?_)
  obtain ⟨Z, ds, W, Q2, E2, ok, a, h, ca, cx⟩ := h
  have nd := sc_as_rights.nd
  have hu := hu_of hr
  exact ⟨_, (pss_one (PS.im (ps_ret (PE.im (ClX.pe_cmeth (PE.im (pe_glob (v := .ref (He.ga K "Rights")) rfl T.m_Rights rfl) i_fn) T.k_Rights.rd T.cm_Rights_of (ok_Rights_of T) (hr.mono (by decide)) (passes_call (takes_of rfl rfl rfl rfl) (fun _ _ _ _ h => h)) (PA.im (pa_cons (PE.im (pv 0) i_var) (PA.im pa_nil i_nil)) i_cons)) (i_cmeth spIs_star xok_x))) i_ret)),
    body_x ok a ca cx (ev_body (Nn := 1) rfl (v_ret (v_cmeth (FnE.star fne) (v_fn rfl) (v_cons v_var v_nil))) h)⟩
theorem ok_law_ask (T : Txt w K mg) : FnG P w K mg base (L2.CX P w) 10 (a_law_ask K) (fdOf K (a_law_ask K)) ["_law_way", "_law_odd_here"] (spL K (spF K f_law_ask)) := by
  refine T.F_law_ask.okG sc_law_ask (fun vs H Q E h => spF_len h) (fun cdv A outer s H vs Q E gd hr h => ?_)
  obtain ⟨Z, ds, W, Q2, E2, ok, a, h, ca, cx⟩ := h
  have nd := sc_law_ask.nd
  have hu := hu_of hr
  exact ⟨_, (PSs.im (pss_cons (PS.im (ps_if (PT.im (pt_cmpR op_lt (PE.im (pv 0) i_var) (PE.im (pe_int) (i_c rfl)) (nomark _)) (i_test (i_op l_s)))
        (pss_one (PS.im (ps_ret (PE.im (pe_call (ok_law_sign T) (hr.mono (by decide)) (by rfl) T.m_law_sign T.F_law_sign.kp (bN_law_sign T.F_law_sign) .nil (passes_call (takes_of rfl rfl rfl rfl) (fun _ _ _ _ h => h)) (PA.im (pa_cons (PE.im (pe_ix ix_list (PE.im (pe_lst (PA.im (pa_cons (PE.im (StX.pe_makeR T.mk_Rights ((ok_Rights_init T).rD (bD2_Rights_init T.F_Rights_init)) (hr.mono (by decide)) (by rfl) T.m_Rights (passes_call (takes_of rfl rfl rfl rfl) (fun _ _ _ _ h => h)) (PA.im (pa_cons (PE.im (pe_str) (i_c rfl)) (PA.im pa_nil i_nil)) i_cons)) (i_make (spIsI_D rfl) xok_x)) (PA.im (pa_cons (PE.im (StX.pe_makeR T.mk_Rights ((ok_Rights_init T).rD (bD2_Rights_init T.F_Rights_init)) (hr.mono (by decide)) (by rfl) T.m_Rights (passes_call (takes_of rfl rfl rfl rfl) (fun _ _ _ _ h => h)) (PA.im (pa_cons (PE.im (pe_str) (i_c rfl)) (PA.im pa_nil i_nil)) i_cons)) (i_make (spIsI_D rfl) xok_x)) (PA.im (pa_cons (PE.im (pe_makeR0 T.mk_Rights ((ok_Rights_init T).rD (bD1_Rights_init T.F_Rights_init)) (hr.mono (by decide)) (by rfl) T.m_Rights (passes_call (takes_of rfl rfl rfl rfl) (fun _ _ _ _ h => h))) (i_make0 (spIsI_D rfl) xok_x)) (PA.im pa_nil i_nil)) i_cons)) i_cons)) i_cons)) i_lst) (PE.im (pe_op op_mod (PE.im (pe_callB call_len_str (by rfl) T.m_len (by decide +kernel) (PA.im (pa_cons (PE.im (pe_callB (call_reprA (K := K) rfl T.sys gd hr.units) (by rfl) T.m_repr (by decide +kernel) (PA.im (pa_cons (PE.im (pv 1) i_var) (PA.im pa_nil i_nil)) i_cons)) (i_cb l_reprA)) (PA.im pa_nil i_nil)) i_cons)) (i_cb l_sL)) (PE.im (pe_int) (i_c rfl))) (i_op l_s)) (fun _ _ => rfl)) (i_op l_ixL)) (PA.im (pa_cons (PE.im (pv 1) i_var) (PA.im (pa_cons (PE.im (pv 0) i_var) (PA.im pa_nil i_nil)) i_cons)) i_cons)) i_cons)) (i_call spIs xok_x))) i_ret))
        (PSs.im pss_nil i_next)) i_ifS)
      (PSs.im (pss_cons (PS.im (ps_if (PT.im (pt_cmpR op_eq (PE.im (pv 0) i_var) (PE.im (pe_int) (i_c rfl)) (nomark _)) (i_test (i_op l_s)))
        (pss_one (PS.im (ps_ret (PE.im (StX.pe_makeR T.mk_Rights ((ok_Rights_init T).rD (bD2_Rights_init T.F_Rights_init)) (hr.mono (by decide)) (by rfl) T.m_Rights (passes_call (takes_of rfl rfl rfl rfl) (fun _ _ _ _ h => h)) (PA.im (pa_cons (PE.im (pv 1) i_var) (PA.im pa_nil i_nil)) i_cons)) (i_make (spIsI_D rfl) xok_x))) i_ret))
        (PSs.im pss_nil i_next)) i_ifS)
      (PSs.im (pss_cons (PS.im (ps_if (PT.im (pt_cmpR op_eq (PE.im (pv 0) i_var) (PE.im (pe_int) (i_c rfl)) (nomark _)) (i_test (i_op l_s)))
        (pss_one (PS.im (ps_ret (PE.im (pe_call (ok_as_rights T) (hr.mono (by decide)) (by rfl) T.m_as_rights T.F_as_rights.kp (bN_as_rights T.F_as_rights) .nil (passes_call (takes_of rfl rfl rfl rfl) (fun _ _ _ _ h => h)) (PA.im (pa_cons (PE.im (pv 1) i_var) (PA.im pa_nil i_nil)) i_cons)) (i_call spIs xok_x))) i_ret))
        (PSs.im pss_nil i_next)) i_ifS)
      (PSs.im (pss_cons (PS.im (ps_if (PT.im (pt_cmpR op_eq (PE.im (pv 0) i_var) (PE.im (pe_int) (i_c rfl)) (nomark _)) (i_test (i_op l_s)))
        (pss_one (PS.im (ps_ret (PE.im (ClX.pe_cmeth (PE.im (pe_glob (v := .ref (He.ga K "Rights")) rfl T.m_Rights rfl) i_fn) T.k_Rights.rd T.cm_Rights_of (ok_Rights_of T) (hr.mono (by decide)) (passes_call (takes_of rfl rfl rfl rfl) (fun _ _ _ _ h => h)) (PA.im (pa_cons (PE.im (pv 1) i_var) (PA.im pa_nil i_nil)) i_cons)) (i_cmeth spIs_star xok_x))) i_ret))
        (PSs.im pss_nil i_next)) i_ifS)
      (pss_one (PS.im (ps_ret (PE.im (pe_ifExp (PT.im (pt_cmpR op_eq (PE.im (pv 0) i_var) (PE.im (pe_int) (i_c rfl)) (nomark _)) (i_test (i_op l_s))) (PE.im (ClX.pe_cmeth (PE.im (pe_glob (v := .ref (He.ga K "Rights")) rfl T.m_Rights rfl) i_fn) T.k_Rights.rd T.cm_Rights_of (ok_Rights_of T) (hr.mono (by decide)) (passes_call (takes_of rfl rfl rfl rfl) (fun _ _ _ _ h => h)) (PA.im (pa_cons (PE.im (pe_str) (i_c rfl)) (PA.im (pa_cons (PE.im (pe_makeR0 T.mk_Rights ((ok_Rights_init T).rD (bD1_Rights_init T.F_Rights_init)) (hr.mono (by decide)) (by rfl) T.m_Rights (passes_call (takes_of rfl rfl rfl rfl) (fun _ _ _ _ h => h))) (i_make0 (spIsI_D rfl) xok_x)) (PA.im (pa_cons (PE.im (pv 1) i_var) (PA.im pa_nil i_nil)) i_cons)) i_cons)) i_cons)) (i_cmeth spIs_star xok_x)) (PE.im (ClX.pe_cmeth (PE.im (pe_glob (v := .ref (He.ga K "Rights")) rfl T.m_Rights rfl) i_fn) T.k_Rights.rd T.cm_Rights_from_digit ((ok_Rights_from_digit T).r (bN_Rights_from_digit T.F_Rights_from_digit)) (hr.mono (by decide)) (passes_call (takes_of rfl rfl rfl rfl) (fun _ _ _ _ h => h)) (PA.im (pa_cons (PE.im (pv 1) i_var) (PA.im pa_nil i_nil)) i_cons)) (i_cmeth (spIs) xok_x))) i_if)) i_ret))) i_seq)) i_seq)) i_seq)) i_seq),
    body_x ok a ca cx (ev_body (Nn := 2) rfl (v_seq (v_ifS (v_T (v_op k_I0 (EvP.v v_var) (EvP.v v_cint)))
        (v_ret (v_call fne (v_cons (v_op k_ixL (EvP.v (v_lst (v_cons (v_make (FiE.dfl fie (by simp only [tDs, tD])) (v_cons v_cstr v_nil)) (v_cons (v_make (FiE.dfl fie (by simp only [tDs, tD])) (v_cons v_cstr v_nil)) (v_cons (v_make (FiE.dfl fie (by simp only [tDs, tD])) v_nil) v_nil))))) (EvP.v (v_op k_mod (EvP.v (v_cb k_lenS (v_consV (EvP.v (v_cbP k_reprA (v_cons v_var v_nil))) v_nilV))) (EvP.v v_cint)))) (v_cons v_var (v_cons v_var v_nil)))))
        v_next)
      (v_seq (v_ifS (v_T (v_op k_eq (EvP.v v_var) (EvP.v v_cint)))
        (v_ret (v_make (FiE.dfl fie (by simp only [tDs, tD])) (v_cons v_var v_nil)))
        v_next)
      (v_seq (v_ifS (v_T (v_op k_eq (EvP.v v_var) (EvP.v v_cint)))
        (v_ret (v_call fne (v_cons v_var v_nil)))
        v_next)
      (v_seq (v_ifS (v_T (v_op k_eq (EvP.v v_var) (EvP.v v_cint)))
        (v_ret (v_cmeth (FnE.star fne) (v_fn rfl) (v_cons v_var v_nil)))
        v_next)
      (v_ret (v_if (v_T (v_op k_eq (EvP.v v_var) (EvP.v v_cint))) (v_cmeth (FnE.star fne) (v_fn rfl) (v_cons v_cstr (v_cons (v_make (FiE.dfl fie (by simp only [tDs, tD])) v_nil) (v_cons v_var v_nil)))) (v_cmeth fne (v_fn rfl) (v_cons v_var v_nil)))))))) h)⟩
theorem ok_law_is_letters (T : Txt w K mg) : FnOk P w K mg base CX0 2 (a_law_is_letters K) (fdOf K (a_law_is_letters K)) ["_law_thing"] (spL K (spF K f_law_is_letters)) := by
  refine T.F_law_is_letters.ok sc_law_is_letters (fun vs H Q E h => spF_len h) (fun cdv A outer s H vs Q E hr h => ?_)
  obtain ⟨Z, ds, W, Q2, E2, ok, a, h, ca, cx⟩ := h
  have nd := sc_law_is_letters.nd
  have hu := hu_of hr
  exact ⟨_, PSs.nox (PSs.im (pss_cons (PS.im (ps_if (PT.im (pt_not (PT.im (pt_val (PE.im (pe_callB call_isi (by rfl) T.m_isinstance (by decide +kernel) (PA.im (pa_cons (PE.im (pv 0) i_var) (PA.im (pa_cons (PE.im (pe_bltn (v := .ty "str") (by rfl) T.m_str (by decide +kernel) rfl) (i_c rfl)) (PA.im pa_nil i_nil)) i_cons)) i_cons)) (i_cb l_isi))) i_B)) i_not)
        (pss_one (PS.im (ps_ret (PE.im (pe_bl) (i_c rfl))) i_ret))
        (PSs.im pss_nil i_next)) i_ifS)
      (pss_one (PS.im (ps_ret (PE.im (pe_and (PE.im (pe_cmpR (op_eqD hr.units) (PE.im (pe_lc (own := [("_law_sign_here", 1)]) (g := gName 1) rfl nd (PI.im (pi_str (PE.im (pv 0) i_var)) i_iStr) (blkOk_by (own := [("_law_sign_here", 1)]) (N := N_law_is_letters) (sc := defScope s_law_is_letters) (by decide +kernel)) (fun _ _ _ _ _ => pg_name (i := 1) nd rfl (Or.inl rfl)) (fun _ _ _ _ _ => (pts_one (PT.im (pt_cmpR op_notIn_sign (PE.im (pv 1) i_var) (PE.im (pe_str) (i_c rfl)) (by rfl)) (i_test (i_op l_s))))) (fun _ _ _ _ _ => (PE.im (pv 1) i_var))) (i_lc (lg_name (by decide)))) (PE.im (pe_lst (PA.im pa_nil i_nil)) i_lst) (nomark _)) (i_op l_eqD)) (pe_one (PE.im (pe_cmpR op_eq (PE.im (pe_callB cr_lenSS (by rfl) T.m_len (by decide +kernel) (pa_cons (pe_callTy (cr_setT rfl) (by rfl) T.m_set (by decide +kernel) (pa_cons (PE.im (pv 0) i_var) pa_nil)) pa_nil)) i_lenSetT) (PE.im (pe_callB call_len_str (by rfl) T.m_len (by decide +kernel) (PA.im (pa_cons (PE.im (pv 0) i_var) (PA.im pa_nil i_nil)) i_cons)) (i_cb l_sL)) (nomark _)) (i_op l_s)))) i_andV)) i_ret))) i_seq),
    body_x ok a ca cx (ev_body (Nn := 2) rfl (v_seq (v_ifS (v_not (v_T (v_cb (k_isi T.isf) (v_consV (EvP.v v_var) (v_consV (EvP.v v_cty) v_nilV)))))
        (v_ret v_cbool)
        v_next)
      (v_ret (v_andV (v_op k_eqD (EvP.v (v_lc (v_iStr v_var) v_gname xf_name (fun _ => (v_T (v_op k_notInSg (EvP.v v_var) (EvP.v v_cstr)))) (fun _ => v_var))) (EvP.v (v_lst v_nil))) (v_op k_eq (EvP.v (v_un k_lenSetT (EvP.v v_var))) (EvP.v (v_cb k_lenS (v_consV (EvP.v v_var) v_nilV))))))) h)⟩
theorem ok_law_same (T : Txt w K mg) : FnG P w K mg base CX0 1 (a_law_same K) (fdOf K (a_law_same K)) ["_law_found", "_law_due"] (spL K (spF K f_law_same)) := by
  refine T.F_law_same.okG sc_law_same (fun vs H Q E h => spF_len h) (fun cdv A outer s H vs Q E gd hr h => ?_)
  obtain ⟨Z, ds, W, Q2, E2, ok, a, h, ca, cx⟩ := h
  have nd := sc_law_same.nd
  have hu := hu_of hr
  exact ⟨_, PSs.nox (pss_one (PS.im (ps_ret (PE.im (pe_cmpR op_eq (PE.im (pe_callB (call_reprA (K := K) rfl T.sys gd hr.units) (by rfl) T.m_repr (by decide +kernel) (PA.im (pa_cons (PE.im (pv 0) i_var) (PA.im pa_nil i_nil)) i_cons)) (i_cb l_reprA)) (PE.im (pe_callB (call_reprA (K := K) rfl T.sys gd hr.units) (by rfl) T.m_repr (by decide +kernel) (PA.im (pa_cons (PE.im (pv 1) i_var) (PA.im pa_nil i_nil)) i_cons)) (i_cb l_reprA)) (nomark _)) (i_op l_s))) i_ret)),
    body_x ok a ca cx (ev_body (Nn := 2) rfl (v_ret (v_op k_eq (EvP.v (v_cbP k_reprA (v_cons v_var v_nil))) (EvP.v (v_cbP k_reprA (v_cons v_var v_nil))))) h)⟩
theorem ok_digit_in (T : Txt w K mg) : FnOk P w K mg base CX0 5 (a_digit_in K) (fdOf K (a_digit_in K)) ["value"] (spL K (spF K f_digit_in)) := by
  refine T.F_digit_in.ok sc_digit_in (fun vs H Q E h => spF_len h) (fun cdv A outer s H vs Q E hr h => ?_)
  obtain ⟨Z, ds, W, Q2, E2, ok, a, h, ca, cx⟩ := h
  have nd := sc_digit_in.nd
  have hu := hu_of hr
  exact ⟨_, PSs.nox (pss_one (PS.im (ps_ret (PE.im (pe_ifExp (PT.im (pt_val (PE.im (pe_callB call_isi (by rfl) T.m_isinstance (by decide +kernel) (PA.im (pa_cons (PE.im (pv 0) i_var) (PA.im (pa_cons (PE.im (pe_glob (v := .ref (He.ga K "Rights")) rfl T.m_Rights rfl) i_fn) (PA.im pa_nil i_nil)) i_cons)) i_cons)) (i_cb l_isi))) i_B) (PE.im (pe_prop (PE.im (pv 0) i_var) T.k_Rights.cl T.pr_Rights_digit (ok_Rights_digit T) (hr.mono (by decide)) (bN_Rights_digit T.F_Rights_digit) .nil pass0 rfl) (i_prop spIs xok_0)) (PE.im (pe_call (ok_digit_of T) (hr.mono (by decide)) (by rfl) T.m_digit_of T.F_digit_of.kp (bN_digit_of T.F_digit_of) .nil pass0 (PA.im (pa_cons (PE.im (pv 0) i_var) (PA.im pa_nil i_nil)) i_cons)) (i_call spIs xok_0))) i_if)) i_ret)),
    body_x ok a ca cx (ev_body (Nn := 1) rfl (v_ret (v_if (v_T (v_cb (k_isi T.isf) (v_consV (EvP.v v_var) (v_consV (EvP.v (v_fn rfl)) v_nilV)))) (v_propC (FnE.calm0 fne) v_var) (v_callC (FnE.calm0 fne) (v_cons v_var v_nil)))) h)⟩
theorem ok_is_rights (T : Txt w K mg) : FnOk P w K mg base CX0 6 (a_is_rights K) (fdOf K (a_is_rights K)) ["value"] (spL K (spF K f_is_rights)) := by
  refine T.F_is_rights.ok sc_is_rights (fun vs H Q E h => spF_len h) (fun cdv A outer s H vs Q E hr h => ?_)
  obtain ⟨Z, ds, W, Q2, E2, ok, a, h, ca, cx⟩ := h
  have nd := sc_is_rights.nd
  have hu := hu_of hr
  exact ⟨_, PSs.nox (pss_one (PS.im (ps_ret (PE.im (pe_cmpR op_notN (PE.im (pe_call (ok_digit_in T) (hr.mono (by decide)) (by rfl) T.m_digit_in T.F_digit_in.kp (bN_digit_in T.F_digit_in) .nil pass0 (PA.im (pa_cons (PE.im (pv 0) i_var) (PA.im pa_nil i_nil)) i_cons)) (i_call spIs xok_0)) (PE.im (pe_non) (i_c rfl)) (nomark _)) (i_op l_notN))) i_ret)),
    body_x ok a ca cx (ev_body (Nn := 1) rfl (v_ret (v_op k_isN (EvP.v (v_callC (FnE.calm0 fne) (v_cons v_var v_nil))) (EvP.v v_cnon))) h)⟩
theorem ok_law_right (T : Txt w K mg) : FnG P w K mg base CX0 20 (a_law_right K) (fdOf K (a_law_right K)) ["_law_odd_here", "_law_strange"] (spL K (spF K f_law_right)) := by
  refine T.F_law_right.okGL sc_law_right (fun vs H Q E h => spF_len h) (fun cdv A outer s H vs Q E hcd gd hr h => ?_)
  obtain ⟨Z, ds, W, Q2, E2, ok, a, h, ca, cx⟩ := h
  have nd := sc_law_right.nd
  have hu := hu_of hr
  exact ⟨_, PSs.nox (PSs.im (pss_cons (PS.im (ps_set (i := 2) nd rfl (Or.inl rfl) (PE.im (pe_call (ok_law_is_letters T) (hr.mono (by decide)) (by rfl) T.m_law_is_letters T.F_law_is_letters.kp (bN_law_is_letters T.F_law_is_letters) .nil pass0 (PA.im (pa_cons (PE.im (pv 0) i_var) (PA.im pa_nil i_nil)) i_cons)) (i_call spIs xok_0))) (i_asg (lg_name (by decide : 2 ∈ [2]))))
      (PSs.im (pss_cons (PS.im (ps_if (PT.im (pt_cmpR op_ne (PE.im (pe_callB (call_reprA (K := K) rfl T.sys gd hr.units) (by rfl) T.m_repr (by decide +kernel) (PA.im (pa_cons (PE.im (pe_lst (PA.im (pa_cons (PE.im (pe_call (ok_is_rights T) (hr.mono (by decide)) (by rfl) T.m_is_rights T.F_is_rights.kp (bN_is_rights T.F_is_rights) .nil pass0 (PA.im (pa_cons (PE.im (pv 0) i_var) (PA.im pa_nil i_nil)) i_cons)) (i_call spIs xok_0)) (PA.im (pa_cons (PE.im (pe_cmpR (op_eqCB (K := K) rfl (tbk_1 (w := w) (K := K) (mg := mg) (base := base) T) (hr.mono (by decide))) (PE.im (StX.pe_makeR T.mk_Rights (((ok_Rights_init T).calm).rD (bD2_Rights_init T.F_Rights_init)) (hr.mono (by decide)) (by rfl) T.m_Rights pass0 (PA.im (pa_cons (PE.im (pe_str) (i_c rfl)) (PA.im pa_nil i_nil)) i_cons)) (i_make (spIsI_calmD rfl) xok_0)) (PE.im (pv 0) i_var) (nomark _)) (i_op l_eqC)) (PA.im (pa_cons (PE.im (pe_cmpR (op_inO T.du_Rights_contains ((ok_Rights_contains T).r (bN_Rights_contains T.F_Rights_contains)) (hr.mono (by decide)) pass0) (PE.im (pv 0) i_var) (PE.im (StX.pe_makeR T.mk_Rights (((ok_Rights_init T).calm).rD (bD2_Rights_init T.F_Rights_init)) (hr.mono (by decide)) (by rfl) T.m_Rights pass0 (PA.im (pa_cons (PE.im (pe_str) (i_c rfl)) (PA.im pa_nil i_nil)) i_cons)) (i_make (spIsI_calmD rfl) xok_0)) (by rfl)) (i_inO spIs xok_0)) (PA.im pa_nil i_nil)) i_cons)) i_cons)) i_cons)) i_lst) (PA.im pa_nil i_nil)) i_cons)) (i_cb l_reprA)) (PE.im (pe_callB (call_reprA (K := K) rfl T.sys gd hr.units) (by rfl) T.m_repr (by decide +kernel) (PA.im (pa_cons (PE.im (pe_lst (PA.im (pa_cons (PE.im (pv 2) i_var) (PA.im (pa_cons (PE.im (pe_bl) (i_c rfl)) (PA.im (pa_cons (PE.im (pe_cmpR (op_inY (K := K) rfl hr.units) (PE.im (pv 0) i_var) (PE.im (pe_lst (PA.im (pa_cons (PE.im (pe_str) (i_c rfl)) (PA.im (pa_cons (PE.im (pe_str) (i_c rfl)) (PA.im pa_nil i_nil)) i_cons)) i_cons)) i_lst) (by rfl)) (i_op l_inY)) (PA.im pa_nil i_nil)) i_cons)) i_cons)) i_cons)) i_lst) (PA.im pa_nil i_nil)) i_cons)) (i_cb l_reprA)) (nomark _)) (i_test (i_op l_s)))
        (pss_one (PS.im (ps_ret (PE.im (pe_bl) (i_c rfl))) i_ret))
        (PSs.im pss_nil i_next)) i_ifS)
      (PSs.im (pss_cons (PS.im (ps_for PassesOwn.never rfl (PI.im (pi_range1 rfl T.m_range (PA.im (pa_cons (PE.im (pe_int) (i_c rfl)) (PA.im pa_nil i_nil)) i_cons)) i_iRng1) (pg_name (i := 3) nd rfl (Or.inr rfl))
        (PSs.im (pss_cons (PS.im (ps_set (i := 4) nd rfl (Or.inl rfl) (pe_lamT (k := 16) ((lo_law_caught T).mono (by decide)) gd (hr.mono (by decide)) (by rfl) T.m_law_caught T.F_law_caught (bN_law_caught T.F_law_caught) sc_law_caught rfl (Or.inl rfl) hcd T.lam_law_right.1 T.lam_law_right.2 T.bm (LamX.lamS_by (by kernel_rfl)) rfl (fun _ _ _ _ _ => rfl) (fun w0 E2 A outer s H E f c' gd hr => (PE.im (pe_callG (ok_law_ask T) gd (hr.mono (by decide)) (by rfl) T.m_law_ask T.F_law_ask.kp (bN_law_ask T.F_law_ask) .nil (passes_call (takes_of rfl rfl rfl rfl) (fun _ _ _ _ h => h)) (PA.im (pa_cons (PE.im (pv 3) i_var) (PA.im (pa_cons (PE.im (pv 0) i_var) (PA.im pa_nil i_nil)) i_cons)) i_cons)) (i_call spIs xok_x))))) (i_asg (lg_name (by decide : 4 ∈ [4]))))
        (pss_one (PS.im (ps_if (PW.pt (PW.im (pw_or (PT.im (pt_cmpR op_lt (PE.im (pv 3) i_var) (PE.im (pe_int) (i_c rfl)) (nomark _)) (i_test (i_op l_s))) (pw_or1 (PT.im (pt_not (PT.im (pt_val (PE.im (pv 2) i_var)) i_B)) i_not))) i_or))
          (pss_one (PS.im (ps_if (PT.im (pt_not (PT.im (pt_val (PE.im (pe_callG (ok_law_same T) gd (hr.mono (by decide)) (by rfl) T.m_law_same T.F_law_same.kp (bN_law_same T.F_law_same) .nil pass0 (PA.im (pa_cons (PE.im (pv 4) i_var) (PA.im (pa_cons (PE.im (pe_lst (PA.im (pa_cons (PE.im (pe_str) (i_c rfl)) (PA.im (pa_cons (PE.im (pv 0) i_var) (PA.im pa_nil i_nil)) i_cons)) i_cons)) i_lst) (PA.im pa_nil i_nil)) i_cons)) i_cons)) (i_call spIs xok_0))) i_B)) i_not)
            (pss_one (PS.im (ps_ret (PE.im (pe_bl) (i_c rfl))) i_ret))
            (PSs.im pss_nil i_next)) i_ifS))
          (pss_one (PS.im (ps_if (PT.im (pt_cmpR op_ne (PE.im (pe_ix ix_list (PE.im (pv 4) i_var) (PE.im (pe_int) (i_c rfl)) (fun _ _ => rfl)) (i_op l_ixL)) (PE.im (pe_str) (i_c rfl)) (nomark _)) (i_test (i_op l_s)))
            (pss_one (PS.im (ps_ret (PE.im (pe_bl) (i_c rfl))) i_ret))
            (PSs.im pss_nil i_next)) i_ifS))) i_ifS))) i_seq)) (i_for (ws := [3]) (lg_name (by decide))))
      (PSs.im (pss_cons (PS.im (ps_setLc (i := 5) (own := [("_law_one", 6)]) (g := gName 6) rfl nd rfl rfl (sw_true rfl rfl rfl (by decide +kernel)) (PI.im (pi_list (PE.im (pe_lst (PA.im (pa_cons (PE.im (pv 0) i_var) (PA.im (pa_cons (PE.im (pv 1) i_var) (PA.im pa_nil i_nil)) i_cons)) i_cons)) i_lst)) i_iList) (blkOk_by (own := [("_law_one", 6)]) (N := N_law_right) (sc := defScope s_law_right) (by decide +kernel)) (fun _ _ _ _ _ => pg_name (i := 6) nd rfl (Or.inl rfl)) (fun _ _ _ _ _ => (pts_one (PT.im (pt_not (PT.im (pt_val (PE.im (pe_call (ok_law_is_letters T) (hr.mono (by decide)) (by rfl) T.m_law_is_letters T.F_law_is_letters.kp (bN_law_is_letters T.F_law_is_letters) .nil pass0 (PA.im (pa_cons (PE.im (pv 6) i_var) (PA.im pa_nil i_nil)) i_cons)) (i_call spIs xok_0))) i_B)) i_not))) (fun _ _ _ _ _ => (PE.im (pv 6) i_var))) (i_setLc (lg_name (by decide))))
      (PSs.im (pss_cons (PS.im (ps_set (i := 4) nd rfl (Or.inl rfl) (pe_lamT (k := 16) ((lo_law_caught T).mono (by decide)) gd (hr.mono (by decide)) (by rfl) T.m_law_caught T.F_law_caught (bN_law_caught T.F_law_caught) sc_law_caught rfl (Or.inl rfl) hcd T.lam_law_right.1 T.lam_law_right.2 T.bm (LamX.lamS_by (by kernel_rfl)) rfl (fun _ _ _ _ _ => rfl) (fun w0 E2 A outer s H E f c' gd hr => (PE.im (ClX.pe_cmeth (PE.im (pe_glob (v := .ref (He.ga K "Rights")) rfl T.m_Rights rfl) i_fn) T.k_Rights.rd T.cm_Rights_of (ok_Rights_of T) (hr.mono (by decide)) (passes_call (takes_of rfl rfl rfl rfl) (fun _ _ _ _ h => h)) (PA.im (pa_cons (PE.im (pe_str) (i_c rfl)) (PA.im (pa_cons (PE.im (pv 0) i_var) (PA.im (pa_cons (PE.im (pv 1) i_var) (PA.im pa_nil i_nil)) i_cons)) i_cons)) i_cons)) (i_cmeth spIs_star xok_x))))) (i_asg (lg_name (by decide : 4 ∈ [4]))))
      (PSs.im (pss_cut (PS.im (ps_if (PW.pt (PW.im (pw_or (PW.pt (PW.im (pw_and (PT.im (pt_cmpR (op_neLB (K := K) rfl (tbk_1 (w := w) (K := K) (mg := mg) (base := base) T) (hr.mono (by decide))) (PE.im (pv 5) i_var) (PE.im (pe_lst (PA.im pa_nil i_nil)) i_lst) (nomark _)) (i_test (i_op l_cmpL))) (pw_and1 (PT.im (pt_not (PT.im (pt_val (PE.im (pe_callG (ok_law_same T) gd (hr.mono (by decide)) (by rfl) T.m_law_same T.F_law_same.kp (bN_law_same T.F_law_same) .nil pass0 (PA.im (pa_cons (PE.im (pv 4) i_var) (PA.im (pa_cons (PE.im (pe_lst (PA.im (pa_cons (PE.im (pe_str) (i_c rfl)) (PA.im (pa_cons (PE.im (pe_ix ix_list (PE.im (pv 5) i_var) (PE.im (pe_int) (i_c rfl)) (fun _ _ => rfl)) (i_op l_ixL)) (PA.im pa_nil i_nil)) i_cons)) i_cons)) i_lst) (PA.im pa_nil i_nil)) i_cons)) i_cons)) (i_call spIs xok_0))) i_B)) i_not))) i_and)) (pw_or1 (PW.pt (PW.im (pw_and (PT.im (pt_cmpR (op_eqLB (K := K) rfl (tbk_1 (w := w) (K := K) (mg := mg) (base := base) T) (hr.mono (by decide))) (PE.im (pv 5) i_var) (PE.im (pe_lst (PA.im pa_nil i_nil)) i_lst) (nomark _)) (i_test (i_op l_cmpL))) (pw_and1 (PT.im (pt_cmpR op_ne (PE.im (pe_ix ix_list (PE.im (pv 4) i_var) (PE.im (pe_int) (i_c rfl)) (fun _ _ => rfl)) (i_op l_ixL)) (PE.im (pe_str) (i_c rfl)) (nomark _)) (i_test (i_op l_s))))) i_and)))) i_or))
        (pss_one (PS.im (ps_ret (PE.im (pe_bl) (i_c rfl))) i_ret))
        (PSs.im pss_nil i_next)) i_ifS)
      (PSs.im (pss_cut (PS.im (ps_set (i := 7) nd rfl (Or.inl rfl) (PE.im (pe_and (PE.im (pe_callB call_isi (by rfl) T.m_isinstance (by decide +kernel) (PA.im (pa_cons (PE.im (pv 0) i_var) (PA.im (pa_cons (PE.im (pe_bltn (v := .ty "int") (by rfl) T.m_int (by decide +kernel) rfl) (i_c rfl)) (PA.im pa_nil i_nil)) i_cons)) i_cons)) (i_cb l_isi)) (PE.im (pe_and (PE.im (pe_not (PE.im (pe_callB call_isi (by rfl) T.m_isinstance (by decide +kernel) (PA.im (pa_cons (PE.im (pv 0) i_var) (PA.im (pa_cons (PE.im (pe_bltn (v := .ty "bool") (by rfl) T.m_bool (by decide +kernel) rfl) (i_c rfl)) (PA.im pa_nil i_nil)) i_cons)) i_cons)) (i_cb l_isi))) i_notV) (pe_one (PE.im (pe_chain op_le op_le (PE.im (pe_int) (i_c rfl)) (PE.im (pv 0) i_var) (PE.im (pe_int) (i_c rfl))) (i_chain l_s l_s)))) i_andV)) i_andV)) (i_asg (lg_name (by decide : 7 ∈ [7]))))
      (PSs.im (pss_cons (PS.im (ps_set (i := 4) nd rfl (Or.inl rfl) (pe_lamT (k := 16) ((lo_law_caught T).mono (by decide)) gd (hr.mono (by decide)) (by rfl) T.m_law_caught T.F_law_caught (bN_law_caught T.F_law_caught) sc_law_caught rfl (Or.inl rfl) hcd T.lam_law_right.1 T.lam_law_right.2 T.bm (LamX.lamS_by (by kernel_rfl)) rfl (fun _ _ _ _ _ => rfl) (fun w0 E2 A outer s H E f c' gd hr => (PE.im (pe_callG (ok_law_ask T) gd (hr.mono (by decide)) (by rfl) T.m_law_ask T.F_law_ask.kp (bN_law_ask T.F_law_ask) .nil (passes_call (takes_of rfl rfl rfl rfl) (fun _ _ _ _ h => h)) (PA.im (pa_cons (PE.im (pe_int) (i_c rfl)) (PA.im (pa_cons (PE.im (pv 0) i_var) (PA.im pa_nil i_nil)) i_cons)) i_cons)) (i_call spIs xok_x))))) (i_asg (lg_name (by decide : 4 ∈ [4]))))
      (pss_one (PS.im (ps_ret (PE.im (pe_ifExp (PT.im (pt_val (PE.im (pv 7) i_var)) i_B) (PE.im (pe_cmpR op_eq (PE.im (pe_ix ix_list (PE.im (pv 4) i_var) (PE.im (pe_int) (i_c rfl)) (fun _ _ => rfl)) (i_op l_ixL)) (PE.im (pe_str) (i_c rfl)) (nomark _)) (i_op l_s)) (PE.im (pe_callG (ok_law_same T) gd (hr.mono (by decide)) (by rfl) T.m_law_same T.F_law_same.kp (bN_law_same T.F_law_same) .nil pass0 (PA.im (pa_cons (PE.im (pv 4) i_var) (PA.im (pa_cons (PE.im (pe_lst (PA.im (pa_cons (PE.im (pe_str) (i_c rfl)) (PA.im (pa_cons (PE.im (pv 0) i_var) (PA.im pa_nil i_nil)) i_cons)) i_cons)) i_lst) (PA.im pa_nil i_nil)) i_cons)) i_cons)) (i_call spIs xok_0))) i_if)) i_ret))) i_seq)) i_cut)) i_cut)) i_seq)) i_seq)) i_seq)) i_seq)) i_seq),
    body_x ok a ca cx (ev_body (Nn := 8) rfl (v_seq (v_asg (v_callC (FnE.calm0 fne) (v_cons v_var v_nil)) v_gname xf_name)
      (v_seq (v_ifS (v_T (v_op k_ne (EvP.v (v_cbP k_reprA (v_cons (v_lst (v_cons (v_callC (FnE.calm0 fne) (v_cons v_var v_nil)) (v_cons (v_opP (k_eqC T.isf tbo_1 (nfk_1 T) tbc_1) (v_makeC (FiE.dflC fie (by simp only [tDs, tD])) (v_cons v_cstr v_nil)) v_var) (v_cons (v_inOC (FnE.calm0 fne) v_var (v_makeC (FiE.dflC fie (by simp only [tDs, tD])) (v_cons v_cstr v_nil))) v_nil)))) v_nil))) (EvP.v (v_cbP k_reprA (v_cons (v_lst (v_cons v_var (v_cons v_cbool (v_cons (v_op k_inY (EvP.v v_var) (EvP.v (v_lst (v_cons v_cstr (v_cons v_cstr v_nil))))) v_nil)))) v_nil)))))
        (v_ret v_cbool)
        v_next)
      (v_seq (v_for (v_iRng1 (v_cons v_cint v_nil)) v_gname xf_name
        (v_seq (v_asg (v_lam (fun Ec => (v_call fne (v_cons v_var (v_cons v_var v_nil))))) v_gname xf_name)
        (v_ifS (v_or (v_T (v_op k_I0 (EvP.v v_var) (EvP.v v_cint))) (v_not (v_T v_var)))
          (v_ifS (v_not (v_T (v_callC (FnE.calm0 fne) (v_cons v_var (v_cons (v_lst (v_cons v_cstr (v_cons v_var v_nil))) v_nil)))))
            (v_ret v_cbool)
            v_next)
          (v_ifS (v_T (v_op k_ne (EvP.v (v_op k_ixL (EvP.v v_var) (EvP.v v_cint))) (EvP.v v_cstr)))
            (v_ret v_cbool)
            v_next))))
      (v_seq (v_asg (v_lc (v_iList (v_lst (v_cons v_var (v_cons v_var v_nil)))) v_gname xf_name (fun _ => (v_not (v_T (v_callC (FnE.calm0 fne) (v_cons v_var v_nil))))) (fun _ => v_var)) v_gname xf_name)
      (v_seq (v_asg (v_lam (fun Ec => (v_cmeth (FnE.star fne) (v_fn rfl) (v_cons v_cstr (v_cons v_var (v_cons v_var v_nil)))))) v_gname xf_name)
      (v_cut (v_ifS (v_or (v_and (v_T (v_opV (k_eqL T.isf tbo_1 (nfk_1 T)) (EvP.v v_var) (EvP.v (v_lst v_nil)))) (v_not (v_T (v_callC (FnE.calm0 fne) (v_cons v_var (v_cons (v_lst (v_cons v_cstr (v_cons (v_op k_ixL (EvP.v v_var) (EvP.v v_cint)) v_nil))) v_nil)))))) (v_and (v_T (v_opV (k_eqL T.isf tbo_1 (nfk_1 T)) (EvP.v v_var) (EvP.v (v_lst v_nil)))) (v_T (v_op k_ne (EvP.v (v_op k_ixL (EvP.v v_var) (EvP.v v_cint))) (EvP.v v_cstr)))))
        (v_ret v_cbool)
        v_next)
      (v_cut (v_asg (v_andV (v_cb (k_isi T.isf) (v_consV (EvP.v v_var) (v_consV (EvP.v v_cty) v_nilV))) (v_andV (v_notV (v_cb (k_isi T.isf) (v_consV (EvP.v v_var) (v_consV (EvP.v v_cty) v_nilV)))) (v_chain k_I0 k_I0 (EvP.v v_cint) (EvP.v v_var) (EvP.v v_cint)))) v_gname xf_name)
      (v_seq (v_asg (v_lam (fun Ec => (v_call fne (v_cons v_cint (v_cons v_var v_nil))))) v_gname xf_name)
      (v_ret (v_if (v_T v_var) (v_op k_eq (EvP.v (v_op k_ixL (EvP.v v_var) (EvP.v v_cint))) (EvP.v v_cstr)) (v_callC (FnE.calm0 fne) (v_cons v_var (v_cons (v_lst (v_cons v_cstr (v_cons v_var v_nil))) v_nil))))))))))))) h)⟩
theorem ok_law (T : Txt w K mg) : FnG P w K mg base CX0 26 (a_law K) (fdOf K (a_law K)) ["_law_script"] (spL K (spF K f_law)) := by
  refine T.F_law.okGL sc_law (fun vs H Q E h => spF_len h) (fun cdv A outer s H vs Q E hcd gd hr h => ?_)
  obtain ⟨Z, ds, W, Q2, E2, ok, a, h, ca, cx⟩ := h
  have nd := sc_law.nd
  have hu := hu_of hr
  exact ⟨_, PSs.nox (PSs.im (pss_cons (PS.im (ps_for PassesOwn.never rfl (PI.im (pi_range1 rfl T.m_range (PA.im (pa_cons (PE.im (pe_callB (call_max2 rfl) (by rfl) T.m_max (by decide +kernel) (PA.im (pa_cons (PE.im (pe_int) (i_c rfl)) (PA.im (pa_cons (PE.im (pe_callB (call_min2 rfl) (by rfl) T.m_min (by decide +kernel) (PA.im (pa_cons (PE.im (pe_int) (i_c rfl)) (PA.im (pa_cons (PE.im (pe_callB call_len_seq (by rfl) T.m_len (by decide +kernel) (PA.im (pa_cons (PE.im (pv 0) i_var) (PA.im pa_nil i_nil)) i_cons)) (i_cb l_len)) (PA.im pa_nil i_nil)) i_cons)) i_cons)) (i_cb l_sL)) (PA.im pa_nil i_nil)) i_cons)) i_cons)) (i_cb l_sL)) (PA.im pa_nil i_nil)) i_cons)) i_iRng1) (pg_name (i := 1) nd rfl (Or.inl rfl))
        (PSs.im (pss_cons (PS.im (ps_set (i := 2) nd rfl (Or.inr rfl) (PE.im (pe_call (ok_law_box T) (hr.mono (by decide)) (by rfl) T.m_law_box T.F_law_box.kp (bN_law_box T.F_law_box) .nil pass0 (PA.im (pa_cons (PE.im (pe_call (ok_law_cell T) (hr.mono (by decide)) (by rfl) T.m_law_cell T.F_law_cell.kp (bN_law_cell T.F_law_cell) .nil pass0 (PA.im (pa_cons (PE.im (pv 0) i_var) (PA.im (pa_cons (PE.im (pv 1) i_var) (PA.im pa_nil i_nil)) i_cons)) i_cons)) (i_call is_cell xok_0)) (PA.im pa_nil i_nil)) i_cons)) (i_call is_bag xok_0))) (i_asg (lg_name (by decide : 2 ∈ [2]))))
        (PSs.im (pss_cons (PS.im (ps_for PassesOwn.never rfl (PI.im (pi_range1 rfl T.m_range (PA.im (pa_cons (PE.im (pe_int) (i_c rfl)) (PA.im pa_nil i_nil)) i_cons)) i_iRng1) (pg_name (i := 3) nd rfl (Or.inl rfl))
          (PSs.im (pss_cons (PS.im (ps_set (i := 4) nd rfl (Or.inl rfl) (PE.im (pe_join (PE.im (pe_str) (i_c rfl)) (PE.im (pe_lc (own := [("_law_at", 5)]) (g := gName 5) rfl nd (PI.im (pi_range1 rfl T.m_range (PA.im (pa_cons (PE.im (pe_call (ok_law_take T) (hr.mono (by decide)) (by rfl) T.m_law_take T.F_law_take.kp (bN_law_take T.F_law_take) .nil pass0 (PA.im (pa_cons (PE.im (pv 2) i_var) (PA.im (pa_cons (PE.im (pe_int) (i_c rfl)) (PA.im pa_nil i_nil)) i_cons)) i_cons)) (i_call is_take xok_0)) (PA.im pa_nil i_nil)) i_cons)) i_iRng1) (blkOk_by (own := [("_law_at", 5)]) (N := N_law) (sc := defScope s_law) (by decide +kernel)) (fun _ _ _ _ _ => pg_name (i := 5) nd rfl (Or.inl rfl)) (fun _ _ _ _ _ => (PTs.im pts_nil i_yes)) (fun _ _ _ _ _ => (PE.im (pe_ix ix_str (PE.im (pe_str) (i_c rfl)) (PE.im (pe_call (ok_law_take T) (hr.mono (by decide)) (by rfl) T.m_law_take T.F_law_take.kp (bN_law_take T.F_law_take) .nil pass0 (PA.im (pa_cons (PE.im (pv 2) i_var) (PA.im (pa_cons (PE.im (pe_int) (i_c rfl)) (PA.im pa_nil i_nil)) i_cons)) i_cons)) (i_call is_take xok_0)) (fun _ _ => rfl)) (i_op l_s)))) (i_lc (lg_name (by decide))))) (i_m1 l_join))) (i_asg (lg_name (by decide : 4 ∈ [4]))))
          (PSs.im (pss_cons (PS.im (ps_set (i := 6) nd rfl (Or.inl rfl) (PE.im (pe_ix ix_list (PE.im (pe_lst (PA.im (pa_cons (PE.im (pe_call (ok_law_odd T) (hr.mono (by decide)) (by rfl) T.m_law_odd T.F_law_odd.kp (bN_law_odd T.F_law_odd) .nil pass0 (PA.im (pa_cons (PE.im (pv 2) i_var) (PA.im pa_nil i_nil)) i_cons)) (i_call spIs xok_0)) (PA.im (pa_cons (PE.im (pv 4) i_var) (PA.im (pa_cons (PE.im (pe_str) (i_c rfl)) (PA.im (pa_cons (PE.im (pe_str) (i_c rfl)) (PA.im pa_nil i_nil)) i_cons)) i_cons)) i_cons)) i_cons)) i_lst) (PE.im (pe_call (ok_law_take T) (hr.mono (by decide)) (by rfl) T.m_law_take T.F_law_take.kp (bN_law_take T.F_law_take) .nil pass0 (PA.im (pa_cons (PE.im (pv 2) i_var) (PA.im (pa_cons (PE.im (pe_int) (i_c rfl)) (PA.im pa_nil i_nil)) i_cons)) i_cons)) (i_call is_take xok_0)) (fun _ _ => rfl)) (i_op l_ixL))) (i_asg (lg_name (by decide : 6 ∈ [6]))))
          (PSs.im (pss_cons (PS.im (ps_set (i := 7) nd rfl (Or.inl rfl) (PE.im (pe_ix ix_list (PE.im (pe_lst (PA.im (pa_cons (PE.im (pe_call (ok_law_odd T) (hr.mono (by decide)) (by rfl) T.m_law_odd T.F_law_odd.kp (bN_law_odd T.F_law_odd) .nil pass0 (PA.im (pa_cons (PE.im (pv 2) i_var) (PA.im pa_nil i_nil)) i_cons)) (i_call spIs xok_0)) (PA.im (pa_cons (PE.im (pe_str) (i_c rfl)) (PA.im (pa_cons (PE.im (pv 4) i_var) (PA.im pa_nil i_nil)) i_cons)) i_cons)) i_cons)) i_lst) (PE.im (pe_call (ok_law_take T) (hr.mono (by decide)) (by rfl) T.m_law_take T.F_law_take.kp (bN_law_take T.F_law_take) .nil pass0 (PA.im (pa_cons (PE.im (pv 2) i_var) (PA.im (pa_cons (PE.im (pe_int) (i_c rfl)) (PA.im pa_nil i_nil)) i_cons)) i_cons)) (i_call is_take xok_0)) (fun _ _ => rfl)) (i_op l_ixL))) (i_asg (lg_name (by decide : 7 ∈ [7]))))
          (pss_one (PS.im (ps_if (PT.im (pt_not (PT.im (pt_val (PE.im (pe_callG (ok_law_right T) gd (hr.mono (by decide)) (by rfl) T.m_law_right T.F_law_right.kp (bN_law_right T.F_law_right) .nil pass0 (PA.im (pa_cons (PE.im (pv 6) i_var) (PA.im (pa_cons (PE.im (pv 7) i_var) (PA.im pa_nil i_nil)) i_cons)) i_cons)) (i_call spIs xok_0))) i_B)) i_not)
            (pss_one (PS.im (ps_ret (PE.im (pe_bl) (i_c rfl))) i_ret))
            (PSs.im pss_nil i_next)) i_ifS))) i_seq)) i_seq)) i_seq)) (i_for (ws := [3]) (lg_name (by decide))))
        (PSs.im (pss_cons (PS.im (ps_par (i := 8) (j := 9) (by rfl) nd rfl rfl (by decide) rfl rfl (PA.im (pa_cons (PE.im (pe_call (ok_law_take T) (hr.mono (by decide)) (by rfl) T.m_law_take T.F_law_take.kp (bN_law_take T.F_law_take) .nil pass0 (PA.im (pa_cons (PE.im (pv 2) i_var) (PA.im (pa_cons (PE.im (pe_int) (i_c rfl)) (PA.im pa_nil i_nil)) i_cons)) i_cons)) (i_call is_take xok_0)) (PA.im (pa_cons (PE.im (pe_call (ok_law_take T) (hr.mono (by decide)) (by rfl) T.m_law_take T.F_law_take.kp (bN_law_take T.F_law_take) .nil pass0 (PA.im (pa_cons (PE.im (pv 2) i_var) (PA.im (pa_cons (PE.im (pe_int) (i_c rfl)) (PA.im pa_nil i_nil)) i_cons)) i_cons)) (i_call is_take xok_0)) (PA.im pa_nil i_nil)) i_cons)) i_cons) (by rfl)) i_par)
        (PSs.im (pss_cons (PS.im (ps_asg (PE.im (pe_tup (PA.im (pa_cons (PE.im (ClX.pe_cmeth (PE.im (pe_glob (v := .ref (He.ga K "Rights")) rfl T.m_Rights rfl) i_fn) T.k_Rights.rd T.cm_Rights_from_digit (((ok_Rights_from_digit T).calm).r (bN_Rights_from_digit T.F_Rights_from_digit)) (hr.mono (by decide)) pass0 (PA.im (pa_cons (PE.im (pv 8) i_var) (PA.im pa_nil i_nil)) i_cons)) (i_cmeth spIs_calm xok_0)) (PA.im (pa_cons (PE.im (ClX.pe_cmeth (PE.im (pe_glob (v := .ref (He.ga K "Rights")) rfl T.m_Rights rfl) i_fn) T.k_Rights.rd T.cm_Rights_from_digit (((ok_Rights_from_digit T).calm).r (bN_Rights_from_digit T.F_Rights_from_digit)) (hr.mono (by decide)) pass0 (PA.im (pa_cons (PE.im (pv 9) i_var) (PA.im pa_nil i_nil)) i_cons)) (i_cmeth spIs_calm xok_0)) (PA.im pa_nil i_nil)) i_cons)) i_cons)) i_tup) (pg_tup rfl (pgs_cons (pg_name (i := 10) nd rfl (Or.inr rfl)) (pgs_cons (pg_name (i := 11) nd rfl (Or.inl rfl)) pgs_nil)))) (i_asg (ws := [10, 11]) (lg_tup (lg_cons (lg_name (by decide)) (lg_cons (lg_name (by decide)) lg_nil)))))
        (PSs.im (pss_cons (PS.im (ps_set (i := 12) nd rfl (Or.inl rfl) (pe_lamT (k := 22) ((lo_law_caught T).mono (by decide)) gd (hr.mono (by decide)) (by rfl) T.m_law_caught T.F_law_caught (bN_law_caught T.F_law_caught) sc_law_caught rfl (Or.inl rfl) hcd T.lam_law.1 T.lam_law.2 T.bm (LamX.lamS_by (by kernel_rfl)) rfl (fun _ _ _ _ _ => rfl) (fun w0 E2 A outer s H E f c' gd hr => (PE.im (StX.pe_makeR T.mk_Rights ((ok_Rights_init T).rD (bD2_Rights_init T.F_Rights_init)) (hr.mono (by decide)) (by rfl) T.m_Rights (passes_call (takes_of rfl rfl rfl rfl) (fun _ _ _ _ h => h)) (PA.im (pa_cons (PE.im (pv 10) i_var) (PA.im pa_nil i_nil)) i_cons)) (i_make (spIsI_D rfl) xok_x))))) (i_asg (lg_name (by decide : 12 ∈ [12]))))
        (PSs.im (pss_cons (PS.im (ps_if (PW.pt (PW.im (pw_or (PT.im (pt_cmpR op_ne (PE.im (pe_ix ix_list (PE.im (pv 12) i_var) (PE.im (pe_int) (i_c rfl)) (fun _ _ => rfl)) (i_op l_ixL)) (PE.im (pe_str) (i_c rfl)) (nomark _)) (i_test (i_op l_s))) (pw_or1 (PT.im (pt_cmpR (op_neCB (K := K) rfl (tbk_1 (w := w) (K := K) (mg := mg) (base := base) T) (tnk_1 T) (hr.mono (by decide))) (PE.im (pe_ix ix_list (PE.im (pv 12) i_var) (PE.im (pe_int) (i_c rfl)) (fun _ _ => rfl)) (i_op l_ixL)) (PE.im (pv 10) i_var) (nomark _)) (i_test (i_op l_neC))))) i_or))
          (pss_one (PS.im (ps_ret (PE.im (pe_bl) (i_c rfl))) i_ret))
          (PSs.im pss_nil i_next)) i_ifS)
        (PSs.im (pss_cons (PS.im (ps_if (PW.pt (PW.im (pw_or (PT.im (pt_cmpR op_ne (PE.im (pe_prop (PE.im (ClX.pe_cmeth (PE.im (pe_glob (v := .ref (He.ga K "Rights")) rfl T.m_Rights rfl) i_fn) T.k_Rights.rd T.cm_Rights_of ((ok_Rights_of T).calm) (hr.mono (by decide)) pass0 (PA.im (pa_cons (PE.im (pv 10) i_var) (PA.im (pa_cons (PE.im (pv 11) i_var) (PA.im pa_nil i_nil)) i_cons)) i_cons)) (i_cmeth spIs_starCalm xok_0)) T.k_Rights.cl T.pr_Rights_digit (ok_Rights_digit T) (hr.mono (by decide)) (bN_Rights_digit T.F_Rights_digit) .nil pass0 rfl) (i_prop spIs xok_0)) (PE.im (pe_op op_or (PE.im (pv 8) i_var) (PE.im (pv 9) i_var)) (i_op l_s)) (nomark _)) (i_test (i_op l_s))) (PW.im (pw_or (PT.im (pt_cmpR op_ne (PE.im (pe_prop (PE.im (pe_cmeth0 (PE.im (pe_glob (v := .ref (He.ga K "Rights")) rfl T.m_Rights rfl) i_fn) T.k_Rights.rd T.cm_Rights_of ((ok_Rights_of T).calm) (hr.mono (by decide)) pass0) (i_cmeth0 spIs_starCalm xok_0)) T.k_Rights.cl T.pr_Rights_digit (ok_Rights_digit T) (hr.mono (by decide)) (bN_Rights_digit T.F_Rights_digit) .nil pass0 rfl) (i_prop spIs xok_0)) (PE.im (pe_int) (i_c rfl)) (nomark _)) (i_test (i_op l_s))) (pw_or1 (PT.im (pt_cmpR (op_neCB (K := K) rfl (tbk_1 (w := w) (K := K) (mg := mg) (base := base) T) (tnk_1 T) (hr.mono (by decide))) (PE.im (pe_call ((ok_as_rights T).calm) (hr.mono (by decide)) (by rfl) T.m_as_rights T.F_as_rights.kp (bN_as_rights T.F_as_rights) .nil pass0 (PA.im (pa_cons (PE.im (pv 10) i_var) (PA.im pa_nil i_nil)) i_cons)) (i_call spIs_calm xok_0)) (PE.im (pv 10) i_var) (nomark _)) (i_test (i_op l_neC))))) i_or)) i_or))
          (pss_one (PS.im (ps_ret (PE.im (pe_bl) (i_c rfl))) i_ret))
          (PSs.im pss_nil i_next)) i_ifS)
        (PSs.im (pss_cons (PS.im (ps_if (PW.pt (PW.im (pw_or (PT.im (pt_not (PT.im (pt_val (PE.im (pe_call (ok_is_rights T) (hr.mono (by decide)) (by rfl) T.m_is_rights T.F_is_rights.kp (bN_is_rights T.F_is_rights) .nil pass0 (PA.im (pa_cons (PE.im (pv 10) i_var) (PA.im pa_nil i_nil)) i_cons)) (i_call spIs xok_0))) i_B)) i_not) (PW.im (pw_or (PT.im (pt_cmpR (op_neCB (K := K) rfl (tbk_1 (w := w) (K := K) (mg := mg) (base := base) T) (tnk_1 T) (hr.mono (by decide))) (PE.im (pe_call ((ok_as_rights T).calm) (hr.mono (by decide)) (by rfl) T.m_as_rights T.F_as_rights.kp (bN_as_rights T.F_as_rights) .nil pass0 (PA.im (pa_cons (PE.im (pe_join (PE.im (pe_str) (i_c rfl)) (PE.im (pe_meth0 (PE.im (pv 11) i_var) T.k_Rights.cl T.me_Rights_listed (ok_Rights_listed T) (hr.mono (by decide)) (bN_Rights_listed T.F_Rights_listed) .nil pass0) (i_meth0 spIs xok_0))) (i_m1 l_join)) (PA.im pa_nil i_nil)) i_cons)) (i_call spIs_calm xok_0)) (PE.im (pv 11) i_var) (nomark _)) (i_test (i_op l_neC))) (pw_or1 (PT.im (pt_cmpR op_ne (PE.im (pe_prop (PE.im (ClX.pe_cmeth (PE.im (pe_glob (v := .ref (He.ga K "Rights")) rfl T.m_Rights rfl) i_fn) T.k_Rights.rd T.cm_Rights_of ((ok_Rights_of T).calm) (hr.mono (by decide)) pass0 (PA.im (pa_cons (PE.im (pe_str) (i_c rfl)) (PA.im (pa_cons (PE.im (pv 10) i_var) (PA.im pa_nil i_nil)) i_cons)) i_cons)) (i_cmeth spIs_starCalm xok_0)) T.k_Rights.cl T.pr_Rights_digit (ok_Rights_digit T) (hr.mono (by decide)) (bN_Rights_digit T.F_Rights_digit) .nil pass0 rfl) (i_prop spIs xok_0)) (PE.im (pe_op op_or (PE.im (pv 8) i_var) (PE.im (pe_int) (i_c rfl))) (i_op l_s)) (nomark _)) (i_test (i_op l_s))))) i_or)) i_or))
          (pss_one (PS.im (ps_ret (PE.im (pe_bl) (i_c rfl))) i_ret))
          (PSs.im pss_nil i_next)) i_ifS)
        (pss_one (PS.im (ps_if (PT.im (pt_cmpR op_ne (PE.im (pe_prop (PE.im (ClX.pe_cmeth (PE.im (pe_glob (v := .ref (He.ga K "Rights")) rfl T.m_Rights rfl) i_fn) T.k_Rights.rd T.cm_Rights_of ((ok_Rights_of T).calm) (hr.mono (by decide)) pass0 (PA.im (pa_cons (PE.im (pe_str) (i_c rfl)) (PA.im (pa_cons (PE.im (pv 10) i_var) (PA.im (pa_cons (PE.im (pe_str) (i_c rfl)) (PA.im (pa_cons (PE.im (pv 11) i_var) (PA.im (pa_cons (PE.im (pe_makeR0 T.mk_Rights (((ok_Rights_init T).calm).rD (bD1_Rights_init T.F_Rights_init)) (hr.mono (by decide)) (by rfl) T.m_Rights pass0) (i_make0 (spIsI_calmD rfl) xok_0)) (PA.im (pa_cons (PE.im (pe_str) (i_c rfl)) (PA.im pa_nil i_nil)) i_cons)) i_cons)) i_cons)) i_cons)) i_cons)) i_cons)) (i_cmeth spIs_starCalm xok_0)) T.k_Rights.cl T.pr_Rights_digit (ok_Rights_digit T) (hr.mono (by decide)) (bN_Rights_digit T.F_Rights_digit) .nil pass0 rfl) (i_prop spIs xok_0)) (PE.im (pe_op op_or (PE.im (pe_op op_or (PE.im (pv 8) i_var) (PE.im (pv 9) i_var)) (i_op l_s)) (PE.im (pe_int) (i_c rfl))) (i_op l_s)) (nomark _)) (i_test (i_op l_s)))
          (pss_one (PS.im (ps_ret (PE.im (pe_bl) (i_c rfl))) i_ret))
          (PSs.im pss_nil i_next)) i_ifS))) i_seq)) i_seq)) i_seq)) i_seq)) i_seq)) i_seq)) i_seq)) i_seq)) (i_for (ws := [1]) (lg_name (by decide))))
      (pss_one (PS.im (ps_ret (PE.im (pe_bl) (i_c rfl))) i_ret))) i_seq),
    body_x ok a ca cx (ev_body (Nn := 13) rfl (v_seq (v_for (v_iRng1 (v_cons (v_cb k_max2 (v_consV (EvP.v v_cint) (v_consV (EvP.v (v_cb k_min2 (v_consV (EvP.v v_cint) (v_consV (EvP.v (v_cb k_len (v_consV (EvP.v v_var) v_nilV))) v_nilV)))) v_nilV))) v_nil)) v_gname xf_name
        (v_seq (v_asg (v_callC (FnE.calm0 fne_bag) (v_cons (v_callC (FnE.calm0 fne_cell) (v_cons v_var (v_cons v_var v_nil))) v_nil)) v_gname xf_name)
        (v_seq (v_for (v_iRng1 (v_cons v_cint v_nil)) v_gname xf_name
          (v_seq (v_asg (v_m1 k_join v_cstr (EvP.v (v_lc (v_iRng1 (v_cons (v_callC (FnE.calm0 fne_take) (v_cons v_var (v_cons v_cint v_nil))) v_nil)) v_gname xf_name (fun _ => v_yes) (fun _ => (v_op k_ixS (EvP.v v_cstr) (EvP.v (v_callC (FnE.calm0 fne_take) (v_cons v_var (v_cons v_cint v_nil))))))))) v_gname xf_name)
          (v_seq (v_asg (v_op k_ixL (EvP.v (v_lst (v_cons (v_callC (FnE.calm0 fne) (v_cons v_var v_nil)) (v_cons v_var (v_cons v_cstr (v_cons v_cstr v_nil)))))) (EvP.v (v_callC (FnE.calm0 fne_take) (v_cons v_var (v_cons v_cint v_nil))))) v_gname xf_name)
          (v_seq (v_asg (v_op k_ixL (EvP.v (v_lst (v_cons (v_callC (FnE.calm0 fne) (v_cons v_var v_nil)) (v_cons v_cstr (v_cons v_var v_nil))))) (EvP.v (v_callC (FnE.calm0 fne_take) (v_cons v_var (v_cons v_cint v_nil))))) v_gname xf_name)
          (v_ifS (v_not (v_T (v_callC (FnE.calm0 fne) (v_cons v_var (v_cons v_var v_nil)))))
            (v_ret v_cbool)
            v_next)))))
        (v_seq (v_par (v_cons (v_callC (FnE.calm0 fne_take) (v_cons v_var (v_cons v_cint v_nil))) (v_cons (v_callC (FnE.calm0 fne_take) (v_cons v_var (v_cons v_cint v_nil))) v_nil)))
        (v_seq (v_asg (v_tup (v_cons (v_cmethC (FnE.calm fne) (v_fn rfl) (v_cons v_var v_nil)) (v_cons (v_cmethC (FnE.calm fne) (v_fn rfl) (v_cons v_var v_nil)) v_nil))) (v_gtup (v_gcons v_gname (v_gcons v_gname v_gnil))) (xf_tup (xf_cons xf_name (xf_cons xf_name xf_nil))))
        (v_seq (v_asg (v_lam (fun Ec => (v_make (FiE.dfl fie (by simp only [tDs, tD])) (v_cons v_var v_nil)))) v_gname xf_name)
        (v_seq (v_ifS (v_or (v_T (v_op k_ne (EvP.v (v_op k_ixL (EvP.v v_var) (EvP.v v_cint))) (EvP.v v_cstr))) (v_T (v_opP (k_neC T.isf tbo_1 (nfk_1 T) tbc_1) (v_op k_ixL (EvP.v v_var) (EvP.v v_cint)) v_var)))
          (v_ret v_cbool)
          v_next)
        (v_seq (v_ifS (v_or (v_T (v_op k_ne (EvP.v (v_propC (FnE.calm0 fne) (v_cmethC (FnE.starC fne) (v_fn rfl) (v_cons v_var (v_cons v_var v_nil))))) (EvP.v (v_op k_I0 (EvP.v v_var) (EvP.v v_var))))) (v_or (v_T (v_op k_ne (EvP.v (v_propC (FnE.calm0 fne) (v_cmethC (FnE.starC fne) (v_fn rfl) v_nil))) (EvP.v v_cint))) (v_T (v_opP (k_neC T.isf tbo_1 (nfk_1 T) tbc_1) (v_callC (FnE.calm fne) (v_cons v_var v_nil)) v_var))))
          (v_ret v_cbool)
          v_next)
        (v_seq (v_ifS (v_or (v_not (v_T (v_callC (FnE.calm0 fne) (v_cons v_var v_nil)))) (v_or (v_T (v_opP (k_neC T.isf tbo_1 (nfk_1 T) tbc_1) (v_callC (FnE.calm fne) (v_cons (v_m1 k_join v_cstr (EvP.v (v_methC (FnE.calm0 fne) v_var v_nil))) v_nil)) v_var)) (v_T (v_op k_ne (EvP.v (v_propC (FnE.calm0 fne) (v_cmethC (FnE.starC fne) (v_fn rfl) (v_cons v_cstr (v_cons v_var v_nil))))) (EvP.v (v_op k_I0 (EvP.v v_var) (EvP.v v_cint)))))))
          (v_ret v_cbool)
          v_next)
        (v_ifS (v_T (v_op k_ne (EvP.v (v_propC (FnE.calm0 fne) (v_cmethC (FnE.starC fne) (v_fn rfl) (v_cons v_cstr (v_cons v_var (v_cons v_cstr (v_cons v_var (v_cons (v_makeC (FiE.dflC fie (by simp only [tDs, tD])) v_nil) (v_cons v_cstr v_nil))))))))) (EvP.v (v_op k_I0 (EvP.v (v_op k_I0 (EvP.v v_var) (EvP.v v_var))) (EvP.v v_cint)))))
          (v_ret v_cbool)
          v_next))))))))))
      (v_ret v_cbool)) h)⟩
end
theorem txt_of {w : World} {K : PySem.W.Frag} {h : Heap} {mg : Str → Option Value} (X : K.In h) (G : h.Ns mainGlobals mg) (c : SaysX cs fn ts xs w K) : Txt w K mg :=
  ⟨He.free_ok X G (c.f.fact 0 (f := c0) rfl),
  He.free_ok X G (c.f.fact 1 (f := c1) rfl),
  He.free_ok X G (c.f.fact 2 (f := c2) rfl),
  He.free_ok X G (c.f.fact 3 (f := c3) rfl),
  He.free_ok X G (c.f.fact 4 (f := c4) rfl),
  He.free_ok X G (c.f.fact 5 (f := c5) rfl),
  He.free_ok X G (c.f.fact 6 (f := c6) rfl),
  He.free_ok X G (c.f.fact 7 (f := c7) rfl),
  He.free_ok X G (c.f.fact 8 (f := c8) rfl),
  He.free_ok X G (c.f.fact 9 (f := c9) rfl),
  He.free_ok X G (c.f.fact 10 (f := c10) rfl),
  sysB_ok (c.f.fact 11 (f := c11) rfl),
  He.free_ok X G (c.f.fact 12 (f := c12) rfl),
  He.glo_ok X G (c.f.fact 13 (f := c13) rfl),
  He.glo_ok X G (c.f.fact 14 (f := c14) rfl),
  He.glo_ok X G (c.f.fact 15 (f := c15) rfl),
  He.glo_ok X G (c.f.fact 16 (f := c16) rfl),
  He.glo_ok X G (c.f.fact 17 (f := c17) rfl),
  He.glo_ok X G (c.f.fact 18 (f := c18) rfl),
  He.glo_ok X G (c.f.fact 19 (f := c19) rfl),
  He.glo_ok X G (c.f.fact 20 (f := c20) rfl),
  He.glo_ok X G (c.f.fact 21 (f := c21) rfl),
  He.glo_ok X G (c.f.fact 22 (f := c22) rfl),
  He.glo_ok X G (c.f.fact 23 (f := c23) rfl),
  He.glo_ok X G (c.f.fact 24 (f := c24) rfl),
  He.glo_ok X G (c.f.fact 25 (f := c25) rfl),
  He.glo_ok X G (c.f.fact 26 (f := c26) rfl),
  He.glo_ok X G (c.f.fact 27 (f := c27) rfl),
  He.glo_ok X G (c.f.fact 28 (f := c28) rfl),
  He.glo_ok X G (c.f.fact 29 (f := c29) rfl),
  He.glo_ok X G (c.f.fact 30 (f := c30) rfl),
  He.glo_ok X G (c.f.fact 31 (f := c31) rfl),
  He.glo_ok X G (c.f.fact 32 (f := c32) rfl),
  He.glo_ok X G (c.f.fact 33 (f := c33) rfl),
  He.glo_ok X G (c.f.fact 34 (f := c34) rfl),
  He.glo_ok X G (c.f.fact 35 (f := c35) rfl),
  He.glo_ok X G (c.f.fact 36 (f := c36) rfl),
  He.str_ok X G (c.f.fact 37 (f := c37) rfl),
  He.tupB_ok (c.f.fact 38 (f := c38) rfl),
  supB_ok (c.f.fact 39 (f := c39) rfl),
  (excB_ok (c.f.fact 40 (f := c40) rfl)).1,
  (excB_ok (c.f.fact 41 (f := c41) rfl)).2,
  supB_ok (c.f.fact 42 (f := c42) rfl),
  (excB_ok (c.f.fact 43 (f := c43) rfl)).1,
  (excB_ok (c.f.fact 44 (f := c44) rfl)).2,
  clsB_ok (c.f.fact 45 (f := c45) rfl),
  mkB_ok (c.f.fact 46 (f := c46) rfl),
  offB_ok (c.f.fact 47 (f := c47) rfl),
  noB_ok (c.f.fact 48 (f := c48) rfl),
  noB_ok (c.f.fact 49 (f := c49) rfl),
  cmB_ok (c.f.fact 50 (f := c50) rfl),
  cmB_ok (c.f.fact 51 (f := c51) rfl),
  propB_ok (c.f.fact 52 (f := c52) rfl),
  methB_ok (c.f.fact 53 (f := c53) rfl),
  dunB_ok (c.f.fact 54 (f := c54) rfl),
  dunB_ok (c.f.fact 55 (f := c55) rfl),
  He.eqO_ok (c.f.fact 56 (f := c56) rfl),
  dunB_ok (c.f.fact 57 (f := c57) rfl),
  binTB_ok (c.f.fact 58 (f := c58) rfl),
  He.eqO_ok (c.f.fact 59 (f := c59) rfl),
  He.eqO_ok (c.f.fact 60 (f := c60) rfl),
  dunB_ok (c.f.fact 61 (f := c61) rfl),
  binTB_ok (c.f.fact 62 (f := c62) rfl),
  He.eqO_ok (c.f.fact 63 (f := c63) rfl),
  He.eqO_ok (c.f.fact 64 (f := c64) rfl),
  dunB_ok (c.f.fact 65 (f := c65) rfl),
  binTB_ok (c.f.fact 66 (f := c66) rfl),
  He.eqO_ok (c.f.fact 67 (f := c67) rfl),
  He.eqO_ok (c.f.fact 68 (f := c68) rfl),
  dunB_ok (c.f.fact 69 (f := c69) rfl),
  binTB_ok (c.f.fact 70 (f := c70) rfl),
  He.eqO_ok (c.f.fact 71 (f := c71) rfl),
  He.eqO_ok (c.f.fact 72 (f := c72) rfl),
  methB_ok (c.f.fact 73 (f := c73) rfl),
  subXB_ok (c.f.fact 74 (f := c74) rfl),
  subKB_ok (c.f.fact 75 (f := c75) rfl),
  bmBB_ok X G (c.f.fact 76 (f := c76) rfl),
  lamFB_ok (c.f.fact 77 (f := c77) rfl),
  lamFB_ok (c.f.fact 78 (f := c78) rfl),
  of_decide_eq_true (c.f.fact 79 (f := c79) rfl),
  (c.f.fact 80 (f := c80) rfl),
  (fun t ht => of_decide_eq_true (List.all_eq_true.mp (c.f.fact 81 (f := c81) rfl) t ht)),
  (let ⟨_, F⟩ := c.f.def_ 0 (d := d_Rights_eq) rfl; F.toFd),
  (let ⟨_, F⟩ := c.f.def_ 1 (d := d_digit_of) rfl; F.toFd),
  (let ⟨_, F⟩ := c.f.def_ 2 (d := d_Rights_init) rfl; F.toFd),
  (let ⟨_, F⟩ := c.f.def_ 3 (d := d_Rights_digit) rfl; F.toFd),
  (let ⟨_, F⟩ := c.f.def_ 4 (d := d_Rights_from_digit) rfl; F.toFd),
  (let ⟨_, F⟩ := c.f.def_ 5 (d := d_Rights_listed) rfl; F.toFd),
  (let ⟨_, F⟩ := c.f.def_ 6 (d := d_Rights_of) rfl; F.toFd),
  (let ⟨_, F⟩ := c.f.def_ 7 (d := d_law_box) rfl; F.toFd),
  (let ⟨_, F⟩ := c.f.def_ 8 (d := d_law_caught) rfl; F.toFd),
  (let ⟨_, F⟩ := c.f.def_ 9 (d := d_law_cell) rfl; F.toFd),
  (let ⟨_, F⟩ := c.f.def_ 10 (d := d_law_take) rfl; F.toFd),
  (let ⟨_, F⟩ := c.f.def_ 11 (d := d_law_odd) rfl; F.toFd),
  (let ⟨_, F⟩ := c.f.def_ 12 (d := d_Rights_contains) rfl; F.toFd),
  (let ⟨_, F⟩ := c.f.def_ 13 (d := d_Rights_and) rfl; F.toFd),
  (let ⟨_, F⟩ := c.f.def_ 14 (d := d_Rights_or) rfl; F.toFd),
  (let ⟨_, F⟩ := c.f.def_ 15 (d := d_Rights_sub) rfl; F.toFd),
  (let ⟨_, F⟩ := c.f.def_ 16 (d := d_Rights_xor) rfl; F.toFd),
  (let ⟨_, F⟩ := c.f.def_ 17 (d := d_bits_of) rfl; F.toFd),
  (let ⟨_, F⟩ := c.f.def_ 18 (d := d_Rights_covers) rfl; F.toFd),
  (let ⟨_, F⟩ := c.f.def_ 19 (d := d_law_sign) rfl; F.toFd),
  (let ⟨_, F⟩ := c.f.def_ 20 (d := d_as_rights) rfl; F.toFd),
  (let ⟨_, F⟩ := c.f.def_ 21 (d := d_law_ask) rfl; F.toFd),
  (let ⟨_, F⟩ := c.f.def_ 22 (d := d_law_is_letters) rfl; F.toFd),
  (let ⟨_, F⟩ := c.f.def_ 23 (d := d_law_same) rfl; F.toFd),
  (let ⟨_, F⟩ := c.f.def_ 24 (d := d_digit_in) rfl; F.toFd),
  (let ⟨_, F⟩ := c.f.def_ 25 (d := d_is_rights) rfl; F.toFd),
  (let ⟨_, F⟩ := c.f.def_ 26 (d := d_law_right) rfl; F.toFd),
  (let ⟨_, F⟩ := c.f.def_ 27 (d := d_law) rfl; F.toFd),
  supI_of (d := xd_InvalidRights) (c.x 0 (d := xd_InvalidRights) rfl) (c.f.fact 83 (f := c83) rfl) (He.eqO_ok (c.f.fact 84 (f := c84) rfl)) (of_decide_eq_true (c.f.fact 85 (f := c85) rfl)) rfl rfl (by decide) ⟨rfl, rfl, rfl, rfl, rfl, rfl, rfl⟩ (by decide +kernel) (by decide) (by decide) (fun _ => rfl) (fun _ _ _ _ _ _ _ _ _ => rfl),
  supI_of (d := xd_InvalidInteger) (c.x 1 (d := xd_InvalidInteger) rfl) (c.f.fact 86 (f := c86) rfl) (He.eqO_ok (c.f.fact 87 (f := c87) rfl)) (of_decide_eq_true (c.f.fact 88 (f := c88) rfl)) rfl rfl (by decide) ⟨rfl, rfl, rfl, rfl, rfl, rfl, rfl⟩ (by decide +kernel) (by decide) (by decide) (fun _ => rfl) (fun _ _ _ _ _ _ _ _ _ => rfl),
  ktab_of (c.f.tab 0 (t := (fun K => He.ga K "BITS", ["r", "w", "x"])) rfl) (c.f.fact 82 (f := c82) rfl)⟩
abbrev spLaw (K : PySem.W.Frag) : Sp := spLaw2 K
theorem facts {w : World} {K : PySem.W.Frag} {h : Heap} {mg : Str → Option Value} {f : Addr} (X : K.In h) (G : h.Ns mainGlobals mg) (hfa : mg ("law" : Str) = some (.ref f)) (c : SaysX cs fn ts xs w K) :
    ∃ fd : FuncData, (∀ (s : Shared) (v : Value), BindsTo s fd ⟨[v], []⟩ [("_law_script", v)]) ∧ ∀ base : Heap, K.In base → base.Ns mainGlobals mg → FnG P w K mg base CX0 26 f fd ["_law_script"] (spLaw K) := by
  have T := txt_of X G c
  have e := hfa.symm.trans T.m_law
  cases e
  have b := FunD.bindsA (ps := ["_law_script"]) T.F_law fun _ _ _ _ _ _ us hl => match us, hl with | [_], _ => rfl
  refine ⟨fdOf K (He.ga K "law"), fun s v => b s [v] rfl, fun base _ _ => ?_⟩
  have q := ok_law (base := base) T
  refine FnG.to q ?_
  intro vs H Q E h
  refine law_is3 (f := f_law) ?_ h
  exact @main
end K09
open PySem PySem.W PySem.Calls PyProof.Rows
set_option maxHeartbeats 0 in
theorem PySem.Challenge.cw_filerights_k09_rights_refused_holds : PySem.Challenge.rw_filerights_k09_rights_refused.Holds := by
  w_on; o_law
  refine HandSHeadRun.head_any (r := OpenLaw.row PySem.Challenge.rw_filerights_k09_rights_refused) (q := view (OpenLaw.row PySem.Challenge.rw_filerights_k09_rights_refused).prog [27]) (H := K09.hk) (ob := K09.ob) (M := 16000) (loose := K09.loose) (d := HandSHeadRun.topDef (OpenLaw.row PySem.Challenge.rw_filerights_k09_rights_refused).prog 27) (kwd := []) K09.ob_eq
    (by kernel_rfl) (fun s => by kernel_rfl) K09.run (by kernel_rfl) (by kernel_rfl) (by kernel_rfl) (by rfl) (by first | assumption | decide +kernel) (by decide +kernel) ⟨rfl, rfl, rfl, rfl, rfl, by decide +kernel⟩ ?hw ?hc
  case hw => w_witness2
  case hc =>
    refine Fr.walk_gT (l := PySem.Challenge.rw_filerights_k09_rights_refused) (n := 63) (k := 26) (x := "_law_script") rfl (by decide) (by kernel_rfl) ⟨rfl, by decide, by decide⟩ ?F
    intro w mg fa h Y G hmg0
    obtain ⟨K, KX, c, tb⟩ := Y
    have hmg : mg ("law" : PySem.Str) = some (.ref fa) := by
      have e : (HandSHeadRun.topDef (OpenLaw.row PySem.Challenge.rw_filerights_k09_rights_refused).prog 27).name = ("law" : PySem.Str) := by kernel_rfl
      rw [← e]
      exact hmg0
    obtain ⟨fd, hb, hF⟩ := K09.facts (w := w) KX G hmg c
    exact ⟨K, fd, K09.spLaw K, KX, tb, hb, fun H a ns hl hT hS => ⟨a, ns, rfl, hS, hl, hT, fun _ => rfl⟩, hF⟩
