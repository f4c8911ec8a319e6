import PyProof.Rows.All
import Wide.All
import OpenK.AllK
import Wide.FinOn
import HandS.ForMost
import HandS.TryOnly
import HandS.ExcOwn
import HandS.WordsExc
import HandS.IsInst
import HandS.ExcIs
import HandS.HotCalls
import HandS.SortInts
import HandS.Walk
import HandS.Steps
import HandS.SetFor
import PySem.Challenge.RW_timestretch_k03_a_letter_brought
set_option Elab.async false
set_option linter.all false
set_option maxRecDepth 100000
set_option maxHeartbeats 4000000
/-! The common ground of the proofs: readings step by step, heaps that only grow. -/
namespace Ts
open PySem PySem.Spec PyProof.Rows L2
section
variable {σ : L2.St} {H H1 H2 : Hp} {Q : VK} {QA : List V → Hp → Prop} {QB : Bool → Hp → Prop} {ta tb te tx : TE} {tt tu : TT} {tr : TA} {v x y : V} {i j : Int} {n : Nat} {D : Ends} {t u : TS} {K : PySem.W.Frag} {r : R2}

/-! ### heaps -/
theorem same_upd {p : Addr} {o : HO} (h : H p = none) : Same H (upd H p o) := fun b z e => by
  rw [upd_ne (ne_of_none e h)]
  exact e
theorem same_get {a : Addr} {o : HO} (s : Same H H1) (h : H a = some o) : H1 a = some o := s a o h
theorem same_step (s : Same H1 H2) (h : Same H H1) : Same H H2 := h.trans s
theorem Same.sqT {a : Addr} {xs : List V} (e : Same H H1) (h : SqT K H a xs) : SqT K H1 a xs := by
  rcases h with (h | ⟨o, h⟩) | h
  · exact .inl (.inl (e _ _ h))
  · exact .inl (.inr ⟨o, e _ _ h⟩)
  · exact .inr h
/-- an object that H does not know may change -/
theorem same_mut {p : Addr} {o : HO} (s : Same H H1) (h : H p = none) : Same H (upd H1 p o) := fun b z e => by
  rw [upd_ne (ne_of_none e h)]
  exact s b z e
theorem sqL_of {a : Addr} {xs : List V} (h : H a = some (.lst xs)) : SqL K H a xs := .inl (.inl h)
theorem sqT_of {a : Addr} {xs : List V} (h : H a = some (.tup xs)) : SqT K H a xs := .inl (.inl h)
theorem size_of (h : n ≤ 1000000) : n ≤ sizeLine := Nat.le_trans h (by rw [sizeLine_eq]; decide)
theorem size_lt (h : n < 1000000) : n < sizeLine := Nat.lt_of_lt_of_le h (by rw [sizeLine_eq]; decide)

/-! ### values -/
theorem q_var {k : Nat} (h : σ[k]? = some (some v)) (q : Q v H) : tVar k σ H Q := ⟨v, h, q⟩
theorem q_c (q : Q v H) : tC v σ H Q := q
theorem q_op (q : ta σ H fun x H1 => tb σ H1 fun y H2 => r x y H2 Q) : tOp r ta tb σ H Q := q
theorem q_un {f : V → Hp → VK → Prop} (q : ta σ H fun x H1 => f x H1 Q) : tUn f ta σ H Q := q
theorem q_rU {g : Int → V} (q : Q (g i) H) : rU g (.int i) H Q := ⟨i, rfl, q⟩
theorem q_I0 {g : Int → Int → V} (q : Q (g i j) H) : rI0 g (.int i) (.int j) H Q := ⟨i, j, rfl, rfl, q⟩
theorem q_mod (h : 0 < j) (q : Q (.int (i % j)) H) : rI (fun _ j => 0 < j) (fun i j => .int (i % j)) (.int i) (.int j) H Q := ⟨i, j, rfl, rfl, h, q⟩
theorem q_fdiv (h : 0 < j ∧ j < 1073741824) (q : Q (.int (i / j)) H) : rI CDiv (fun i j => .int (i / j)) (.int i) (.int j) H Q := ⟨i, j, rfl, rfl, h, q⟩
theorem q_mulL (h : -18446744073709551616 < i ∧ i < 18446744073709551616) (q : Q (.int (i * j)) H) : rI CMul (fun i j => .int (i * j)) (.int i) (.int j) H Q := ⟨i, j, rfl, rfl, .inl (by simpa using h), q⟩
theorem q_mulR (h : -18446744073709551616 < j ∧ j < 18446744073709551616) (q : Q (.int (i * j)) H) : rI CMul (fun i j => .int (i * j)) (.int i) (.int j) H Q := ⟨i, j, rfl, rfl, .inr (by simpa using h), q⟩
theorem q_pow12 (q : Q (.int 1000000000000) H) : rI CPow (fun i j => .int (i ^ j.toNat)) (.int 10) (.int 12) H Q := ⟨10, 12, rfl, rfl, ⟨by decide, by decide, by decide⟩, q⟩
theorem q_pow24 (q : Q (.int 1000000000000000000000000) H) : rI CPow (fun i j => .int (i ^ j.toNat)) (.int 10) (.int 24) H Q := ⟨10, 24, rfl, rfl, ⟨by decide, by decide, by decide⟩, q⟩
theorem q_pow40 (q : Q (.int 10000000000000000000000000000000000000000) H) : rI CPow (fun i j => .int (i ^ j.toNat)) (.int 10) (.int 40) H Q := ⟨10, 40, rfl, rfl, ⟨by decide, by decide, by decide⟩, q⟩
theorem q_eqI (q : Q (.bl (decide (i = j))) H) : rEq (.int i) (.int j) H Q := ⟨rfl, by
  have e : decide (V.int i = V.int j) = decide (i = j) := by simp
  rw [e]
  exact q⟩
theorem q_neI (q : Q (.bl (!decide (i = j))) H) : rNe (.int i) (.int j) H Q := ⟨rfl, by
  have e : decide (V.int i = V.int j) = decide (i = j) := by simp
  rw [e]
  exact q⟩
theorem q_eqS {a b : Str} (q : Q (.bl (decide (a = b))) H) : rEq (.str a) (.str b) H Q := ⟨rfl, by
  have e : decide (V.str a = V.str b) = decide (a = b) := by simp
  rw [e]
  exact q⟩
theorem q_neS {a b : Str} (q : Q (.bl (!decide (a = b))) H) : rNe (.str a) (.str b) H Q := ⟨rfl, by
  have e : decide (V.str a = V.str b) = decide (a = b) := by simp
  rw [e]
  exact q⟩
theorem q_eqB {a b : Bool} (q : Q (.bl (decide (a = b))) H) : rEq (.bl a) (.bl b) H Q := ⟨rfl, by
  have e : decide (V.bl a = V.bl b) = decide (a = b) := by simp
  rw [e]
  exact q⟩
theorem q_neB {a b : Bool} (q : Q (.bl (!decide (a = b))) H) : rNe (.bl a) (.bl b) H Q := ⟨rfl, by
  have e : decide (V.bl a = V.bl b) = decide (a = b) := by simp
  rw [e]
  exact q⟩
theorem q_cons (q : ta σ H fun x H1 => tr σ H1 fun xs H2 => QA (x :: xs) H2) : tCons ta tr σ H QA := q
theorem q_nil (q : QA [] H) : tNil σ H QA := q
theorem q_tup (q : tr σ H fun xs H1 => xs.length ≤ sizeLine ∧ ∀ p, H1 p = none → Q (.ref p) (upd H1 p (.tup xs))) : tTup tr σ H Q := q
theorem q_lst (q : tr σ H fun xs H1 => xs.length ≤ sizeLine ∧ ∀ p, H1 p = none → Q (.ref p) (upd H1 p (.lst xs))) : tLst tr σ H Q := q
theorem q_call {sp : Sp} {dvs : List V} {E : XK} (q : tr σ H fun vs H1 => sp (vs ++ dvs) H1 Q E) : tCall sp dvs E tr σ H Q := q
theorem q_callS {sp : Sp} {E : L2.St → XK} (q : tr σ H fun vs H1 => sp vs H1 Q (E σ)) : tCallS sp E tr σ H Q := q
theorem q_CB {f : List V → Hp → VK → Prop} (q : tr σ H fun vs H1 => f vs H1 Q) : tCB f tr σ H Q := q
theorem q_ixL {p : Addr} {xs : List V} (h : SqL K H p xs) (a : atI xs i = some v) (q : Q v H) : rIxL K (.ref p) (.int i) H Q := ⟨p, xs, i, v, rfl, rfl, h, a, q⟩
theorem q_ixT {p : Addr} {xs : List V} (h : SqT K H p xs) (a : atI xs i = some v) (q : Q v H) : rIxT K (.ref p) (.int i) H Q := ⟨p, xs, i, v, rfl, rfl, h, a, q⟩
theorem atI_mem {xs : List V} (h0 : 0 ≤ i) (h1 : i < xs.length) : ∃ v, v ∈ xs ∧ atI xs i = some v := by
  obtain ⟨k, rfl⟩ : ∃ k : Nat, i = (k : Int) := ⟨i.toNat, by omega⟩
  have hk : k < xs.length := by omega
  exact ⟨xs[k], List.getElem_mem hk, atI_nat (List.getElem?_eq_getElem hk)⟩
/-- an item of a list at an index that lies in it: one of its items -/
theorem q_ixAny {p : Addr} {xs : List V} (h : SqL K H p xs) (h0 : 0 ≤ i) (h1 : i < xs.length) (q : ∀ v, v ∈ xs → Q v H) : rIxL K (.ref p) (.int i) H Q := by
  obtain ⟨v, m, a⟩ := atI_mem (xs := xs) h0 h1
  exact q_ixL h a (q v m)

/-! ### tests -/
theorem q_test (q : te σ H fun x H' => ∃ k, x = .bl k ∧ QB k H') : tTest te σ H QB := q
theorem q_tB (q : te σ H fun x H' => ∃ k, x = .bl k ∧ QB k H') : tB te σ H QB := q
theorem q_not (q : tt σ H fun c H1 => QB (!c) H1) : tNot tt σ H QB := q
theorem q_and (q : tt σ H fun c H1 => if c = true then tu σ H1 QB else QB false H1) : tAnd tt tu σ H QB := q
theorem q_or (q : tt σ H fun c H1 => if c = true then QB true H1 else tu σ H1 QB) : tOr tt tu σ H QB := q
theorem q_andV (q : ta σ H fun x H1 => ∃ c, x = .bl c ∧ if c = true then tb σ H1 Q else Q (.bl false) H1) : tAndV ta tb σ H Q := q
theorem q_orV (q : ta σ H fun x H1 => ∃ c, x = .bl c ∧ if c = true then Q (.bl true) H1 else tb σ H1 Q) : tOrV ta tb σ H Q := q
theorem q_notV (q : ta σ H fun x H1 => ∃ c, x = .bl c ∧ Q (.bl (!c)) H1) : tNotV ta σ H Q := q
theorem q_ifE (q : tt σ H fun c H1 => if c = true then ta σ H1 Q else tb σ H1 Q) : tIf tt ta tb σ H Q := q
theorem q_bl {b : Bool} {P : Bool → Prop} (q : P b) : ∃ k, V.bl b = .bl k ∧ P k := ⟨b, rfl, q⟩
theorem q_iteD {p A B : Prop} [Decidable p] (h1 : p → A) (h2 : ¬ p → B) : if decide p = true then A else B := by
  by_cases h : p
  · rw [decide_eq_true h]; exact iteT (h1 h)
  · rw [decide_eq_false h]; exact iteF (h2 h)
theorem q_iteN {p A B : Prop} [Decidable p] (h1 : ¬ p → A) (h2 : p → B) : if (!decide p) = true then A else B := by
  by_cases h : p
  · rw [decide_eq_true h]; exact iteF (h2 h)
  · rw [decide_eq_false h]; exact iteT (h1 h)
theorem q_iteB {b : Bool} {A B : Prop} (h1 : b = true → A) (h2 : b = false → B) : if b = true then A else B := by
  cases b
  · exact iteF (h2 rfl)
  · exact iteT (h1 rfl)
theorem q_iteT {A B : Prop} (h1 : A) : if true = true then A else B := iteT h1
theorem q_iteNT {A B : Prop} (h1 : B) : if (!true) = true then A else B := iteF h1
theorem q_iteNF {A B : Prop} (h1 : A) : if (!false) = true then A else B := iteT h1
theorem q_iteF {A B : Prop} (h1 : B) : if false = true then A else B := iteF h1

/-! ### statements -/
variable {nx bk ct : L2.St → Hp → Prop} {rt : VK}
theorem q_seq (q : t ⟨u ⟨nx, rt, bk, ct⟩, rt, bk, ct⟩ σ H) : tSeq t u ⟨nx, rt, bk, ct⟩ σ H := q
theorem q_next (q : nx σ H) : tNext ⟨nx, rt, bk, ct⟩ σ H := q
theorem q_set {k : Nat} (q : te σ H fun x H1 => nx (σ.set k (some x)) H1) : tAsg te (gName k) ⟨nx, rt, bk, ct⟩ σ H := q
theorem q_asg {g : TG} (q : te σ H fun x H1 => g x σ H1 nx) : tAsg te g ⟨nx, rt, bk, ct⟩ σ H := q
theorem q_ret (q : te σ H rt) : tRet te ⟨nx, rt, bk, ct⟩ σ H := q
theorem q_retN (q : rt .non H) : tRetN ⟨nx, rt, bk, ct⟩ σ H := q
theorem q_drop (q : te σ H fun _ H1 => nx σ H1) : tDrop te ⟨nx, rt, bk, ct⟩ σ H := q
theorem q_ifS (q : tt σ H fun b H1 => if b = true then t ⟨nx, rt, bk, ct⟩ σ H1 else u ⟨nx, rt, bk, ct⟩ σ H1) : tIfS tt t u ⟨nx, rt, bk, ct⟩ σ H := q
theorem iteD_yes {p A B : Prop} [Decidable p] (h : p) (a : A) : if decide p = true then A else B := by
  rw [decide_eq_true h]; exact iteT a
theorem iteD_no {p A B : Prop} [Decidable p] (h : ¬ p) (a : B) : if decide p = true then A else B := by
  rw [decide_eq_false h]; exact iteF a
theorem iteN_yes {p A B : Prop} [Decidable p] (h : ¬ p) (a : A) : if (!decide p) = true then A else B := by
  rw [decide_eq_false h]; exact iteT a
theorem iteN_no {p A B : Prop} [Decidable p] (h : p) (a : B) : if (!decide p) = true then A else B := by
  rw [decide_eq_true h]; exact iteF a
end
/-- the i-th of a written list of slots -/
theorem q_slot {σ : L2.St} {k : Nat} {v : V} (h : σ[k]? = some (some v)) : σ[k]? = some (some v) := h
end Ts

/-! Defs as they stand, own error classes, a def that is handed the error that is held. -/
namespace Ts
open PySem PySem.Spec PyProof.Rows L2
/-- a def of the text, without defaults -/
structure Def (K : PySem.W.Frag) (nm qual : Str) (st : Stmt) (ps : List Str) (f : Addr) (fd : FuncData) : Prop where
  F : Fun K nm qual st f fd
  b : Binds K fd ps []
/-- an own error class below StretchError -/
structure ExK (K : PySem.W.Frag) (C : Addr) : Prop where
  x : PySem.W.excIn K C [.type "ValueError", .type "Exception", .type "BaseException", .type "object"] "ValueError.__new__" = true
  kp : PySem.W.keepIn K (.ref C) = true
  tp : PySem.W.typeIn K (.ref C) = some (.type "type")
  c : ExcC K C
theorem ExK.mk' {X : Cx} {C : Addr} (T : ExK X.K C) {x m : Str} {j : Nat} {p p2 pos : Pos} (gC : X.mg x = some (.ref C)) (hg : Gl X x) (hdb : (x == ("__debug__" : Str)) = false := by decide) :
    PMk X (.Call (.Name x p) [.Constant (.str m) j p2] [] pos) (fun _ H Q => Q (.ref C) none H) :=
  pmk_own PySem.F.excBase_ValueError T.x gC T.kp (raises_own T.c.hs T.tp) hg hdb

section
variable {P : Program} {w : World} {K : PySem.W.Frag} {mg : Str → Option Value} {base : Heap}
/-- what a def with one parameter gives when it is handed the held error: G by the error's class -/
structure FnE (P : Program) (w : World) (K : PySem.W.Frag) (mg : Str → Option Value) (base : Heap) (k : Nat) (f : Addr) (fd : FuncData) (x : Str) (G : Value → Hp → VK → Prop) : Prop where
  run : ∀ (A : Around) (outer : List Env) (s : Shared) (H : Hp) (args : Args) (Q : VK) (a : Addr) (oe : Obj) (cls : Value), L2H.RoomH k A → L2H.PinOk outer H s (a, oe) → Zc cls none oe → (∃ vs, oe.data = .fields vs) →
    Env0 P w K mg base A outer s H → BindsTo s fd args [(x, .ref a)] → G cls H Q → codeAny (model P w) A (.call (.ref f) args) (CR CX0 outer P w H s Q E0) s
theorem Fun.okE {x qual y : Str} {st : Stmt} {f : Addr} {fd : FuncData} {N : List Str} {k : Nat} {G : Value → Hp → VK → Prop} (F : Fun K x qual st f fd) (S : FnScope N [y] (defScope st))
    (hbody : ∀ (cdv : Value) (A : Around) (outer : List Env) (s : Shared) (H : Hp) (Q : VK) (a : Addr) (oe : Obj) (cls : Value), L2H.RoomH k (A.deeper (envOfC qual (defScope st) s.heap.objs.size f cdv)) → Zc cls none oe → (∃ vs, oe.data = .fields vs) → G cls H Q →
      ∃ t, PSs (L2H.cxH CX0 P w K mg base N qual (defScope st) f cdv A outer s H E0 (a, oe)) (defBody st) t ∧ t { nx := fun _ H' => Q .non H', rt := Q } (start N [.ref a]) H) : FnE P w K mg base (k + 1) f fd y G := by
  obtain ⟨oc, od, kV, doc, pm, an, cdv, ct, osl, rfl, lk, hcd⟩ := F.ex
  refine ⟨fun A outer s H args Q a oe cls hr hpin hz hf e0 hb hG => ?_⟩
  have inK : K.In s.heap := e0.mod.kin.keeps fun b o e => (e0.bs b o e).1
  have lim : s.heap.NoLimit := e0.mod.nolimit.keeps fun b o e => (e0.bs b o e).1
  have par : ∀ z ∈ [y].zip [Value.ref a], (defScope st).names.lookup z.1 = some .local ∨ ((defScope st).names.lookup z.1 = some .cell ∧
      ((cellsFrom (s.heap.objs.size + 1) (defScope st).names []).lookup z.1).isSome = true) := by
    rintro ⟨n, v⟩ hz'
    rcases S.par n (List.of_mem_zip hz').1 with q | q
    · exact .inl q
    · exact .inr ⟨q, PySem.W.cellsFrom_some _ _ _ (.inl q)⟩
  refine codeAny_call_function hr.depth (inK _ _ lk) rfl S.co S.gen rfl (PySem.W.codeRec_of inK hcd) (hb _ _ _ _ ?_)
  refine wpAny_newFunctionEnv_cells S.kind par fun env he s1 x1 => ?_
  subst he
  refine ⟨lim.keeps x1.toInCall.keep, codeAny_func ?_⟩
  obtain ⟨t, ht, hq⟩ := hbody cdv A outer s H Q a oe cls (hr.deeper _) hz hf hG
  have rv : Vals [V.ref a] [Value.ref a] := .cons rfl .nil
  have I := L2H.inv_startH (CX := CX0) (E := E0) (f := f) (cd := cdv) (qual := qual) S hpin e0 (vs := [V.ref a]) rfl rv x1
  refine wpAny_mono (ht.run [] s1 (start N [.ref a]) H _ I hq) (fun fl s' hs => ?_) fun e s' hs => hs
  cases fl with
  | ret u =>
    obtain ⟨v, σ', H', J, r1, q⟩ := hs
    exact ⟨v, H', J.os, J.bare, J.base, J.hok, r1, q⟩
  | next =>
    obtain ⟨σ', H', J, q⟩ := hs
    exact ⟨V.non, H', J.os, J.bare, J.base, J.hok, rfl, q⟩
  | brk =>
    obtain ⟨_, _, _, q⟩ := hs
    exact q.elim
  | cont =>
    obtain ⟨_, _, _, q⟩ := hs
    exact q.elim
/-- f(n) in a suite, n the held error's name -/
theorem pe_callE {X : Cx} {a : Addr} {oe : Obj} {cls : Value} {d : Option Addr} {k i : Nat} {f : Addr} {fd : FuncData} {x y n : Str} {G : Value → Hp → VK → Prop} {p p2 pos : Pos} (F : FnE X.prog X.w X.K X.mg X.base k f fd y G) (hr : L2H.RoomH k X.A) (hp : (a, oe) ∈ X.pn)
    (hz : Zc cls d oe) (hf : ∃ vs, oe.data = .fields vs) (hg : Gl X x) (hm : X.mg x = some (.ref f)) (hk : PySem.W.keepIn X.K (.ref f) = true) (hb : Binds X.K fd [y] []) (hn : PE X (.Name n p2) (tVar i)) (hdb : (x == ("__debug__" : Str)) = false := by decide)
    (he : starEach [.Name n p2] X.env = (false, eval (.Name n p2) X.env) :: starEach [] X.env := by rfl) (hpl : (backTo pos (starEach [] X.env)).any (·.1) = false := by rfl) :
    PE X (.Call (.Name x p) [.Name n p2] [] pos) (fun σ H Q => σ[i]? = some (some (.ref a)) ∧ d = none ∧ G cls H Q) := by
  refine ⟨fun pins s σ H Q I h => ?_⟩
  obtain ⟨hi, rfl, hG⟩ := h
  refine wpAny_Call_Name_kw (ld_glob I hg hm ?_ hdb)
  have ha : PA X [.Name n p2] (tCons (tVar i) tNil) := pa_cons hn pa_nil he
  refine PySem.W.callWith_K (h₀ := X.base) I.ok.mod.kin hk (thn (ha.run pos pins s σ H (fun vs H1 => vs = [V.ref a] ∧ H1 = H) I ⟨_, hi, rfl, rfl⟩) fun us s1 hh => ?_) he hpl
  obtain ⟨vs, H1, I1, r, rfl, rfl⟩ := hh
  refine ⟨I1.kIn, ?_⟩
  cases r with
  | cons ru rn =>
    cases rn
    cases ru
    have P1 := I1.pin (a, oe) (List.mem_append_left _ hp)
    have hpin : L2H.PinOk X.stack H1 s1 (a, oe) := ⟨P1.1, P1.2.1, fun hm => (List.mem_cons.mp (I1.stkSub a hm)).elim P1.2.2.1 P1.2.2.2.1, P1.2.2.2.2⟩
    refine wpAny_call (codeAny_mono (F.run X.A X.stack s1 H1 ⟨[.ref a], []⟩ Q a oe cls hr hpin hz hf I1.env0 (hb s1 [.ref a] I1.kIn rfl) hG) fun r s' hq => ?_)
    cases r with
    | error e => exact False.elim hq
    | ok fl =>
      cases fl with
      | ret u => exact I1.after hq
      | next => exact False.elim hq
      | brk => exact False.elim hq
      | cont => exact False.elim hq
/-- isinstance(e, C), e a held error of the class at D -/
theorem call_isP {X : Cx} {a D : Addr} {oe : Obj} (hp : (a, oe) ∈ X.pn) (C : ExcC X.K D) (hz : Zc (.ref D) none oe) (hf : ∃ vs, oe.data = .fields vs) : CallR X (.builtin "isinstance") (rIsE X.K D a) := by
  intro pins s σ H xs us Q I r h
  obtain ⟨c, cv, b, rfl, hcv, e, q⟩ := h
  cases r with
  | cons rx rr =>
    cases rr with
    | cons rt rr =>
      cases rr
      cases rx
      cases hcv _ rt
      have g := (I.pin (a, oe) (List.mem_append_left _ hp)).1
      obtain ⟨vs, hv⟩ := hf
      have J : PySem.W.InstAt s.heap a oe D none := by
        obtain ⟨c1, d1, dt, sl⟩ := oe
        obtain ⟨h1, h2⟩ := hz
        dsimp only at h1 h2 hv
        subst h1 h2 hv
        exact ⟨g, rfl, rfl, trivial⟩
      exact PySem.W.kia_one (PySem.W.handS_kitx_exc C.hg C.hk C.hs C.hd C.ha C.hn C.ht C.hm) I.kIn J e (fun z => nomatch z) fun tk => ⟨.bl b, H, I.kept (t' := tk) fun _ _ z => z, rfl, q⟩
end
theorem cls_own {K : PySem.W.Frag} {t : Value} {C : Addr} {b : Bool} (h1 : PySem.W.isClsIn K C = true) (h2 : PySem.W.typeIn K (.ref C) = some (.type "type")) (h3 : PySem.W.subIn K t (.ref C) = some b) : PySem.W.kitCls K t (.ref C) = some b := by
  have e : ((PySem.W.clsIn K C).isSome && PySem.W.typeIn K (.ref C) == some (.type "type")) = true := by
    have h1' : (PySem.W.clsIn K C).isSome = true := h1
    rw [h1', h2]
    rfl
  show (if ((PySem.W.clsIn K C).isSome && PySem.W.typeIn K (.ref C) == some (.type "type")) = true then PySem.W.subIn K t (.ref C) else none) = some b
  rw [if_pos e]
  exact h3
theorem exm_own {K : PySem.W.Frag} {t : Value} {C : Addr} {b : Bool} (h0 : PySem.W.subIn K (.ref C) (.type "BaseException") = some true) (h1 : PySem.W.isClsIn K C = true) (h2 : PySem.W.typeIn K (.ref C) = some (.type "type")) (h3 : PySem.W.subIn K t (.ref C) = some b) : PySem.W.exmOne K t (.ref C) = some b := by
  have e : (PySem.W.subIn K (.ref C) (.type "BaseException") == some true) = true := by
    rw [h0]
    rfl
  show (if (PySem.W.subIn K (.ref C) (.type "BaseException") == some true) = true then PySem.W.kitCls K t (.ref C) else none) = some b
  rw [if_pos e]
  exact cls_own h1 h2 h3
theorem kit_self {K : PySem.W.Frag} {v : Value} : PySem.W.kitOne K v v = some true := if_pos (beq_self_eq_true v)
theorem kit_no {K : PySem.W.Frag} {D C : Addr} (s1 : PySem.W.subIn K (.ref D) (.ref D) = some true) (s0 : PySem.W.subIn K (.ref D) (.ref C) = some false) (h1 : PySem.W.isClsIn K C = true) (h2 : PySem.W.typeIn K (.ref C) = some (.type "type")) : PySem.W.kitOne K (.ref D) (.ref C) = some false := by
  have ne : ¬ ((Value.ref D == Value.ref C) = true) := fun q => by
    have e := beq_iff_eq.mp q
    rw [e, ← e, e] at s0
    rw [e] at s1
    rw [s1] at s0
    cases s0
  show (if (Value.ref D == Value.ref C) = true then some true else PySem.W.kitCls K (.ref D) (.ref C)) = some false
  rw [if_neg ne]
  exact cls_own h1 h2 s0
theorem kit_bt {K : PySem.W.Frag} {D : Addr} {n : String} {b : Bool} (s : PySem.W.subIn K (.ref D) (.type n) = some b) (h : PySem.W.kitMeta n = true) : PySem.W.kitOne K (.ref D) (.type n) = some b := by
  show (if (Value.ref D == Value.type n) = true then some true else if PySem.W.kitMeta n = true then PySem.W.subIn K (.ref D) (.type n) else none) = some b
  rw [if_neg (by simp), if_pos h]
  exact s
end Ts

/-! Further rules of one operation; the walk's own small steps. -/
namespace Ts
open PySem PySem.Spec PyProof.Rows L2
/-- list.count of a flat value in a list of flat values -/
def rCountF (K : PySem.W.Frag) : V → List V → Hp → VK → Prop := fun x xs H Q => ∃ (p : Addr) (ys : List V) (y : V), x = .ref p ∧ xs = [y] ∧ SqL K H p ys ∧ flatV y = true ∧ ys.all flatV = true ∧ Q (.int (ys.countP (fun z => eqV z y) : Nat)) H
theorem countP_eqU {x : V} : ∀ {xs : List V} {us : List Value}, Vals xs us → xs.all flatV = true → us.countP (eqU x) = xs.countP fun y => eqV y x
  | _, _, .nil, _ => rfl
  | y :: xs, u :: us, .cons r t, f => by
    rw [List.all_cons, Bool.and_eq_true] at f
    rw [List.countP_cons, List.countP_cons, eqU_of r f.1, countP_eqU t f.2]
theorem mt_countB {X : Cx} : MtR X "list.count" (rCountF X.K) := by
  intro pins s σ H x xs v us Q I rx rxs h
  obtain ⟨p, ys, y, rfl, rfl, hs, fy, fys, q⟩ := h
  cases rx
  obtain ⟨u, rfl, ru⟩ := rxs.one
  obtain ⟨its, rv, ⟨⟨cls, dd, data, sl⟩, n, ho, hc, hdn, hd⟩, hlen⟩ := I.list hs
  simp only at hc hd
  subst hc hd
  refine call_meets PySem.F.slot_list_count ⟨_, ho, rfl⟩ PySem.F.entry_list_count (PySem.F.args_list_count_2 _ _)
    (SeqAt.list_countAt p its.toArray n dd sl u (eqU y)) ⟨ho, fun w hw => mem_eqAt ru fy rv fys w (by simpa using hw), ?_⟩
  have e := countP_eqU (x := y) rv fys
  refine ⟨.int (ys.countP (fun z => eqV z y) : Nat), H, I.tok _, ⟨s.toks, ?_⟩, q⟩
  show Value.int ((its.countP (eqU y) : Nat) : Int) s.toks = Value.int ((ys.countP (fun z => eqV z y) : Nat) : Int) s.toks
  rw [e]
def rLen (K : PySem.W.Frag) : List V → Hp → VK → Prop := fun xs H Q => ∃ x n, xs = [x] ∧ LenV K x H n ∧ Q (.int (n : Nat)) H
theorem call_len' {X : Cx} : CallR X (.builtin "len") (rLen X.K) := call_len
def rMax2 : List V → Hp → VK → Prop := fun xs H Q => ∃ i j, xs = [.int i, .int j] ∧ Q (.int (if j > i then j else i)) H
def rMin2 : List V → Hp → VK → Prop := fun xs H Q => ∃ i j, xs = [.int i, .int j] ∧ Q (.int (if j < i then j else i)) H
theorem call_max2' {X : Cx} (hc : X.calm = true) : CallR X (.builtin "max") rMax2 := call_max2 hc
theorem call_min2' {X : Cx} (hc : X.calm = true) : CallR X (.builtin "min") rMin2 := call_min2 hc
def rInt1 : List V → Hp → VK → Prop := fun xs H Q => (∃ i, xs = [.int i] ∧ Q (.int i) H) ∨ ∃ k, xs = [.bl k] ∧ Q (.int (if k then 1 else 0)) H
theorem call_int1' {X : Cx} : CallR X (.type "int") rInt1 := call_int1
def rListOf (K : PySem.W.Frag) : List V → Hp → VK → Prop := fun xs H Q => ∃ p ys, xs = [.ref p] ∧ (SqL K H p ys ∨ SqT K H p ys) ∧ ∀ l, H l = none → Q (.ref l) (upd H l (.lst ys))
theorem call_list' {X : Cx} : CallR X (.type "list") (rListOf X.K) := call_list_of
section
variable {σ : L2.St} {H H1 H2 : Hp} {Q : VK} {K : PySem.W.Frag} {v : V} {i j : Int}
theorem q_lenL {a : Addr} {xs : List V} (h : SqL K H a xs) (q : Q (.int (xs.length : Nat)) H) : rLen K [.ref a] H Q := ⟨_, _, rfl, .inl ⟨xs, h, rfl⟩, q⟩
theorem q_lenT {a : Addr} {xs : List V} (h : SqT K H a xs) (q : Q (.int (xs.length : Nat)) H) : rLen K [.ref a] H Q := ⟨_, _, rfl, .inr ⟨xs, h, rfl⟩, q⟩
theorem q_lenS {z : Str} (h : z.length ≤ sizeLine) (q : Q (.int (z.length : Nat)) H) : rLen K [.str z] H Q := ⟨_, _, rfl, ⟨h, rfl⟩, q⟩
theorem q_max2 (q : Q (.int (if j > i then j else i)) H) : rMax2 [.int i, .int j] H Q := ⟨i, j, rfl, q⟩
theorem q_min2 (q : Q (.int (if j < i then j else i)) H) : rMin2 [.int i, .int j] H Q := ⟨i, j, rfl, q⟩
theorem q_intI (q : Q (.int i) H) : rInt1 [.int i] H Q := .inl ⟨i, rfl, q⟩
theorem q_intB {b : Bool} (q : ∀ z : Int, 0 ≤ z → z ≤ 1 → (b = true → z = 1) → (b = false → z = 0) → Q (.int z) H) : rInt1 [.bl b] H Q := .inr ⟨b, rfl, by
  cases b
  · exact q 0 (by decide) (by decide) (fun h => nomatch h) (fun _ => rfl)
  · exact q 1 (by decide) (by decide) (fun _ => rfl) (fun h => nomatch h)⟩
theorem q_isNN (q : Q (.bl true) H) : rIsN .non .non H Q := ⟨rfl, q⟩
theorem q_isNI (q : Q (.bl false) H) : rIsN (.int i) .non H Q := ⟨rfl, q⟩
theorem q_isNR {a : Addr} (q : Q (.bl false) H) : rIsN (.ref a) .non H Q := ⟨rfl, q⟩
theorem q_notNN (q : Q (.bl false) H) : rNotN .non .non H Q := ⟨rfl, q⟩
theorem q_notNI (q : Q (.bl true) H) : rNotN (.int i) .non H Q := ⟨rfl, q⟩
theorem q_notNR {a : Addr} (q : Q (.bl true) H) : rNotN (.ref a) .non H Q := ⟨rfl, q⟩
theorem q_blT {p : Prop} [Decidable p] (h : p) (q : Q (.bl true) H) : Q (.bl (decide p)) H := by
  rw [decide_eq_true h]
  exact q
theorem at0 {xs : List V} (h : xs[0]? = some v) : atI xs 0 = some v := atI_nat (j := 0) h
theorem at1 {xs : List V} (h : xs[1]? = some v) : atI xs 1 = some v := atI_nat (j := 1) h
theorem at2 {xs : List V} (h : xs[2]? = some v) : atI xs 2 = some v := atI_nat (j := 2) h
theorem at3 {xs : List V} (h : xs[3]? = some v) : atI xs 3 = some v := atI_nat (j := 3) h
theorem at4 {xs : List V} (h : xs[4]? = some v) : atI xs 4 = some v := atI_nat (j := 4) h
/-- a list and a list, a new list -/
theorem q_cat {a b : Addr} {xs ys : List V} (h1 : H a = some (.lst xs)) (h2 : H b = some (.lst ys)) (hl : xs.length + ys.length ≤ sizeLine) (q : ∀ p H', Same H H' → H' p = some (.lst (xs ++ ys)) → Q (.ref p) H') : rCat (.ref a) (.ref b) H Q :=
  ⟨a, b, xs, ys, rfl, rfl, h1, h2, hl, fun p hp => q p _ (same_upd hp) upd_same⟩
theorem q_bm {to : TE} {tr : TA} {Ty : String} {r : V → List V → Hp → VK → Prop} (q : to σ H fun x H1 => tyV K Ty x H1 ∧ tr σ H1 fun xs H2 => r x xs H2 Q) : tBM K Ty r to tr σ H Q := q
theorem q_bm0 {to : TE} {Ty : String} {r : V → List V → Hp → VK → Prop} (q : to σ H fun x H1 => tyV K Ty x H1 ∧ r x [] H1 Q) : tBM0 K Ty r to σ H Q := q
/-- == of equal data -/
theorem q_eqSame {x y : V} {d : PyData} (h1 : Dp K H x d) (h2 : Dp K H y d) (hs : SeqAt.shaped d = true) (q : Q (.bl true) H) : rEqD K x y H Q := ⟨d, d, h1, h2, hs, hs, by rw [SeqAt.eqv_refl d (SeqAt.canLay_of_shaped hs)]; exact q⟩
theorem q_neSame {x y : V} {d : PyData} (h1 : Dp K H x d) (h2 : Dp K H y d) (hs : SeqAt.shaped d = true) (q : Q (.bl false) H) : rNeD K x y H Q := ⟨d, d, h1, h2, hs, hs, by rw [SeqAt.eqv_refl d (SeqAt.canLay_of_shaped hs)]; exact q⟩
theorem dp_pair {a : Addr} {x y : Int} (h : H a = some (.tup [.int x, .int y])) : Dp K H (.ref a) (.tuple [.int x, .int y]) := .tup (sqT_of h) (.cons (.int x) (.cons (.int y) .nil))
/-- all items are numbers from lo to hi -/
def AllIn (lo hi : Int) : List V → Prop
  | [] => True
  | .int z :: r => lo ≤ z ∧ z ≤ hi ∧ AllIn lo hi r
  | _ => False
theorem AllIn.at {lo hi : Int} : ∀ {xs : List V}, AllIn lo hi xs → ∀ v, v ∈ xs → ∃ z, v = .int z ∧ lo ≤ z ∧ z ≤ hi
  | .int z :: r, h, v, hv => by
    rcases List.mem_cons.mp hv with rfl | hv
    · exact ⟨z, rfl, h.1, h.2.1⟩
    · exact AllIn.at h.2.2 v hv
theorem q_ixB (lo hi : Int) {p : Addr} {xs : List V} (h : SqL K H p xs) (h0 : 0 ≤ i) (h1 : i < xs.length) (ha : AllIn lo hi xs) (q : ∀ z, lo ≤ z → z ≤ hi → Q (.int z) H) : rIxL K (.ref p) (.int i) H Q :=
  q_ixAny h h0 h1 fun v hv => by
    obtain ⟨z, rfl, z0, z1⟩ := ha.at v hv
    exact q z z0 z1
/-- two numbers sorted -/
theorem q_sort2 {a : Addr} {x y : Int} (h : SqL K H a [.int x, .int y]) (q : ∀ (u v : Int) (p : Addr) (H' : Hp), u ≤ v → ((u = x ∧ v = y) ∨ (u = y ∧ v = x)) → Same H H' → H' p = some (.lst [.int u, .int v]) → Q (.ref p) H') : rSortedI K [.ref a] H Q := by
  refine ⟨a, [x, y], rfl, h, fun ns' p hp hs hn => ?_⟩
  have hl : ns'.length = 2 := hp.length_eq
  match ns', hl with
  | [u, v], _ =>
    have huv : u ≤ v := by
      rw [List.pairwise_cons] at hs
      exact hs.1 v (by simp)
    refine q u v p _ huv ?_ (same_upd hn) upd_same
    have m1 : u ∈ [x, y] := hp.mem_iff.mp (by simp)
    have m2 : v ∈ [x, y] := hp.mem_iff.mp (by simp)
    have m3 : x ∈ [u, v] := hp.mem_iff.mpr (by simp)
    have m4 : y ∈ [u, v] := hp.mem_iff.mpr (by simp)
    simp only [List.mem_cons, List.not_mem_nil, or_false] at m1 m2 m3 m4
    rcases m1 with rfl | rfl
    · rcases m2 with rfl | rfl
      · rcases m4 with rfl | rfl <;> exact .inl ⟨rfl, rfl⟩
      · exact .inl ⟨rfl, rfl⟩
    · rcases m2 with rfl | rfl
      · exact .inr ⟨rfl, rfl⟩
      · rcases m3 with rfl | rfl <;> exact .inr ⟨rfl, rfl⟩
/-- a, b = a list of two -/
theorem q_lst2 {j k : Nat} {p : Addr} {x y : V} {σ : L2.St} {R : L2.St → Hp → Prop} (h : SqL K H p [x, y]) (q : R ((σ.set j (some x)).set k (some y)) H) : gLst K 2 (gCons (gName j) (gCons (gName k) gNil)) (.ref p) σ H R := ⟨p, [x, y], rfl, h, rfl, x, [y], rfl, y, [], rfl, rfl, q⟩
/-- a, b = a tuple of two; five -/
theorem q_tup2 {j k : Nat} {p : Addr} {x y : V} {σ : L2.St} {R : L2.St → Hp → Prop} (h : SqT K H p [x, y]) (q : R ((σ.set j (some x)).set k (some y)) H) : gTup K 2 (gCons (gName j) (gCons (gName k) gNil)) (.ref p) σ H R := ⟨p, [x, y], rfl, h, rfl, x, [y], rfl, y, [], rfl, rfl, q⟩
theorem q_tup5 {j k l m n : Nat} {p : Addr} {x y z u v : V} {σ : L2.St} {R : L2.St → Hp → Prop} (h : SqT K H p [x, y, z, u, v]) (q : R (((((σ.set j (some x)).set k (some y)).set l (some z)).set m (some u)).set n (some v)) H) :
    gTup K 5 (gCons (gName j) (gCons (gName k) (gCons (gName l) (gCons (gName m) (gCons (gName n) gNil))))) (.ref p) σ H R := ⟨p, [x, y, z, u, v], rfl, h, rfl, x, _, rfl, y, _, rfl, z, _, rfl, u, _, rfl, v, [], rfl, rfl, q⟩
theorem q_name {j : Nat} {x : V} {σ : L2.St} {R : L2.St → Hp → Prop} (q : R (σ.set j (some x)) H) : gName j x σ H R := q
/-- a letter stands at a -/
structure Ltr where
  name : Str
  sent : Int
  back : Int
  low : Int
  high : Int
def LtAt (H : Hp) (a : Addr) (L : Ltr) : Prop := H a = some (.tup [.str L.name, .int L.sent, .int L.back, .int L.low, .int L.high])
/-- a pair of numbers stands at a -/
def Pr (H : Hp) (a : Addr) (x y : Int) : Prop := H a = some (.tup [.int x, .int y])
theorem Pr.cong {a : Addr} {x y x' y' : Int} (h : H a = some (.tup [.int x, .int y])) (e1 : x = x') (e2 : y = y') : Pr H a x' y' := by
  subst e1 e2
  exact h
theorem q_isi {x : V} {a b : String} {r : Bool} (hx : TyX K H x (.type a)) (e : kitB a b = some r) (q : Q (.bl r) H) : rIsi K [x, .ty b] H Q := ⟨x, .ty b, _, _, r, rfl, .ty b, hx, kit_ty e, q⟩
theorem q_isi_int_int (q : Q (.bl true) H) : rIsi K [.int i, .ty "int"] H Q := q_isi (.base (.int i)) (by decide +kernel) q
theorem q_isi_int_bool (q : Q (.bl false) H) : rIsi K [.int i, .ty "bool"] H Q := q_isi (.base (.int i)) (by decide +kernel) q
theorem q_isi_str_str {z : Str} (q : Q (.bl true) H) : rIsi K [.str z, .ty "str"] H Q := q_isi (.base (.str z)) (by decide +kernel) q
theorem q_isi_tup_tup {a : Addr} {xs : List V} (h : H a = some (.tup xs)) (q : Q (.bl true) H) : rIsi K [.ref a, .ty "tuple"] H Q := q_isi (.base (.tup h)) (by decide +kernel) q
theorem q_isi_lst_lst {a : Addr} {xs : List V} (h : H a = some (.lst xs)) (q : Q (.bl true) H) : rIsi K [.ref a, .ty "list"] H Q := q_isi (.base (.lst h)) (by decide +kernel) q
end
end Ts

local macro_rules | `(tactic| walk_at "ts hp") => `(tactic| first | assumption | (apply Ts.same_get; (focus assumption); walk_at "ts hp"))
local macro_rules | `(tactic| walk_at "ts sq") => `(tactic| first | assumption | ((with_reducible apply Ts.sqL_of); walk_at "ts hp") | ((with_reducible apply Ts.sqT_of); walk_at "ts hp") | ((with_reducible apply L2.Same.seq); (focus assumption); walk_at "ts sq") | ((with_reducible apply Ts.Same.sqT); (focus assumption); walk_at "ts sq"))
local macro_rules | `(tactic| walk_at "ts same") => `(tactic| first | assumption | exact L2.Same.refl _ | ((with_reducible apply Ts.same_step); (focus assumption); walk_at "ts same"))
local macro_rules | `(tactic| walk_at "ts call") => `(tactic| fail "no call")
local macro_rules | `(tactic| walk_at "ts 1") => `(tactic| first
  | with_reducible apply Ts.q_seq
  | with_reducible apply Ts.q_set
  | with_reducible apply Ts.q_asg
  | ((with_reducible apply Ts.q_lst2); (focus walk_at "ts sq"))
  | ((with_reducible apply Ts.q_tup2); (focus walk_at "ts sq"))
  | ((with_reducible apply Ts.q_tup5); (focus walk_at "ts sq"))
  | with_reducible apply Ts.q_name
  | with_reducible apply Ts.q_ret
  | with_reducible apply Ts.q_ifS
  | with_reducible apply Ts.q_next
  | with_reducible apply Ts.q_drop
  | with_reducible apply Ts.q_retN
  | with_reducible apply Ts.q_op
  | with_reducible apply Ts.q_c
  | ((with_reducible apply Ts.q_var); (focus rfl))
  | with_reducible apply Ts.q_I0
  | ((with_reducible apply Ts.q_mod); (focus omega))
  | ((with_reducible apply Ts.q_mulR); (focus omega))
  | ((with_reducible apply Ts.q_mulL); (focus omega))
  | ((with_reducible apply Ts.q_fdiv); (focus omega))
  | with_reducible apply Ts.q_pow12
  | with_reducible apply Ts.q_pow24
  | with_reducible apply Ts.q_pow40
  | with_reducible apply Ts.q_un
  | with_reducible apply Ts.q_rU
  | with_reducible apply Ts.q_test
  | with_reducible apply Ts.q_tB
  | with_reducible apply Ts.q_bl
  | with_reducible apply Ts.q_eqI
  | with_reducible apply Ts.q_neI
  | with_reducible apply Ts.q_eqS
  | with_reducible apply Ts.q_neS
  | with_reducible apply Ts.q_cons
  | with_reducible apply Ts.q_nil
  | with_reducible apply Ts.q_tup
  | with_reducible apply Ts.q_lst
  | with_reducible apply Ts.q_call
  | with_reducible apply Ts.q_callS
  | with_reducible apply Ts.q_CB
  | with_reducible apply Ts.q_bm
  | with_reducible apply Ts.q_bm0
  | with_reducible apply Ts.q_and
  | with_reducible apply Ts.q_or
  | with_reducible apply Ts.q_not
  | with_reducible apply Ts.q_andV
  | with_reducible apply Ts.q_orV
  | with_reducible apply Ts.q_notV
  | with_reducible apply Ts.q_ifE
  | with_reducible apply Ts.q_iteT
  | with_reducible apply Ts.q_iteF
  | with_reducible apply Ts.q_iteNT
  | with_reducible apply Ts.q_iteNF
  | ((with_reducible apply Ts.iteD_yes); (focus decide +kernel))
  | ((with_reducible apply Ts.iteD_no); (focus decide +kernel))
  | ((with_reducible apply Ts.iteN_yes); (focus decide +kernel))
  | ((with_reducible apply Ts.iteN_no); (focus decide +kernel))
  | ((with_reducible apply Ts.q_lenL); (focus walk_at "ts sq"))
  | ((with_reducible apply Ts.q_lenT); (focus walk_at "ts sq"))
  | with_reducible apply Ts.q_max2
  | with_reducible apply Ts.q_min2
  | with_reducible apply Ts.q_intI
  | ((with_reducible apply Ts.q_intB); intro z z0 z1 zt zf)
  | ((with_reducible apply Ts.q_sort2); (focus walk_at "ts sq"); intro u v p H2 huv hor sm eo)
  | with_reducible apply Ts.q_isNN
  | with_reducible apply Ts.q_isNI
  | with_reducible apply Ts.q_isNR
  | with_reducible apply Ts.q_notNN
  | with_reducible apply Ts.q_notNI
  | with_reducible apply Ts.q_notNR
  | with_reducible apply Ts.q_isi_int_int
  | with_reducible apply Ts.q_isi_int_bool
  | with_reducible apply Ts.q_isi_str_str
  | ((with_reducible apply Ts.q_isi_tup_tup); (focus walk_at "ts hp"))
  | ((with_reducible apply Ts.q_isi_lst_lst); (focus walk_at "ts hp"))
  | walk_at "ts call"
  | walk_at "ts newo"
  | ((with_reducible apply Ts.q_ixL); (focus walk_at "ts sq"); (focus walk_at "ts at"))
  | ((with_reducible apply Ts.q_ixT); (focus walk_at "ts sq"); (focus walk_at "ts at")))
local macro_rules | `(tactic| walk_at "ts") => `(tactic| repeat walk_at "ts 1")
local macro_rules | `(tactic| walk_at "ts newo") => `(tactic| ((with_reducible refine And.intro (Ts.size_of ?hs) ?_); (case hs => exact Nat.le_of_ble_eq_true rfl); intro p hp; (generalize hG : L2.upd _ p _ = H2); have sm := hG ▸ Ts.same_upd hp; have eo := hG ▸ L2.upd_same; clear hG))
local macro_rules | `(tactic| walk_at "ts at") => `(tactic| first | exact Ts.at0 rfl | exact Ts.at1 rfl | exact Ts.at2 rfl | exact Ts.at3 rfl | exact Ts.at4 rfl)
local macro_rules | `(tactic| walk_at "ts allin") => `(tactic| (unfold Ts.AllIn; refine ⟨by omega, by omega, ?_⟩; first | walk_at "ts allin" | (unfold Ts.AllIn; trivial)))
local macro_rules | `(tactic| walk_at "ts if") => `(tactic| first | with_reducible refine Ts.q_iteD (fun h => ?_) (fun h => ?_) | with_reducible refine Ts.q_iteN (fun h => ?_) (fun h => ?_))
local macro_rules | `(tactic| walk_at "ts kill") => `(tactic| try (exfalso; omega; done))
local macro_rules | `(tactic| walk_at "ts all") => `(tactic| repeat' (first | walk_at "ts 1" | (walk_at "ts if" <;> walk_at "ts kill")))



namespace Law
open PySem PySem.Spec PyProof.Rows L2 Ts
def topS (i : Nat) : Stmt := PySem.Challenge.pw_timestretch_k03_a_letter_brought.main.body.getD i (.Pass ⟨0, 0, 0, 0⟩)
abbrev s_need_off : Stmt := topS 14
abbrev s_slack : Stmt := topS 15
abbrev s_brought : Stmt := topS 16
abbrev s_l_whole : Stmt := topS 18
abbrev s_l_cell_at : Stmt := topS 19
abbrev s_l_mix : Stmt := topS 20
abbrev s_l_big : Stmt := topS 21
abbrev s_l_off : Stmt := topS 22
abbrev s_l_slack : Stmt := topS 23
abbrev s_l_brought : Stmt := topS 24
abbrev s_l_kind : Stmt := topS 25
abbrev s_l_stretch : Stmt := topS 26
abbrev s_l_told : Stmt := topS 27
abbrev s_law : Stmt := topS 28
abbrev N_need_off : List Str := ["off"]
theorem sc_need_off : FnScope N_need_off ["off"] (defScope s_need_off) := ⟨rfl, rfl, rfl, by decide +kernel, rfl, by decide +kernel, by decide +kernel⟩
abbrev N_slack : List Str := ["passed", "off"]
theorem sc_slack : FnScope N_slack ["passed", "off"] (defScope s_slack) := ⟨rfl, rfl, rfl, by decide +kernel, rfl, by decide +kernel, by decide +kernel⟩
abbrev N_brought : List Str := ["letter", "now", "off", "short", "long"]
theorem sc_brought : FnScope N_brought ["letter", "now", "off"] (defScope s_brought) := ⟨rfl, rfl, rfl, by decide +kernel, rfl, by decide +kernel, by decide +kernel⟩
abbrev N_l_whole : List Str := ["_law_found"]
theorem sc_l_whole : FnScope N_l_whole ["_law_found"] (defScope s_l_whole) := ⟨rfl, rfl, rfl, by decide +kernel, rfl, by decide +kernel, by decide +kernel⟩
abbrev N_l_cell_at : List Str := ["_law_script", "_law_k"]
theorem sc_l_cell_at : FnScope N_l_cell_at ["_law_script", "_law_k"] (defScope s_l_cell_at) := ⟨rfl, rfl, rfl, by decide +kernel, rfl, by decide +kernel, by decide +kernel⟩
abbrev N_l_mix : List Str := ["_law_cell", "_law_k", "_law_number"]
theorem sc_l_mix : FnScope N_l_mix ["_law_cell", "_law_k"] (defScope s_l_mix) := ⟨rfl, rfl, rfl, by decide +kernel, rfl, by decide +kernel, by decide +kernel⟩
abbrev N_l_big : List Str := ["_law_cell", "_law_k", "_law_number"]
theorem sc_l_big : FnScope N_l_big ["_law_cell", "_law_k"] (defScope s_l_big) := ⟨rfl, rfl, rfl, by decide +kernel, rfl, by decide +kernel, by decide +kernel⟩
abbrev N_l_off : List Str := ["_law_cell"]
theorem sc_l_off : FnScope N_l_off ["_law_cell"] (defScope s_l_off) := ⟨rfl, rfl, rfl, by decide +kernel, rfl, by decide +kernel, by decide +kernel⟩
abbrev N_l_slack : List Str := ["_law_passed", "_law_off_here", "_law_most"]
theorem sc_l_slack : FnScope N_l_slack ["_law_passed", "_law_off_here"] (defScope s_l_slack) := ⟨rfl, rfl, rfl, by decide +kernel, rfl, by decide +kernel, by decide +kernel⟩
abbrev N_l_brought : List Str := ["_law_letter", "_law_now", "_law_off_here", "_law_name", "_law_sent", "_law_back", "_law_low", "_law_high"]
theorem sc_l_brought : FnScope N_l_brought ["_law_letter", "_law_now", "_law_off_here"] (defScope s_l_brought) := ⟨rfl, rfl, rfl, by decide +kernel, rfl, by decide +kernel, by decide +kernel⟩
abbrev N_l_kind : List Str := ["_law_e", "_law_kinds", "_law_words"]
theorem sc_l_kind : FnScope N_l_kind ["_law_e"] (defScope s_l_kind) := ⟨rfl, rfl, rfl, by decide +kernel, rfl, by decide +kernel, by decide +kernel⟩
abbrev N_l_stretch : List Str := ["_law_found", "_law_low", "_law_high"]
theorem sc_l_stretch : FnScope N_l_stretch ["_law_found", "_law_low", "_law_high"] (defScope s_l_stretch) := ⟨rfl, rfl, rfl, by decide +kernel, rfl, by decide +kernel, by decide +kernel⟩
abbrev N_l_told : List Str := ["_law_letter", "_law_now", "_law_off_here", "_law_e"]
theorem sc_l_told : FnScope N_l_told ["_law_letter", "_law_now", "_law_off_here"] (defScope s_l_told) := ⟨rfl, rfl, rfl, by decide +kernel, rfl, by decide +kernel, by decide +kernel⟩
abbrev N_law : List Str := ["_law_script", "_law_first", "_law_sent", "_law_back", "_law_low", "_law_high", "_law_letter", "_law_off_here", "_law_now", "_law_way", "_law_found", "_law_due"]
theorem sc_law : FnScope N_law ["_law_script"] (defScope s_law) := ⟨rfl, rfl, rfl, by decide +kernel, rfl, by decide +kernel, by decide +kernel⟩
structure Lw (K : PySem.W.Frag) (mg : Str → Option Value) where
  f_need_off : Addr
  fd_need_off : FuncData
  d_need_off : Def K "need_off" "need_off" s_need_off ["off"] f_need_off fd_need_off
  m_need_off : mg "need_off" = some (.ref f_need_off)
  f_slack : Addr
  fd_slack : FuncData
  d_slack : Def K "slack" "slack" s_slack ["passed", "off"] f_slack fd_slack
  m_slack : mg "slack" = some (.ref f_slack)
  f_brought : Addr
  fd_brought : FuncData
  d_brought : Def K "brought" "brought" s_brought ["letter", "now", "off"] f_brought fd_brought
  m_brought : mg "brought" = some (.ref f_brought)
  f_l_whole : Addr
  fd_l_whole : FuncData
  d_l_whole : Def K "_law_whole" "_law_whole" s_l_whole ["_law_found"] f_l_whole fd_l_whole
  m_l_whole : mg "_law_whole" = some (.ref f_l_whole)
  f_l_cell_at : Addr
  fd_l_cell_at : FuncData
  d_l_cell_at : Def K "_law_cell_at" "_law_cell_at" s_l_cell_at ["_law_script", "_law_k"] f_l_cell_at fd_l_cell_at
  m_l_cell_at : mg "_law_cell_at" = some (.ref f_l_cell_at)
  f_l_mix : Addr
  fd_l_mix : FuncData
  d_l_mix : Def K "_law_mix" "_law_mix" s_l_mix ["_law_cell", "_law_k"] f_l_mix fd_l_mix
  m_l_mix : mg "_law_mix" = some (.ref f_l_mix)
  f_l_big : Addr
  fd_l_big : FuncData
  d_l_big : Def K "_law_big" "_law_big" s_l_big ["_law_cell", "_law_k"] f_l_big fd_l_big
  m_l_big : mg "_law_big" = some (.ref f_l_big)
  f_l_off : Addr
  fd_l_off : FuncData
  d_l_off : Def K "_law_off" "_law_off" s_l_off ["_law_cell"] f_l_off fd_l_off
  m_l_off : mg "_law_off" = some (.ref f_l_off)
  f_l_slack : Addr
  fd_l_slack : FuncData
  d_l_slack : Def K "_law_slack" "_law_slack" s_l_slack ["_law_passed", "_law_off_here"] f_l_slack fd_l_slack
  m_l_slack : mg "_law_slack" = some (.ref f_l_slack)
  f_l_brought : Addr
  fd_l_brought : FuncData
  d_l_brought : Def K "_law_brought" "_law_brought" s_l_brought ["_law_letter", "_law_now", "_law_off_here"] f_l_brought fd_l_brought
  m_l_brought : mg "_law_brought" = some (.ref f_l_brought)
  f_l_kind : Addr
  fd_l_kind : FuncData
  d_l_kind : Def K "_law_kind" "_law_kind" s_l_kind ["_law_e"] f_l_kind fd_l_kind
  m_l_kind : mg "_law_kind" = some (.ref f_l_kind)
  f_l_stretch : Addr
  fd_l_stretch : FuncData
  d_l_stretch : Def K "_law_stretch" "_law_stretch" s_l_stretch ["_law_found", "_law_low", "_law_high"] f_l_stretch fd_l_stretch
  m_l_stretch : mg "_law_stretch" = some (.ref f_l_stretch)
  f_l_told : Addr
  fd_l_told : FuncData
  d_l_told : Def K "_law_told" "_law_told" s_l_told ["_law_letter", "_law_now", "_law_off_here"] f_l_told fd_l_told
  m_l_told : mg "_law_told" = some (.ref f_l_told)
  f_law : Addr
  fd_law : FuncData
  d_law : Def K "law" "law" s_law ["_law_script"] f_law fd_law
  m_law : mg "law" = some (.ref f_law)
  c_MOST_OFF : ∃ t, mg "MOST_OFF" = some (.int 999 t)
  n_ValueError : mg "ValueError" = none
  n_sorted : mg "sorted" = none
  n_isinstance : mg "isinstance" = none
  n_int : mg "int" = none
  n_len : mg "len" = none
  n_bool : mg "bool" = none
  n_tuple : mg "tuple" = none
  C_StretchError : Addr
  m_StretchError : mg "StretchError" = some (.ref C_StretchError)
  C_BadName : Addr
  m_BadName : mg "BadName" = some (.ref C_BadName)
  C_BadLetter : Addr
  m_BadLetter : mg "BadLetter" = some (.ref C_BadLetter)
  C_BadOff : Addr
  m_BadOff : mg "BadOff" = some (.ref C_BadOff)
  C_TooEarly : Addr
  m_TooEarly : mg "TooEarly" = some (.ref C_TooEarly)
  C_BadCount : Addr
  m_BadCount : mg "BadCount" = some (.ref C_BadCount)
  C_NoAgreement : Addr
  m_NoAgreement : mg "NoAgreement" = some (.ref C_NoAgreement)
  C_TooWide : Addr
  m_TooWide : mg "TooWide" = some (.ref C_TooWide)
  C_TooMany : Addr
  m_TooMany : mg "TooMany" = some (.ref C_TooMany)
  C_NoClock : Addr
  m_NoClock : mg "NoClock" = some (.ref C_NoClock)
  C_NoText : Addr
  m_NoText : mg "NoText" = some (.ref C_NoText)
  x_BadOff : ExK K C_BadOff
  x_TooEarly : ExK K C_TooEarly
  t_BadOff : PySem.W.exmOne K (.ref C_BadOff) (.ref C_StretchError) = some true
  i_BadOff_BadName : PySem.W.kitOne K (.ref C_BadOff) (.ref C_BadName) = some false
  i_BadOff_BadLetter : PySem.W.kitOne K (.ref C_BadOff) (.ref C_BadLetter) = some false
  i_BadOff_BadOff : PySem.W.kitOne K (.ref C_BadOff) (.ref C_BadOff) = some true
  i_BadOff_TooEarly : PySem.W.kitOne K (.ref C_BadOff) (.ref C_TooEarly) = some false
  i_BadOff_BadCount : PySem.W.kitOne K (.ref C_BadOff) (.ref C_BadCount) = some false
  i_BadOff_NoAgreement : PySem.W.kitOne K (.ref C_BadOff) (.ref C_NoAgreement) = some false
  i_BadOff_TooWide : PySem.W.kitOne K (.ref C_BadOff) (.ref C_TooWide) = some false
  i_BadOff_TooMany : PySem.W.kitOne K (.ref C_BadOff) (.ref C_TooMany) = some false
  i_BadOff_NoClock : PySem.W.kitOne K (.ref C_BadOff) (.ref C_NoClock) = some false
  i_BadOff_NoText : PySem.W.kitOne K (.ref C_BadOff) (.ref C_NoText) = some false
  i_BadOff_ValueError : PySem.W.kitOne K (.ref C_BadOff) (.type "ValueError") = some true
  t_TooEarly : PySem.W.exmOne K (.ref C_TooEarly) (.ref C_StretchError) = some true
  i_TooEarly_BadName : PySem.W.kitOne K (.ref C_TooEarly) (.ref C_BadName) = some false
  i_TooEarly_BadLetter : PySem.W.kitOne K (.ref C_TooEarly) (.ref C_BadLetter) = some false
  i_TooEarly_BadOff : PySem.W.kitOne K (.ref C_TooEarly) (.ref C_BadOff) = some false
  i_TooEarly_TooEarly : PySem.W.kitOne K (.ref C_TooEarly) (.ref C_TooEarly) = some true
  i_TooEarly_BadCount : PySem.W.kitOne K (.ref C_TooEarly) (.ref C_BadCount) = some false
  i_TooEarly_NoAgreement : PySem.W.kitOne K (.ref C_TooEarly) (.ref C_NoAgreement) = some false
  i_TooEarly_TooWide : PySem.W.kitOne K (.ref C_TooEarly) (.ref C_TooWide) = some false
  i_TooEarly_TooMany : PySem.W.kitOne K (.ref C_TooEarly) (.ref C_TooMany) = some false
  i_TooEarly_NoClock : PySem.W.kitOne K (.ref C_TooEarly) (.ref C_NoClock) = some false
  i_TooEarly_NoText : PySem.W.kitOne K (.ref C_TooEarly) (.ref C_NoText) = some false
  i_TooEarly_ValueError : PySem.W.kitOne K (.ref C_TooEarly) (.type "ValueError") = some true

end Law


namespace Law
open PySem PySem.Spec PyProof.Rows L2 Ts
variable {P : Program} {w : World} {K : PySem.W.Frag} {mg : Str → Option Value} {base : Heap}

/-! ### a cell of the script -/
def cellAt (ns : List Int) (k : Int) : Int := if k < ns.length then ns.getD k.toNat 0 else 0
def sp_l_cell_at (K : PySem.W.Frag) : Sp := fun vs H Q _ => ∃ (a : Addr) (ns : List Int) (k : Int), vs = [.ref a, .int k] ∧ SqL K H a (ns.map V.int) ∧ 0 ≤ k ∧ Q (.int (cellAt ns k)) H
theorem c_l_cell_at {a : Addr} {ns : List Int} {k : Int} {H : Hp} {Q : VK} {E : XK} (h : SqL K H a (ns.map V.int)) (h0 : 0 ≤ k) (q : ∀ z, z = cellAt ns k → Q (.int z) H) : sp_l_cell_at K ([.ref a, .int k] ++ []) H Q E := ⟨a, ns, k, rfl, h, h0, q _ rfl⟩
theorem ok_l_cell_at (T : Lw K mg) : FnOk P w K mg base CX0 1 T.f_l_cell_at T.fd_l_cell_at ["_law_script", "_law_k"] (sp_l_cell_at K) := by
  refine T.d_l_cell_at.F.ok sc_l_cell_at (fun vs H Q E h => ?_) (fun cdv A outer s H vs Q E hr h => ?_)
  · obtain ⟨a, ns, k, rfl, _⟩ := h
    rfl
  · obtain ⟨a, ns, k, rfl, hs, h0, q⟩ := h
    refine ⟨_, (pss_cons (ps_if (pt_cmpR op_lt (pv 1) (pe_callB call_len' (by rfl) T.n_len (by decide +kernel) (pa_cons (pv 0) pa_nil)) (nomark _)) (pss_one (ps_ret (pe_ix ix_list (pv 0) (pv 1) (fun _ _ => rfl)))) pss_nil) (pss_one (ps_ret pe_int))), ?_⟩
    walk_at "ts"
    refine Ts.q_iteD (fun hk => ?_) (fun hk => ?_)
    · rw [List.length_map] at hk
      walk_at "ts"
      obtain ⟨j, rfl⟩ : ∃ j : Nat, k = (j : Int) := ⟨k.toNat, by omega⟩
      have hj : j < ns.length := by omega
      refine Ts.q_ixL hs (v := .int ns[j]) (atI_nat (by rw [List.getElem?_map, List.getElem?_eq_getElem hj]; rfl)) ?_
      have e : cellAt ns (j : Int) = ns[j] := by
        unfold cellAt
        rw [if_pos hk]
        simp [hj]
      rw [e] at q
      exact q
    · rw [List.length_map] at hk
      walk_at "ts"
      have e : cellAt ns k = 0 := by
        unfold cellAt
        rw [if_neg hk]
      rw [e] at q
      exact q
local macro_rules | `(tactic| walk_at "ts call") => `(tactic| ((with_reducible apply c_l_cell_at); (focus walk_at "ts sq"); (focus omega); intro z ez))

/-! ### a drawn number -/
def mixv (c k : Int) : Int := (c + 7919 * k + 1) * 48271 % 1000003 * ((c + 7919 * k + 1) * 48271 % 1000003) % 999983
def sp_l_mix : Sp := fun vs H Q _ => ∃ (c k : Int), vs = [.int c, .int k] ∧ Q (.int (mixv c k)) H
theorem c_l_mix {c k : Int} {H : Hp} {Q : VK} {E : XK} (q : ∀ z, z = mixv c k → 0 ≤ z → z < 999983 → Q (.int z) H) : sp_l_mix ([.int c, .int k] ++ []) H Q E :=
  ⟨c, k, rfl, q _ rfl (Int.emod_nonneg _ (by decide)) (Int.emod_lt_of_pos _ (by decide))⟩
theorem ok_l_mix (T : Lw K mg) : FnOk P w K mg base CX0 1 T.f_l_mix T.fd_l_mix ["_law_cell", "_law_k"] sp_l_mix := by
  refine T.d_l_mix.F.ok sc_l_mix (fun vs H Q E h => ?_) (fun cdv A outer s H vs Q E hr h => ?_)
  · obtain ⟨c, k, rfl, _⟩ := h
    rfl
  · obtain ⟨c, k, rfl, q⟩ := h
    refine ⟨_, (pss_cons (ps_asg (pe_op op_mod (pe_op op_mul (pe_op op_add (pe_op op_add (pv 0) (pe_op op_mul pe_int (pv 1))) pe_int) pe_int) pe_int) (pg_name (i := 2) sc_l_mix.nd rfl (by first | exact Or.inl rfl | exact Or.inr rfl))) (pss_one (ps_ret (pe_op op_mod (pe_op op_mul (pv 2) (pv 2)) pe_int)))), ?_⟩
    walk_at "ts"
    exact q
local macro_rules | `(tactic| walk_at "ts call") => `(tactic| ((with_reducible apply c_l_mix); intro z ez z0 z1))

/-! ### a drawn number to 10 ** 12 -/
def sp_l_big : Sp := fun vs H Q _ => ∃ (c k : Int), vs = [.int c, .int k] ∧ ∀ (z : Int) (H' : Hp), 0 ≤ z → z ≤ 1000000000000 → Same H H' → Q (.int z) H'
theorem c_l_big {c k : Int} {H : Hp} {Q : VK} {E : XK} (q : ∀ (z : Int) (H' : Hp), 0 ≤ z → z ≤ 1000000000000 → Same H H' → Q (.int z) H') : sp_l_big ([.int c, .int k] ++ []) H Q E := ⟨c, k, rfl, q⟩
theorem ok_l_big (T : Lw K mg) : FnOk P w K mg base CX0 2 T.f_l_big T.fd_l_big ["_law_cell", "_law_k"] sp_l_big := by
  refine T.d_l_big.F.ok sc_l_big (fun vs H Q E h => ?_) (fun cdv A outer s H vs Q E hr h => ?_)
  · obtain ⟨c, k, rfl, _⟩ := h
    rfl
  · obtain ⟨c, k, rfl, q⟩ := h
    refine ⟨_, (pss_cons (ps_asg (pe_call ((ok_l_mix T).mono (by decide)) hr rfl T.m_l_mix T.d_l_mix.F.kp T.d_l_mix.b .nil pass0 (pa_cons (pv 0) (pa_cons (pv 1) pa_nil))) (pg_name (i := 2) sc_l_big.nd rfl (by first | exact Or.inl rfl | exact Or.inr rfl))) (pss_cons (ps_if (pt_cmpR op_eq (pe_op op_mod (pe_call ((ok_l_mix T).mono (by decide)) hr rfl T.m_l_mix T.d_l_mix.F.kp T.d_l_mix.b .nil pass0 (pa_cons (pv 0) (pa_cons (pe_op op_add (pv 1) pe_int) pa_nil))) pe_int) pe_int (nomark _)) (pss_one (ps_ret (pe_op op_mod (pv 2) pe_int))) pss_nil) (pss_cons (ps_if (pt_cmpR op_eq (pe_op op_mod (pe_call ((ok_l_mix T).mono (by decide)) hr rfl T.m_l_mix T.d_l_mix.F.kp T.d_l_mix.b .nil pass0 (pa_cons (pv 0) (pa_cons (pe_op op_add (pv 1) pe_int) pa_nil))) pe_int) pe_int (nomark _)) (pss_one (ps_ret (pe_op op_mod (pv 2) pe_int))) pss_nil) (pss_cons (ps_if (pt_cmpR op_eq (pe_op op_mod (pe_call ((ok_l_mix T).mono (by decide)) hr rfl T.m_l_mix T.d_l_mix.F.kp T.d_l_mix.b .nil pass0 (pa_cons (pv 0) (pa_cons (pe_op op_add (pv 1) pe_int) pa_nil))) pe_int) pe_int (nomark _)) (pss_one (ps_ret (pe_ix ix_list (pe_lst (pa_cons pe_int (pa_cons pe_int (pa_cons (pe_op op_pow pe_int pe_int) (pa_cons (pe_op op_sub (pe_op op_pow pe_int pe_int) pe_int) pa_nil))))) (pe_op op_mod (pv 2) pe_int) (fun _ _ => rfl)))) pss_nil) (pss_one (ps_ret (pe_op op_mod (pe_op op_add (pe_op op_mul (pv 2) pe_int) (pe_call ((ok_l_mix T).mono (by decide)) hr rfl T.m_l_mix T.d_l_mix.F.kp T.d_l_mix.b .nil pass0 (pa_cons (pv 0) (pa_cons (pe_op op_add (pv 1) pe_int) pa_nil)))) (pe_op op_add (pe_op op_pow pe_int pe_int) pe_int)))))))), ?_⟩
    walk_at "ts"
    refine Ts.q_iteD (fun h1 => ?_) (fun h1 => ?_)
    · walk_at "ts"
      exact q _ _ (by omega) (by omega) (by walk_at "ts same")
    walk_at "ts"
    refine Ts.q_iteD (fun h1 => ?_) (fun h1 => ?_)
    · walk_at "ts"
      exact q _ _ (by omega) (by omega) (by walk_at "ts same")
    walk_at "ts"
    refine Ts.q_iteD (fun h1 => ?_) (fun h1 => ?_)
    · walk_at "ts"
      refine Ts.q_ixAny (by walk_at "ts sq") (by omega) (by simp; omega) fun v hv => ?_
      simp at hv
      rcases hv with rfl | rfl | rfl | rfl
      all_goals exact q _ _ (by omega) (by omega) (by walk_at "ts same")
    · walk_at "ts"
      exact q _ _ (by omega) (by omega) (by walk_at "ts same")
local macro_rules | `(tactic| walk_at "ts call") => `(tactic| ((with_reducible apply c_l_big); intro z H2 z0 z1 sz))

/-! ### drawn thousandths -/
def sp_l_off : Sp := fun vs H Q _ => ∃ (c : Int), vs = [.int c] ∧ ∀ (z : Int) (H' : Hp), 0 ≤ z → z ≤ 999 → Same H H' → Q (.int z) H'
theorem c_l_off {c : Int} {H : Hp} {Q : VK} {E : XK} (q : ∀ (z : Int) (H' : Hp), 0 ≤ z → z ≤ 999 → Same H H' → Q (.int z) H') : sp_l_off ([.int c] ++ []) H Q E := ⟨c, rfl, q⟩
theorem ok_l_off (T : Lw K mg) : FnOk P w K mg base CX0 2 T.f_l_off T.fd_l_off ["_law_cell"] sp_l_off := by
  refine T.d_l_off.F.ok sc_l_off (fun vs H Q E h => ?_) (fun cdv A outer s H vs Q E hr h => ?_)
  · obtain ⟨c, rfl, _⟩ := h
    rfl
  · obtain ⟨c, rfl, q⟩ := h
    refine ⟨_, (pss_one (ps_ret (pe_ix ix_list (pe_lst (pa_cons pe_int (pa_cons pe_int (pa_cons pe_int (pa_cons pe_int (pa_cons (pe_op op_mod (pe_call ((ok_l_mix T).mono (by decide)) hr rfl T.m_l_mix T.d_l_mix.F.kp T.d_l_mix.b .nil pass0 (pa_cons (pv 0) (pa_cons pe_int pa_nil))) pe_int) (pa_cons (pe_op op_mod (pe_call ((ok_l_mix T).mono (by decide)) hr rfl T.m_l_mix T.d_l_mix.F.kp T.d_l_mix.b .nil pass0 (pa_cons (pv 0) (pa_cons pe_int pa_nil))) pe_int) pa_nil))))))) (pe_op op_mod (pv 0) pe_int) (fun _ _ => rfl)))), ?_⟩
    walk_at "ts"
    refine Ts.q_ixAny (by walk_at "ts sq") (by omega) (by simp; omega) fun v hv => ?_
    simp at hv
    rcases hv with rfl | rfl | rfl | rfl | rfl
    all_goals exact q _ _ (by omega) (by omega) (by walk_at "ts same")
local macro_rules | `(tactic| walk_at "ts call") => `(tactic| ((with_reducible apply c_l_off); intro z H2 z0 z1 sz))

/-! ### the law's own slack -/
def slackv (p f : Int) : Int := (p * f + 999) / 1000
theorem slack_eq (p f : Int) : slackv p f = if p * f / 1000 * 1000 < p * f then p * f / 1000 + 1 else p * f / 1000 := by
  unfold slackv
  split <;> omega
def sp_l_slack : Sp := fun vs H Q _ => ∃ (p f : Int), vs = [.int p, .int f] ∧ 0 ≤ f ∧ f ≤ 999 ∧ Q (.int (slackv p f)) H
theorem c_l_slack {p f : Int} {H : Hp} {Q : VK} {E : XK} (h0 : 0 ≤ f) (h1 : f ≤ 999) (q : Q (.int (slackv p f)) H) : sp_l_slack ([.int p, .int f] ++ []) H Q E := ⟨p, f, rfl, h0, h1, q⟩
theorem ok_l_slack (T : Lw K mg) : FnOk P w K mg base CX0 1 T.f_l_slack T.fd_l_slack ["_law_passed", "_law_off_here"] sp_l_slack := by
  refine T.d_l_slack.F.ok sc_l_slack (fun vs H Q E h => ?_) (fun cdv A outer s H vs Q E hr h => ?_)
  · obtain ⟨p, f, rfl, _⟩ := h
    rfl
  · obtain ⟨p, f, rfl, h0, h1, q⟩ := h
    refine ⟨_, (pss_cons (ps_asg (pe_op op_fdiv (pe_op op_mul (pv 0) (pv 1)) pe_int) (pg_name (i := 2) sc_l_slack.nd rfl (by first | exact Or.inl rfl | exact Or.inr rfl))) (pss_cons (ps_if (pt_cmpR op_lt (pe_op op_mul (pv 2) pe_int) (pe_op op_mul (pv 0) (pv 1)) (nomark _)) (pss_one (ps_asg (pe_op op_add (pv 2) pe_int) (pg_name (i := 2) sc_l_slack.nd rfl (by first | exact Or.inl rfl | exact Or.inr rfl)))) pss_nil) (pss_one (ps_ret (pv 2))))), ?_⟩
    walk_at "ts"
    rw [slack_eq] at q
    refine Ts.q_iteD (fun hk => ?_) (fun hk => ?_)
    · rw [if_pos hk] at q
      walk_at "ts"
      exact q
    · rw [if_neg hk] at q
      walk_at "ts"
      exact q
local macro_rules | `(tactic| walk_at "ts call") => `(tactic| ((with_reducible apply c_l_slack); (focus omega); (focus omega)))

/-! ### whether a value is a whole number -/
def sp_l_whole : Sp := fun vs H Q _ => ∃ (z : Int), vs = [.int z] ∧ Q (.bl true) H
theorem c_l_whole {z : Int} {H : Hp} {Q : VK} {E : XK} (q : Q (.bl true) H) : sp_l_whole ([.int z] ++ []) H Q E := ⟨z, rfl, q⟩
theorem ok_l_whole (T : Lw K mg) : FnOk P w K mg base CX0 1 T.f_l_whole T.fd_l_whole ["_law_found"] sp_l_whole := by
  refine T.d_l_whole.F.ok sc_l_whole (fun vs H Q E h => ?_) (fun cdv A outer s H vs Q E hr h => ?_)
  · obtain ⟨z, rfl, _⟩ := h
    rfl
  · obtain ⟨z, rfl, q⟩ := h
    refine ⟨_, (pss_one (ps_ret (pe_and (pe_callB call_isi (by rfl) T.n_isinstance (by decide +kernel) (pa_cons (pv 0) (pa_cons (pe_bltn (v := .ty "int") (by rfl) T.n_int (by decide +kernel) rfl) pa_nil))) (pe_one (pe_not (pe_callB call_isi (by rfl) T.n_isinstance (by decide +kernel) (pa_cons (pv 0) (pa_cons (pe_bltn (v := .ty "bool") (by rfl) T.n_bool (by decide +kernel) rfl) pa_nil)))))))), ?_⟩
    walk_at "ts"
    exact q
local macro_rules | `(tactic| walk_at "ts call") => `(tactic| with_reducible apply c_l_whole)

/-! ### need_off: raises BadOff -/
def sp_need_off (CO : Addr) : Sp := fun vs H Q E => ∃ f : Int, vs = [.int f] ∧ (0 ≤ f → f ≤ 999 → Q .non H) ∧ (¬ (0 ≤ f ∧ f ≤ 999) → E (.ref CO) none H)
theorem ok_need_off (T : Lw K mg) : FnOk P w K mg base (L2.CX P w) 1 T.f_need_off T.fd_need_off ["off"] (sp_need_off T.C_BadOff) := by
  refine T.d_need_off.F.okX sc_need_off (fun vs H Q E h => ?_) (fun cdv A outer s H vs Q E hr h => ?_)
  · obtain ⟨f, rfl, _⟩ := h
    rfl
  · obtain ⟨f, rfl, q, e⟩ := h
    refine ⟨_, (pss_one (ps_if (PW.pt (pw_or (pt_cmpR op_lt (pv 0) pe_int (nomark _)) (pw_or1 (pt_cmpR op_gt (pv 0) (pe_glob (v := .int 999) rfl T.c_MOST_OFF.choose_spec ⟨_, rfl⟩) (nomark _))))) (pss_one (ps_raise rfl (takes_of rfl rfl rfl rfl) (T.x_BadOff.mk' T.m_BadOff rfl))) pss_nil)), ?_⟩
    walk_at "ts"
    refine Ts.q_iteD (fun h1 => ?_) (fun h1 => ?_)
    · walk_at "ts"
      exact e (by omega)
    walk_at "ts"
    refine Ts.q_iteD (fun h2 => ?_) (fun h2 => ?_)
    · walk_at "ts"
      exact e (by omega)
    · walk_at "ts"
      exact q (by omega) (by omega)

/-! ### slack -/
def sp_slack : Sp := fun vs H Q _ => ∃ (p f : Int), vs = [.int p, .int f] ∧ 0 ≤ f ∧ f ≤ 999 ∧ Q (.int (slackv p f)) H
theorem c_slack {p f : Int} {H : Hp} {Q : VK} {E : XK} (h0 : 0 ≤ f) (h1 : f ≤ 999) (q : Q (.int (slackv p f)) H) : sp_slack ([.int p, .int f] ++ []) H Q E := ⟨p, f, rfl, h0, h1, q⟩
theorem ok_slack (T : Lw K mg) : FnOk P w K mg base CX0 1 T.f_slack T.fd_slack ["passed", "off"] sp_slack := by
  refine T.d_slack.F.ok sc_slack (fun vs H Q E h => ?_) (fun cdv A outer s H vs Q E hr h => ?_)
  · obtain ⟨p, f, rfl, _⟩ := h
    rfl
  · obtain ⟨p, f, rfl, h0, h1, q⟩ := h
    refine ⟨_, (pss_one (ps_ret (pe_op op_fdiv (pe_op op_add (pe_op op_mul (pv 0) (pv 1)) pe_int) pe_int))), ?_⟩
    walk_at "ts"
    exact q
local macro_rules | `(tactic| walk_at "ts call") => `(tactic| ((with_reducible apply c_slack); (focus omega); (focus omega)))

end Law


namespace Law
open PySem PySem.Spec PyProof.Rows L2 Ts
variable {P : Program} {w : World} {K : PySem.W.Frag} {mg : Str → Option Value} {base : Heap}
local macro_rules | `(tactic| walk_at "ts call") => `(tactic| ((with_reducible apply c_l_cell_at); (focus walk_at "ts sq"); (focus omega); intro z ez))
local macro_rules | `(tactic| walk_at "ts call") => `(tactic| ((with_reducible apply c_l_mix); intro z ez z0 z1))
local macro_rules | `(tactic| walk_at "ts call") => `(tactic| ((with_reducible apply c_l_big); intro z H2 z0 z1 sz))
local macro_rules | `(tactic| walk_at "ts call") => `(tactic| ((with_reducible apply c_l_off); intro z H2 z0 z1 sz))
local macro_rules | `(tactic| walk_at "ts call") => `(tactic| ((with_reducible apply c_l_slack); (focus omega); (focus omega)))
local macro_rules | `(tactic| walk_at "ts call") => `(tactic| with_reducible apply c_l_whole)
local macro_rules | `(tactic| walk_at "ts call") => `(tactic| ((with_reducible apply c_slack); (focus omega); (focus omega)))

/-! ### brought -/
def bLow (L : Ltr) (now f : Int) : Int := L.low + (now - L.back) - slackv (now - L.back) f
def bHigh (L : Ltr) (now f : Int) : Int := L.high + (now - L.sent) + slackv (now - L.sent) f
def sp_brought (CO CE : Addr) : Sp := fun vs H Q E => ∃ (a : Addr) (L : Ltr) (n f : Int), vs = [.ref a, .int n, .int f] ∧ LtAt H a L ∧
  (0 ≤ f → f ≤ 999 → L.back ≤ n → ∀ b H', Same H H' → Pr H' b (bLow L n f) (bHigh L n f) → Q (.ref b) H') ∧ (¬ (0 ≤ f ∧ f ≤ 999) → E (.ref CO) none H) ∧ (0 ≤ f → f ≤ 999 → n < L.back → E (.ref CE) none H)
theorem ok_brought (T : Lw K mg) : FnOk P w K mg base (L2.CX P w) 2 T.f_brought T.fd_brought ["letter", "now", "off"] (sp_brought T.C_BadOff T.C_TooEarly) := by
  refine T.d_brought.F.okX sc_brought (fun vs H Q E h => ?_) (fun cdv A outer s H vs Q E hr h => ?_)
  · obtain ⟨a, L, n, f, rfl, _⟩ := h
    rfl
  · obtain ⟨a, L, n, f, rfl, ha, q, e1, e2⟩ := h
    have ha' : H a = some (.tup [.str L.name, .int L.sent, .int L.back, .int L.low, .int L.high]) := ha
    refine ⟨_, (pss_cons (ps_expr (pe_call ((ok_need_off T).mono (by decide)) hr rfl T.m_need_off T.d_need_off.F.kp T.d_need_off.b .nil (passes_call (takes_of rfl rfl rfl rfl) (fun _ _ _ _ h => h)) (pa_cons (pv 2) pa_nil))) (pss_cons (ps_if (pt_cmpR op_lt (pv 1) (pe_ix ix_tup (pv 0) pe_int (fun _ _ => rfl)) (nomark _)) (pss_one (ps_raise rfl (takes_of rfl rfl rfl rfl) (T.x_TooEarly.mk' T.m_TooEarly rfl))) pss_nil) (pss_cons (ps_asg (pe_op op_sub (pv 1) (pe_ix ix_tup (pv 0) pe_int (fun _ _ => rfl))) (pg_name (i := 3) sc_brought.nd rfl (by first | exact Or.inl rfl | exact Or.inr rfl))) (pss_cons (ps_asg (pe_op op_sub (pv 1) (pe_ix ix_tup (pv 0) pe_int (fun _ _ => rfl))) (pg_name (i := 4) sc_brought.nd rfl (by first | exact Or.inl rfl | exact Or.inr rfl))) (pss_one (ps_ret (pe_tup (pa_cons (pe_op op_sub (pe_op op_add (pe_ix ix_tup (pv 0) pe_int (fun _ _ => rfl)) (pv 3)) (pe_call ((ok_slack T).mono (by decide)) hr rfl T.m_slack T.d_slack.F.kp T.d_slack.b .nil pass0 (pa_cons (pv 3) (pa_cons (pv 2) pa_nil)))) (pa_cons (pe_op op_add (pe_op op_add (pe_ix ix_tup (pv 0) pe_int (fun _ _ => rfl)) (pv 4)) (pe_call ((ok_slack T).mono (by decide)) hr rfl T.m_slack T.d_slack.F.kp T.d_slack.b .nil pass0 (pa_cons (pv 4) (pa_cons (pv 2) pa_nil)))) pa_nil))))))))), ?_⟩
    walk_at "ts"
    refine ⟨f, rfl, fun f0 f1 => ?_, e1⟩
    walk_at "ts"
    refine Ts.q_iteD (fun h1 => ?_) (fun h1 => ?_)
    · walk_at "ts"
      exact e2 f0 f1 h1
    walk_at "ts"
    exact q f0 f1 (by omega) _ _ (by walk_at "ts same") (by unfold Pr; assumption)

/-! ### the law's own brought -/
def sp_l_brought : Sp := fun vs H Q _ => ∃ (a : Addr) (L : Ltr) (n f : Int), vs = [.ref a, .int n, .int f] ∧ LtAt H a L ∧ 0 ≤ f ∧ f ≤ 999 ∧ ∀ b H', Same H H' → Pr H' b (bLow L n f) (bHigh L n f) → Q (.ref b) H'
theorem c_l_brought {a : Addr} {m : Str} {u v l h n f : Int} {H : Hp} {Q : VK} {E : XK} (ha : H a = some (.tup [.str m, .int u, .int v, .int l, .int h])) (h0 : 0 ≤ f) (h1 : f ≤ 999) (q : ∀ b H', Same H H' → Pr H' b (bLow ⟨m, u, v, l, h⟩ n f) (bHigh ⟨m, u, v, l, h⟩ n f) → Q (.ref b) H') : sp_l_brought ([.ref a, .int n, .int f] ++ []) H Q E :=
  ⟨a, ⟨m, u, v, l, h⟩, n, f, rfl, ha, h0, h1, q⟩
theorem ok_l_brought (T : Lw K mg) : FnOk P w K mg base CX0 2 T.f_l_brought T.fd_l_brought ["_law_letter","_law_now","_law_off_here"] sp_l_brought := by
  refine T.d_l_brought.F.ok sc_l_brought (fun vs H Q E h => ?_) (fun cdv A outer s H vs Q E hr h => ?_)
  · obtain ⟨a, L, n, f, rfl, _⟩ := h
    rfl
  · obtain ⟨a, L, n, f, rfl, ha, f0, f1, q⟩ := h
    have ha' : H a = some (.tup [.str L.name, .int L.sent, .int L.back, .int L.low, .int L.high]) := ha
    refine ⟨_, (pss_cons (ps_asg (pv 0) (pg_tup (n := 5) (by rfl) (pgs_cons (pg_name (i := 3) sc_l_brought.nd rfl (by first | exact Or.inl rfl | exact Or.inr rfl)) (pgs_cons (pg_name (i := 4) sc_l_brought.nd rfl (by first | exact Or.inl rfl | exact Or.inr rfl)) (pgs_cons (pg_name (i := 5) sc_l_brought.nd rfl (by first | exact Or.inl rfl | exact Or.inr rfl)) (pgs_cons (pg_name (i := 6) sc_l_brought.nd rfl (by first | exact Or.inl rfl | exact Or.inr rfl)) (pgs_cons (pg_name (i := 7) sc_l_brought.nd rfl (by first | exact Or.inl rfl | exact Or.inr rfl)) pgs_nil))))))) (pss_one (ps_ret (pe_tup (pa_cons (pe_op op_sub (pe_op op_sub (pe_op op_add (pv 6) (pv 1)) (pv 5)) (pe_call ((ok_l_slack T).mono (by decide)) hr rfl T.m_l_slack T.d_l_slack.F.kp T.d_l_slack.b .nil pass0 (pa_cons (pe_op op_sub (pv 1) (pv 5)) (pa_cons (pv 2) pa_nil)))) (pa_cons (pe_op op_add (pe_op op_sub (pe_op op_add (pv 7) (pv 1)) (pv 4)) (pe_call ((ok_l_slack T).mono (by decide)) hr rfl T.m_l_slack T.d_l_slack.F.kp T.d_l_slack.b .nil pass0 (pa_cons (pe_op op_sub (pv 1) (pv 4)) (pa_cons (pv 2) pa_nil)))) pa_nil)))))), ?_⟩
    walk_at "ts"
    exact q _ _ (by walk_at "ts same") (Pr.cong (by assumption) (by unfold bLow; omega) (by unfold bHigh; omega))
local macro_rules | `(tactic| walk_at "ts call") => `(tactic| ((with_reducible apply c_l_brought); (focus walk_at "ts hp"); (focus omega); (focus omega); intro b H2 s2 hb))

/-! ### which error it is: the law's word for the held error's class -/
def kindWords : List V := [.str "name", .str "letter", .str "off", .str "early", .str "count", .str "none", .str "wide", .str "many", .str "clock", .str "text"]
/-- the class at D is the j-th of the ten, and none else of them -/
structure KindE (T : Lw K mg) (D : Addr) (j : Nat) : Prop where
  x : ExK K D
  i0 : PySem.W.kitOne K (.ref D) (.ref T.C_BadName) = some (decide (j = 0))
  i1 : PySem.W.kitOne K (.ref D) (.ref T.C_BadLetter) = some (decide (j = 1))
  i2 : PySem.W.kitOne K (.ref D) (.ref T.C_BadOff) = some (decide (j = 2))
  i3 : PySem.W.kitOne K (.ref D) (.ref T.C_TooEarly) = some (decide (j = 3))
  i4 : PySem.W.kitOne K (.ref D) (.ref T.C_BadCount) = some (decide (j = 4))
  i5 : PySem.W.kitOne K (.ref D) (.ref T.C_NoAgreement) = some (decide (j = 5))
  i6 : PySem.W.kitOne K (.ref D) (.ref T.C_TooWide) = some (decide (j = 6))
  i7 : PySem.W.kitOne K (.ref D) (.ref T.C_TooMany) = some (decide (j = 7))
  i8 : PySem.W.kitOne K (.ref D) (.ref T.C_NoClock) = some (decide (j = 8))
  i9 : PySem.W.kitOne K (.ref D) (.ref T.C_NoText) = some (decide (j = 9))
  iV : PySem.W.kitOne K (.ref D) (.type "ValueError") = some true
def gKind (T : Lw K mg) : Value → Hp → VK → Prop := fun cls H Q => ∃ (D : Addr) (j : Nat) (z : Str), cls = .ref D ∧ KindE T D j ∧ kindWords[j]? = some (.str z) ∧ ∀ H', Same H H' → Q (.str z) H'
theorem q_isE {a D C : Addr} {H : Hp} {Q : VK} {b : Bool} (h : PySem.W.kitOne K (.ref D) (.ref C) = some b) (q : Q (.bl b) H) : rIsE K D a [.ref a, .ref C] H Q := ⟨.ref C, .ref C, b, rfl, fun _ r => r, h, q⟩
theorem q_isV {a D : Addr} {n : String} {H : Hp} {Q : VK} {b : Bool} (h : PySem.W.kitOne K (.ref D) (.type n) = some b) (q : Q (.bl b) H) : rIsE K D a [.ref a, .ty n] H Q := ⟨.ty n, .type n, b, rfl, fun _ r => r, h, q⟩
theorem kind_count (j : Nat) (hj : j < 10) : [V.bl (decide (j = 0)), .bl (decide (j = 1)), .bl (decide (j = 2)), .bl (decide (j = 3)), .bl (decide (j = 4)), .bl (decide (j = 5)), .bl (decide (j = 6)), .bl (decide (j = 7)), .bl (decide (j = 8)), .bl (decide (j = 9))].countP (fun z => eqV z (.bl true)) = 1 := by
  have : ∀ j : Fin 10, [V.bl (decide (j.val = 0)), .bl (decide (j.val = 1)), .bl (decide (j.val = 2)), .bl (decide (j.val = 3)), .bl (decide (j.val = 4)), .bl (decide (j.val = 5)), .bl (decide (j.val = 6)), .bl (decide (j.val = 7)), .bl (decide (j.val = 8)), .bl (decide (j.val = 9))].countP (fun z => eqV z (.bl true)) = 1 := by decide
  exact this ⟨j, hj⟩
theorem kind_at (j : Nat) (hj : j < 10) : ∃ z, [V.bl (decide (j = 0)), .bl (decide (j = 1)), .bl (decide (j = 2)), .bl (decide (j = 3)), .bl (decide (j = 4)), .bl (decide (j = 5)), .bl (decide (j = 6)), .bl (decide (j = 7)), .bl (decide (j = 8)), .bl (decide (j = 9))][j]? = some z ∧ eqV z (.bl true) = true := by
  have : ∀ j : Fin 10, ([V.bl (decide (j.val = 0)), .bl (decide (j.val = 1)), .bl (decide (j.val = 2)), .bl (decide (j.val = 3)), .bl (decide (j.val = 4)), .bl (decide (j.val = 5)), .bl (decide (j.val = 6)), .bl (decide (j.val = 7)), .bl (decide (j.val = 8)), .bl (decide (j.val = 9))][j.val]?) = some (.bl true) := by decide
  exact ⟨_, this ⟨j, hj⟩, rfl⟩
theorem kind_no (j m : Nat) (hj : j < 10) (hm : m < j) (z : V) (h : [V.bl (decide (j = 0)), .bl (decide (j = 1)), .bl (decide (j = 2)), .bl (decide (j = 3)), .bl (decide (j = 4)), .bl (decide (j = 5)), .bl (decide (j = 6)), .bl (decide (j = 7)), .bl (decide (j = 8)), .bl (decide (j = 9))][m]? = some z) : eqV z (.bl true) = false := by
  have : ∀ j m : Fin 10, m.val < j.val → ([V.bl (decide (j.val = 0)), .bl (decide (j.val = 1)), .bl (decide (j.val = 2)), .bl (decide (j.val = 3)), .bl (decide (j.val = 4)), .bl (decide (j.val = 5)), .bl (decide (j.val = 6)), .bl (decide (j.val = 7)), .bl (decide (j.val = 8)), .bl (decide (j.val = 9))][m.val]?) = some (.bl false) := by decide
  have e := (this ⟨j, hj⟩ ⟨m, by omega⟩ hm).symm.trans h
  cases e
  rfl
theorem ok_l_kind (T : Lw K mg) : FnE P w K mg base 1 T.f_l_kind T.fd_l_kind "_law_e" (gKind T) := by
  refine Ts.Fun.okE T.d_l_kind.F sc_l_kind (fun cdv A outer s H Q a oe cls hr hz hf h => ?_)
  obtain ⟨D, j, z, rfl, kd, hw, q⟩ := h
  have hj : j < 10 := by
    have := (List.getElem?_eq_some_iff.mp hw).1
    exact this
  refine ⟨_, (pss_cons (ps_asg (pe_lst (pa_cons (pe_callB (Ts.call_isP List.mem_cons_self kd.x.c hz hf) (by rfl) T.n_isinstance (by decide +kernel) (pa_cons (pv 0) (pa_cons (pe_glob (v := .ref T.C_BadName) rfl T.m_BadName rfl) pa_nil))) (pa_cons (pe_callB (Ts.call_isP List.mem_cons_self kd.x.c hz hf) (by rfl) T.n_isinstance (by decide +kernel) (pa_cons (pv 0) (pa_cons (pe_glob (v := .ref T.C_BadLetter) rfl T.m_BadLetter rfl) pa_nil))) (pa_cons (pe_callB (Ts.call_isP List.mem_cons_self kd.x.c hz hf) (by rfl) T.n_isinstance (by decide +kernel) (pa_cons (pv 0) (pa_cons (pe_glob (v := .ref T.C_BadOff) rfl T.m_BadOff rfl) pa_nil))) (pa_cons (pe_callB (Ts.call_isP List.mem_cons_self kd.x.c hz hf) (by rfl) T.n_isinstance (by decide +kernel) (pa_cons (pv 0) (pa_cons (pe_glob (v := .ref T.C_TooEarly) rfl T.m_TooEarly rfl) pa_nil))) pa_nil))))) (pg_name (i := 1) sc_l_kind.nd rfl (by first | exact Or.inl rfl | exact Or.inr rfl))) (pss_cons (ps_asg (pe_op op_cat (pv 1) (pe_lst (pa_cons (pe_callB (Ts.call_isP List.mem_cons_self kd.x.c hz hf) (by rfl) T.n_isinstance (by decide +kernel) (pa_cons (pv 0) (pa_cons (pe_glob (v := .ref T.C_BadCount) rfl T.m_BadCount rfl) pa_nil))) (pa_cons (pe_callB (Ts.call_isP List.mem_cons_self kd.x.c hz hf) (by rfl) T.n_isinstance (by decide +kernel) (pa_cons (pv 0) (pa_cons (pe_glob (v := .ref T.C_NoAgreement) rfl T.m_NoAgreement rfl) pa_nil))) (pa_cons (pe_callB (Ts.call_isP List.mem_cons_self kd.x.c hz hf) (by rfl) T.n_isinstance (by decide +kernel) (pa_cons (pv 0) (pa_cons (pe_glob (v := .ref T.C_TooWide) rfl T.m_TooWide rfl) pa_nil))) pa_nil))))) (pg_name (i := 1) sc_l_kind.nd rfl (by first | exact Or.inl rfl | exact Or.inr rfl))) (pss_cons (ps_asg (pe_op op_cat (pv 1) (pe_lst (pa_cons (pe_callB (Ts.call_isP List.mem_cons_self kd.x.c hz hf) (by rfl) T.n_isinstance (by decide +kernel) (pa_cons (pv 0) (pa_cons (pe_glob (v := .ref T.C_TooMany) rfl T.m_TooMany rfl) pa_nil))) (pa_cons (pe_callB (Ts.call_isP List.mem_cons_self kd.x.c hz hf) (by rfl) T.n_isinstance (by decide +kernel) (pa_cons (pv 0) (pa_cons (pe_glob (v := .ref T.C_NoClock) rfl T.m_NoClock rfl) pa_nil))) (pa_cons (pe_callB (Ts.call_isP List.mem_cons_self kd.x.c hz hf) (by rfl) T.n_isinstance (by decide +kernel) (pa_cons (pv 0) (pa_cons (pe_glob (v := .ref T.C_NoText) rfl T.m_NoText rfl) pa_nil))) pa_nil))))) (pg_name (i := 1) sc_l_kind.nd rfl (by first | exact Or.inl rfl | exact Or.inr rfl))) (pss_cons (ps_if (PW.pt (pw_or (pt_cmpR op_ne (pe_bm PySem.F.plainAttrs_list PySem.F.slot_list_count PySem.F.type_list_count mt_countB (pv 1) (pa_cons pe_bl pa_nil)) pe_int (nomark _)) (pw_or1 (pt_not (pt_val (pe_callB (Ts.call_isP List.mem_cons_self kd.x.c hz hf) (by rfl) T.n_isinstance (by decide +kernel) (pa_cons (pv 0) (pa_cons (pe_bltn (v := .ty "ValueError") (by rfl) T.n_ValueError (by decide +kernel) rfl) pa_nil)))))))) (pss_one (ps_ret pe_str)) pss_nil) (pss_cons (ps_asg (pe_lst (pa_cons pe_str (pa_cons pe_str (pa_cons pe_str (pa_cons pe_str (pa_cons pe_str (pa_cons pe_str (pa_cons pe_str (pa_cons pe_str (pa_cons pe_str (pa_cons pe_str pa_nil))))))))))) (pg_name (i := 2) sc_l_kind.nd rfl (by first | exact Or.inl rfl | exact Or.inr rfl))) (pss_one (ps_ret (pe_ix ix_list (pv 2) (pe_bm PySem.F.plainAttrs_list PySem.F.slot_list_index PySem.F.type_list_index mt_index (pv 1) (pa_cons pe_bl pa_nil)) (fun _ _ => rfl))))))))), ?_⟩
  walk_at "ts"
  refine q_isE kd.i0 ?_
  walk_at "ts"
  refine q_isE kd.i1 ?_
  walk_at "ts"
  refine q_isE kd.i2 ?_
  walk_at "ts"
  refine q_isE kd.i3 ?_
  walk_at "ts"
  refine q_isE kd.i4 ?_
  walk_at "ts"
  refine q_isE kd.i5 ?_
  walk_at "ts"
  refine q_isE kd.i6 ?_
  walk_at "ts"
  refine Ts.q_cat (by walk_at "ts hp") (by walk_at "ts hp") (Ts.size_of (by simp)) fun p H2 sp ep => ?_
  walk_at "ts"
  refine q_isE kd.i7 ?_
  walk_at "ts"
  refine q_isE kd.i8 ?_
  walk_at "ts"
  refine q_isE kd.i9 ?_
  walk_at "ts"
  refine Ts.q_cat (by walk_at "ts hp") (by walk_at "ts hp") (Ts.size_of (by simp)) fun p2 H4 sp2 ep2 => ?_
  simp only [List.cons_append, List.nil_append] at ep2
  walk_at "ts"
  refine ⟨.inl ⟨rfl, _, Ts.sqL_of ep2⟩, ?_⟩
  walk_at "ts"
  refine ⟨_, _, _, rfl, rfl, Ts.sqL_of ep2, rfl, rfl, ?_⟩
  rw [kind_count j hj]
  walk_at "ts"
  try refine Ts.iteN_no rfl ?_
  walk_at "ts"
  refine q_isV kd.iV ?_
  walk_at "ts"
  obtain ⟨z', hz1, hz2⟩ := kind_at j hj
  refine ⟨.inl ⟨rfl, _, Ts.sqL_of (by walk_at "ts hp")⟩, ?_⟩
  walk_at "ts"
  refine ⟨_, _, _, j, z', rfl, rfl, Ts.sqL_of (by walk_at "ts hp"), rfl, rfl, hz1, hz2, fun m z'' hm h' => kind_no j m hj hm z'' h', ?_⟩
  refine Ts.q_ixL (by walk_at "ts sq") (atI_nat hw) ?_
  exact q _ (by walk_at "ts same")

end Law


namespace Law
open PySem PySem.Spec PyProof.Rows L2 Ts
variable {P : Program} {w : World} {K : PySem.W.Frag} {mg : Str → Option Value} {base : Heap}
local macro_rules | `(tactic| walk_at "ts call") => `(tactic| ((with_reducible apply c_l_cell_at); (focus walk_at "ts sq"); (focus omega); intro z ez))
local macro_rules | `(tactic| walk_at "ts call") => `(tactic| ((with_reducible apply c_l_mix); intro z ez z0 z1))
local macro_rules | `(tactic| walk_at "ts call") => `(tactic| ((with_reducible apply c_l_big); intro z H2 z0 z1 sz))
local macro_rules | `(tactic| walk_at "ts call") => `(tactic| ((with_reducible apply c_l_off); intro z H2 z0 z1 sz))
local macro_rules | `(tactic| walk_at "ts call") => `(tactic| ((with_reducible apply c_l_slack); (focus omega); (focus omega)))
local macro_rules | `(tactic| walk_at "ts call") => `(tactic| with_reducible apply c_l_whole)
local macro_rules | `(tactic| walk_at "ts call") => `(tactic| ((with_reducible apply c_slack); (focus omega); (focus omega)))
local macro_rules | `(tactic| walk_at "ts call") => `(tactic| ((with_reducible apply c_l_brought); (focus walk_at "ts hp"); (focus omega); (focus omega); intro b H2 s2 hb))

theorem kd_BadOff (T : Lw K mg) : KindE T T.C_BadOff 2 := ⟨T.x_BadOff, T.i_BadOff_BadName, T.i_BadOff_BadLetter, T.i_BadOff_BadOff, T.i_BadOff_TooEarly, T.i_BadOff_BadCount, T.i_BadOff_NoAgreement, T.i_BadOff_TooWide, T.i_BadOff_TooMany, T.i_BadOff_NoClock, T.i_BadOff_NoText, T.i_BadOff_ValueError⟩

theorem kd_TooEarly (T : Lw K mg) : KindE T T.C_TooEarly 3 := ⟨T.x_TooEarly, T.i_TooEarly_BadName, T.i_TooEarly_BadLetter, T.i_TooEarly_BadOff, T.i_TooEarly_TooEarly, T.i_TooEarly_BadCount, T.i_TooEarly_NoAgreement, T.i_TooEarly_TooWide, T.i_TooEarly_TooMany, T.i_TooEarly_NoClock, T.i_TooEarly_NoText, T.i_TooEarly_ValueError⟩

/-! ### is what was found that pair -/
def sp_l_stretch : Sp := fun vs H Q _ => ∃ (a : Addr) (x y : Int), vs = [.ref a, .int x, .int y] ∧ Pr H a x y ∧ ∀ H', Same H H' → Q (.bl true) H'
theorem c_l_stretch {a : Addr} {x y : Int} {H : Hp} {Q : VK} {E : XK} (h : Pr H a x y) (q : ∀ H', Same H H' → Q (.bl true) H') : sp_l_stretch ([.ref a, .int x, .int y] ++ []) H Q E := ⟨a, x, y, rfl, h, q⟩
theorem ok_l_stretch (T : Lw K mg) : FnOk P w K mg base CX0 2 T.f_l_stretch T.fd_l_stretch ["_law_found", "_law_low", "_law_high"] sp_l_stretch := by
  refine T.d_l_stretch.F.ok sc_l_stretch (fun vs H Q E h => ?_) (fun cdv A outer s H vs Q E hr h => ?_)
  · obtain ⟨a, x, y, rfl, _⟩ := h
    rfl
  · obtain ⟨a, x, y, rfl, h, q⟩ := h
    have h' : H a = some (.tup [.int x, .int y]) := h
    refine ⟨_, (pss_cons (ps_if (PW.pt (pw_or (pt_not (pt_val (pe_callB call_isi (by rfl) T.n_isinstance (by decide +kernel) (pa_cons (pv 0) (pa_cons (pe_bltn (v := .ty "tuple") (by rfl) T.n_tuple (by decide +kernel) rfl) pa_nil))))) (pw_or1 (pt_cmpR op_ne (pe_callB call_len' (by rfl) T.n_len (by decide +kernel) (pa_cons (pv 0) pa_nil)) pe_int (nomark _))))) (pss_one (ps_ret pe_bl)) pss_nil) (pss_one (ps_ret (pe_and (pe_call ((ok_l_whole T).mono (by decide)) hr rfl T.m_l_whole T.d_l_whole.F.kp T.d_l_whole.b .nil pass0 (pa_cons (pe_ix ix_tup (pv 0) pe_int (fun _ _ => rfl)) pa_nil)) (pe_and (pe_call ((ok_l_whole T).mono (by decide)) hr rfl T.m_l_whole T.d_l_whole.F.kp T.d_l_whole.b .nil pass0 (pa_cons (pe_ix ix_tup (pv 0) pe_int (fun _ _ => rfl)) pa_nil)) (pe_one (pe_cmpR (op_eqD hr.units) (pv 0) (pe_tup (pa_cons (pv 1) (pa_cons (pv 2) pa_nil))) (nomark _)))))))), ?_⟩
    walk_at "ts"
    try refine Ts.iteN_no rfl ?_
    walk_at "ts"
    refine Ts.q_eqSame (Ts.dp_pair (by walk_at "ts hp")) (Ts.dp_pair (by walk_at "ts hp")) rfl ?_
    exact q _ (by walk_at "ts same")
local macro_rules | `(tactic| walk_at "ts call") => `(tactic| ((with_reducible apply c_l_stretch); (focus walk_at "ts hp"); intro H2 s2))

/-! ### what brought tells -/
def sp_l_told : Sp := fun vs H Q _ => ∃ (a : Addr) (L : Ltr) (n f : Int), vs = [.ref a, .int n, .int f] ∧ LtAt H a L ∧
  (0 ≤ f → f ≤ 999 → L.back ≤ n → ∀ b H', Same H H' → Pr H' b (bLow L n f) (bHigh L n f) → Q (.ref b) H') ∧ (¬ (0 ≤ f ∧ f ≤ 999) → ∀ H', Same H H' → Q (.str "off") H') ∧ (0 ≤ f → f ≤ 999 → n < L.back → ∀ H', Same H H' → Q (.str "early") H')
theorem ok_l_told (T : Lw K mg) : FnOk P w K mg base CX0 3 T.f_l_told T.fd_l_told ["_law_letter", "_law_now", "_law_off_here"] sp_l_told := by
  refine T.d_l_told.F.ok sc_l_told (fun vs H Q E h => ?_) (fun cdv A outer s H vs Q E hr h => ?_)
  · obtain ⟨a, L, n, f, rfl, _⟩ := h
    rfl
  · obtain ⟨a, L, n, f, rfl, ha, q, e1, e2⟩ := h
    refine ⟨_, (pss_one (ps_try_as (i := 3) rfl rfl sc_l_told.nd rfl rfl ⟨rfl, by decide, .inl T.m_StretchError⟩ takes0 (fun W pn xe tk _ => (pss_one (ps_ret (pe_callS ((ok_brought T).mono (by decide)) hr rfl T.m_brought T.d_brought.F.kp T.d_brought.b (fun z => passAt tk z) (pa_cons (pv 0) (pa_cons (pv 1) (pa_cons (pv 2) pa_nil))))))) (fun a oe cls d pn hz hf => (pss_one (ps_ret (pe_callE (ok_l_kind T) ⟨(hr.mono (j := 1) (by decide)).dp, (hr.mono (j := 1) (by decide)).un⟩ List.mem_cons_self hz hf rfl T.m_l_kind T.d_l_kind.F.kp T.d_l_kind.b (pv 3))))))), ?_⟩
    show tRet _ _ _ _
    walk_at "ts"
    refine ⟨a, L, n, f, rfl, ha, q, fun h1 => ?_, fun f0 f1 h1 => ?_⟩
    · refine ⟨true, T.t_BadOff, fun _ a2 na => ?_, fun z => nomatch z⟩
      refine ⟨rfl, rfl, T.C_BadOff, 2, "off", rfl, kd_BadOff T, rfl, fun H' s' => e1 h1 H' s'⟩
    · refine ⟨true, T.t_TooEarly, fun _ a2 na => ?_, fun z => nomatch z⟩
      refine ⟨rfl, rfl, T.C_TooEarly, 3, "early", rfl, kd_TooEarly T, rfl, fun H' s' => e2 f0 f1 h1 H' s'⟩
theorem c_l_told {a : Addr} {m : Str} {u v l h n f : Int} {H : Hp} {Q : VK} {E : XK} (ha : H a = some (.tup [.str m, .int u, .int v, .int l, .int h])) (q : 0 ≤ f → f ≤ 999 → v ≤ n → ∀ b H', Same H H' → Pr H' b (bLow ⟨m, u, v, l, h⟩ n f) (bHigh ⟨m, u, v, l, h⟩ n f) → Q (.ref b) H')
    (e1 : ¬ (0 ≤ f ∧ f ≤ 999) → ∀ H', Same H H' → Q (.str "off") H') (e2 : 0 ≤ f → f ≤ 999 → n < v → ∀ H', Same H H' → Q (.str "early") H') : sp_l_told ([.ref a, .int n, .int f] ++ []) H Q E := ⟨a, ⟨m, u, v, l, h⟩, n, f, rfl, ha, q, e1, e2⟩

end Law


namespace Law
open PySem PySem.Spec PyProof.Rows L2 Ts
variable {P : Program} {w : World} {K : PySem.W.Frag} {mg : Str → Option Value} {base : Heap}
local macro_rules | `(tactic| walk_at "ts call") => `(tactic| ((with_reducible apply c_l_cell_at); (focus walk_at "ts sq"); (focus omega); intro z ez))
local macro_rules | `(tactic| walk_at "ts call") => `(tactic| ((with_reducible apply c_l_mix); intro z ez z0 z1))
local macro_rules | `(tactic| walk_at "ts call") => `(tactic| ((with_reducible apply c_l_big); intro z H2 z0 z1 sz))
local macro_rules | `(tactic| walk_at "ts call") => `(tactic| ((with_reducible apply c_l_off); intro z H2 z0 z1 sz))
local macro_rules | `(tactic| walk_at "ts call") => `(tactic| ((with_reducible apply c_l_slack); (focus omega); (focus omega)))
local macro_rules | `(tactic| walk_at "ts call") => `(tactic| with_reducible apply c_l_whole)
local macro_rules | `(tactic| walk_at "ts call") => `(tactic| ((with_reducible apply c_slack); (focus omega); (focus omega)))
local macro_rules | `(tactic| walk_at "ts call") => `(tactic| ((with_reducible apply c_l_brought); (focus walk_at "ts hp"); (focus omega); (focus omega); intro b H2 s2 hb))
local macro_rules | `(tactic| walk_at "ts call") => `(tactic| ((with_reducible apply c_l_stretch); (focus walk_at "ts hp"); intro H2 s2))

/-! ### the law -/
def spLaw (K : PySem.W.Frag) : Sp := fun vs H Q _ => ∃ (a : Addr) (ns : List Int), vs = [.ref a] ∧ SqL K H a (ns.map V.int) ∧ ns.length ≤ 63 ∧ ∀ H', Q (.bl true) H'

theorem ok_law (T : Lw K mg) : FnOk P w K mg base CX0 4 T.f_law T.fd_law ["_law_script"] (spLaw K) := by
  refine T.d_law.F.ok sc_law (fun vs H Q E h => ?_) (fun cdv A outer s H vs Q E hr h => ?_)
  · obtain ⟨a, ns, rfl, _⟩ := h
    rfl
  · obtain ⟨a, ns, rfl, hs, hlen, q⟩ := h
    refine ⟨_, (pss_cons (ps_asg (pe_call ((ok_l_cell_at T).mono (by decide)) hr rfl T.m_l_cell_at T.d_l_cell_at.F.kp T.d_l_cell_at.b .nil pass0 (pa_cons (pv 0) (pa_cons pe_int pa_nil))) (pg_name (i := 1) sc_law.nd rfl (by first | exact Or.inl rfl | exact Or.inr rfl))) (pss_cons (ps_asg (pe_callB cr_sortedI (by rfl) T.n_sorted (by decide +kernel) (pa_cons (pe_lst (pa_cons (pe_call ((ok_l_big T).mono (by decide)) hr rfl T.m_l_big T.d_l_big.F.kp T.d_l_big.b .nil pass0 (pa_cons (pv 1) (pa_cons pe_int pa_nil))) (pa_cons (pe_call ((ok_l_big T).mono (by decide)) hr rfl T.m_l_big T.d_l_big.F.kp T.d_l_big.b .nil pass0 (pa_cons (pv 1) (pa_cons (pe_ix ix_list (pe_lst (pa_cons pe_int (pa_cons pe_int pa_nil))) (pe_callTy call_int1' (by rfl) T.n_int (by decide +kernel) (pa_cons (pe_cmpR op_eq (pe_op op_mod (pv 1) pe_int) pe_int (nomark _)) pa_nil)) (fun _ _ => rfl)) pa_nil))) pa_nil))) pa_nil)) (pg_lst (n := 2) rfl (pgs_cons (pg_name (i := 2) sc_law.nd rfl (by first | exact Or.inl rfl | exact Or.inr rfl)) (pgs_cons (pg_name (i := 3) sc_law.nd rfl (by first | exact Or.inl rfl | exact Or.inr rfl)) pgs_nil)))) (pss_cons (ps_asg (pe_callB cr_sortedI (by rfl) T.n_sorted (by decide +kernel) (pa_cons (pe_lst (pa_cons (pe_call ((ok_l_big T).mono (by decide)) hr rfl T.m_l_big T.d_l_big.F.kp T.d_l_big.b .nil pass0 (pa_cons (pe_call ((ok_l_cell_at T).mono (by decide)) hr rfl T.m_l_cell_at T.d_l_cell_at.F.kp T.d_l_cell_at.b .nil pass0 (pa_cons (pv 0) (pa_cons pe_int pa_nil))) (pa_cons pe_int pa_nil))) (pa_cons (pe_call ((ok_l_big T).mono (by decide)) hr rfl T.m_l_big T.d_l_big.F.kp T.d_l_big.b .nil pass0 (pa_cons (pe_call ((ok_l_cell_at T).mono (by decide)) hr rfl T.m_l_cell_at T.d_l_cell_at.F.kp T.d_l_cell_at.b .nil pass0 (pa_cons (pv 0) (pa_cons pe_int pa_nil))) (pa_cons pe_int pa_nil))) pa_nil))) pa_nil)) (pg_lst (n := 2) rfl (pgs_cons (pg_name (i := 4) sc_law.nd rfl (by first | exact Or.inl rfl | exact Or.inr rfl)) (pgs_cons (pg_name (i := 5) sc_law.nd rfl (by first | exact Or.inl rfl | exact Or.inr rfl)) pgs_nil)))) (pss_cons (ps_asg (pe_tup (pa_cons (pe_ix ix_list (pe_lst (pa_cons pe_str (pa_cons pe_str (pa_cons pe_str pa_nil)))) (pe_op op_mod (pv 1) pe_int) (fun _ _ => rfl)) (pa_cons (pv 2) (pa_cons (pv 3) (pa_cons (pv 4) (pa_cons (pv 5) pa_nil)))))) (pg_name (i := 6) sc_law.nd rfl (by first | exact Or.inl rfl | exact Or.inr rfl))) (pss_cons (ps_asg (pe_call ((ok_l_off T).mono (by decide)) hr rfl T.m_l_off T.d_l_off.F.kp T.d_l_off.b .nil pass0 (pa_cons (pe_call ((ok_l_cell_at T).mono (by decide)) hr rfl T.m_l_cell_at T.d_l_cell_at.F.kp T.d_l_cell_at.b .nil pass0 (pa_cons (pv 0) (pa_cons pe_int pa_nil))) pa_nil)) (pg_name (i := 7) sc_law.nd rfl (by first | exact Or.inl rfl | exact Or.inr rfl))) (pss_cons (ps_asg (pe_op op_add (pv 3) (pe_ix ix_list (pe_lst (pa_cons pe_int (pa_cons (pe_call ((ok_l_big T).mono (by decide)) hr rfl T.m_l_big T.d_l_big.F.kp T.d_l_big.b .nil pass0 (pa_cons (pe_call ((ok_l_cell_at T).mono (by decide)) hr rfl T.m_l_cell_at T.d_l_cell_at.F.kp T.d_l_cell_at.b .nil pass0 (pa_cons (pv 0) (pa_cons pe_int pa_nil))) (pa_cons pe_int pa_nil))) pa_nil))) (pe_op op_mod (pe_call ((ok_l_cell_at T).mono (by decide)) hr rfl T.m_l_cell_at T.d_l_cell_at.F.kp T.d_l_cell_at.b .nil pass0 (pa_cons (pv 0) (pa_cons pe_int pa_nil))) pe_int) (fun _ _ => rfl))) (pg_name (i := 8) sc_law.nd rfl (by first | exact Or.inl rfl | exact Or.inr rfl))) (pss_cons (ps_asg (pe_op op_mod (pe_call ((ok_l_cell_at T).mono (by decide)) hr rfl T.m_l_cell_at T.d_l_cell_at.F.kp T.d_l_cell_at.b .nil pass0 (pa_cons (pv 0) (pa_cons pe_int pa_nil))) pe_int) (pg_name (i := 9) sc_law.nd rfl (by first | exact Or.inl rfl | exact Or.inr rfl))) (pss_cons (ps_if (PW.pt (pw_or (pt_cmpR op_eq (pv 9) pe_int (nomark _)) (pw_or1 (pt_cmpR op_eq (pv 9) pe_int (nomark _))))) (pss_one (ps_asg (pe_op op_sub (pv 3) (pe_ix ix_list (pe_lst (pa_cons pe_int (pa_cons (pe_op op_add pe_int (pe_call ((ok_l_big T).mono (by decide)) hr rfl T.m_l_big T.d_l_big.F.kp T.d_l_big.b .nil pass0 (pa_cons (pv 1) (pa_cons pe_int pa_nil)))) pa_nil))) (pe_op op_mod (pe_call ((ok_l_cell_at T).mono (by decide)) hr rfl T.m_l_cell_at T.d_l_cell_at.F.kp T.d_l_cell_at.b .nil pass0 (pa_cons (pv 0) (pa_cons pe_int pa_nil))) pe_int) (fun _ _ => rfl))) (pg_name (i := 8) sc_law.nd rfl (by first | exact Or.inl rfl | exact Or.inr rfl)))) pss_nil) (pss_cons (ps_if (PW.pt (pw_or (pt_cmpR op_eq (pv 9) pe_int (nomark _)) (pw_or1 (pt_cmpR op_eq (pv 9) pe_int (nomark _))))) (pss_one (ps_asg (pe_ix ix_list (pe_lst (pa_cons (pe_un un_neg pe_int) (pa_cons pe_int (pa_cons (pe_op op_sub (pe_un un_neg pe_int) (pe_call ((ok_l_big T).mono (by decide)) hr rfl T.m_l_big T.d_l_big.F.kp T.d_l_big.b .nil pass0 (pa_cons (pv 1) (pa_cons pe_int pa_nil)))) (pa_cons (pe_op op_add pe_int (pe_call ((ok_l_big T).mono (by decide)) hr rfl T.m_l_big T.d_l_big.F.kp T.d_l_big.b .nil pass0 (pa_cons (pv 1) (pa_cons pe_int pa_nil)))) pa_nil))))) (pe_op op_mod (pe_call ((ok_l_cell_at T).mono (by decide)) hr rfl T.m_l_cell_at T.d_l_cell_at.F.kp T.d_l_cell_at.b .nil pass0 (pa_cons (pv 0) (pa_cons pe_int pa_nil))) pe_int) (fun _ _ => rfl)) (pg_name (i := 7) sc_law.nd rfl (by first | exact Or.inl rfl | exact Or.inr rfl)))) pss_nil) (pss_cons (ps_asg (pe_call ((ok_l_told T).mono (by decide)) hr rfl T.m_l_told T.d_l_told.F.kp T.d_l_told.b .nil pass0 (pa_cons (pv 6) (pa_cons (pv 8) (pa_cons (pv 7) pa_nil)))) (pg_name (i := 10) sc_law.nd rfl (by first | exact Or.inl rfl | exact Or.inr rfl))) (pss_cons (ps_if (PW.pt (pw_or (pt_cmpR op_eq (pv 9) pe_int (nomark _)) (pw_or1 (pt_cmpR op_eq (pv 9) pe_int (nomark _))))) (pss_one (ps_ret (pe_cmpR op_eq (pv 10) pe_str (nomark _)))) pss_nil) (pss_cons (ps_if (pt_cmpR op_eq (pv 9) pe_int (nomark _)) (pss_one (ps_ret (pe_cmpR op_eq (pv 10) pe_str (nomark _)))) pss_nil) (pss_cons (ps_asg (pe_call ((ok_l_brought T).mono (by decide)) hr rfl T.m_l_brought T.d_l_brought.F.kp T.d_l_brought.b .nil pass0 (pa_cons (pv 6) (pa_cons (pv 8) (pa_cons (pv 7) pa_nil)))) (pg_name (i := 11) sc_law.nd rfl (by first | exact Or.inl rfl | exact Or.inr rfl))) (pss_one (ps_ret (pe_call ((ok_l_stretch T).mono (by decide)) hr rfl T.m_l_stretch T.d_l_stretch.F.kp T.d_l_stretch.b .nil pass0 (pa_cons (pv 10) (pa_cons (pe_ix ix_tup (pv 11) pe_int (fun _ _ => rfl)) (pa_cons (pe_ix ix_tup (pv 11) pe_int (fun _ _ => rfl)) pa_nil))))))))))))))))))), ?_⟩
    walk_at "ts"
    refine Ts.q_ixB 0 1 (by walk_at "ts sq") (by omega) (by simp; omega) (by walk_at "ts allin") fun ix g0 g1 => ?_
    walk_at "ts"
    refine Ts.q_ixAny (by walk_at "ts sq") (by omega) (by simp; omega) fun vn hvn => ?_
    obtain ⟨nm, rfl⟩ : ∃ z, vn = V.str z := by
      simp at hvn
      rcases hvn with rfl | rfl | rfl <;> exact ⟨_, rfl⟩
    clear hvn
    walk_at "ts"
    refine Ts.q_ixB 0 1000000000000 (by walk_at "ts sq") (by omega) (by simp; omega) (by walk_at "ts allin") fun wd w0 w1 => ?_
    walk_at "ts all"
    all_goals try (refine Ts.q_ixB 1 1000000000001 (by walk_at "ts sq") (by omega) (by simp; omega) (by walk_at "ts allin") fun wn n0 n1 => ?_; walk_at "ts all")
    all_goals try (refine Ts.q_ixAny (by walk_at "ts sq") (by omega) (by simp; omega) fun v hv => ?_; obtain ⟨fo, rfl, ho⟩ : ∃ z, v = V.int z ∧ (z < 0 ∨ 999 < z) := (by simp at hv; rcases hv with rfl | rfl | rfl | rfl <;> exact ⟨_, rfl, by omega⟩); clear hv; walk_at "ts")
    all_goals refine c_l_told (by walk_at "ts hp") (fun f0 f1 p0 b H3 s3 hb => ?_) (fun ho H3 s3 => ?_) (fun f0 f1 pl H3 s3 => ?_)
    all_goals first
      | (exfalso; omega; done)
      | (walk_at "ts all"; exact q _)

end Law



namespace Law
open PySem PySem.Spec PyProof.Rows L2 Ts
theorem all_mk {l : PySem.W.OpenLaw} {w : World} {K : PySem.W.Frag} {h : Heap} {mg : Str → Option Value} {fa : Addr} (X : K.In h) (G : h.Ns mainGlobals mg) (hfa : mg "law" = some (.ref fa))
    {C_NoText : Addr}
    {C_NoClock : Addr}
    {C_TooMany : Addr}
    {C_TooWide : Addr}
    {C_NoAgreement : Addr}
    {C_BadCount : Addr}
    {C_TooEarly : Addr}
    {C_BadOff : Addr}
    {C_BadLetter : Addr}
    {C_BadName : Addr}
    {C_StretchError : Addr}
    {f1 : Addr} {od1 an1 : Option Addr} {sl1 : Array (Option Value)} {oc1 kV1 dc1 pm1 cd1 ct1 : Value}
    {f2 : Addr} {od2 an2 : Option Addr} {sl2 : Array (Option Value)} {oc2 kV2 dc2 pm2 cd2 ct2 : Value}
    {f3 : Addr} {od3 an3 : Option Addr} {sl3 : Array (Option Value)} {oc3 kV3 dc3 pm3 cd3 ct3 : Value}
    {f4 : Addr} {od4 an4 : Option Addr} {sl4 : Array (Option Value)} {oc4 kV4 dc4 pm4 cd4 ct4 : Value}
    {f5 : Addr} {od5 an5 : Option Addr} {sl5 : Array (Option Value)} {oc5 kV5 dc5 pm5 cd5 ct5 : Value}
    {f6 : Addr} {od6 an6 : Option Addr} {sl6 : Array (Option Value)} {oc6 kV6 dc6 pm6 cd6 ct6 : Value}
    {f7 : Addr} {od7 an7 : Option Addr} {sl7 : Array (Option Value)} {oc7 kV7 dc7 pm7 cd7 ct7 : Value}
    {f8 : Addr} {od8 an8 : Option Addr} {sl8 : Array (Option Value)} {oc8 kV8 dc8 pm8 cd8 ct8 : Value}
    {f9 : Addr} {od9 an9 : Option Addr} {sl9 : Array (Option Value)} {oc9 kV9 dc9 pm9 cd9 ct9 : Value}
    {f10 : Addr} {od10 an10 : Option Addr} {sl10 : Array (Option Value)} {oc10 kV10 dc10 pm10 cd10 ct10 : Value}
    {f11 : Addr} {od11 an11 : Option Addr} {sl11 : Array (Option Value)} {oc11 kV11 dc11 pm11 cd11 ct11 : Value}
    {f12 : Addr} {od12 an12 : Option Addr} {sl12 : Array (Option Value)} {oc12 kV12 dc12 pm12 cd12 ct12 : Value}
    {f13 : Addr} {od13 an13 : Option Addr} {sl13 : Array (Option Value)} {oc13 kV13 dc13 pm13 cd13 ct13 : Value}
    {f14 : Addr} {od14 an14 : Option Addr} {sl14 : Array (Option Value)} {oc14 kV14 dc14 pm14 cd14 ct14 : Value}
    {tk0 : Tok}
    (a1 : PySem.W.nsIn K mainGlobals "need_off" = some (some (.ref f1)))
    (l1 : K.lookup f1 = some ⟨oc1, od1, .func (PySem.W.fnOf "need_off" "need_off" (defArgs s_need_off) (defBody s_need_off) (defScope s_need_off) .none kV1 dc1 pm1 an1 cd1 ct1), sl1⟩)
    (c1 : PySem.W.codeIn K cd1 "need_off" = true)
    (k1 : PySem.W.keepIn K (.ref f1) = true)
    (a2 : PySem.W.nsIn K mainGlobals "slack" = some (some (.ref f2)))
    (l2 : K.lookup f2 = some ⟨oc2, od2, .func (PySem.W.fnOf "slack" "slack" (defArgs s_slack) (defBody s_slack) (defScope s_slack) .none kV2 dc2 pm2 an2 cd2 ct2), sl2⟩)
    (c2 : PySem.W.codeIn K cd2 "slack" = true)
    (k2 : PySem.W.keepIn K (.ref f2) = true)
    (a3 : PySem.W.nsIn K mainGlobals "brought" = some (some (.ref f3)))
    (l3 : K.lookup f3 = some ⟨oc3, od3, .func (PySem.W.fnOf "brought" "brought" (defArgs s_brought) (defBody s_brought) (defScope s_brought) .none kV3 dc3 pm3 an3 cd3 ct3), sl3⟩)
    (c3 : PySem.W.codeIn K cd3 "brought" = true)
    (k3 : PySem.W.keepIn K (.ref f3) = true)
    (a4 : PySem.W.nsIn K mainGlobals "_law_whole" = some (some (.ref f4)))
    (l4 : K.lookup f4 = some ⟨oc4, od4, .func (PySem.W.fnOf "_law_whole" "_law_whole" (defArgs s_l_whole) (defBody s_l_whole) (defScope s_l_whole) .none kV4 dc4 pm4 an4 cd4 ct4), sl4⟩)
    (c4 : PySem.W.codeIn K cd4 "_law_whole" = true)
    (k4 : PySem.W.keepIn K (.ref f4) = true)
    (a5 : PySem.W.nsIn K mainGlobals "_law_cell_at" = some (some (.ref f5)))
    (l5 : K.lookup f5 = some ⟨oc5, od5, .func (PySem.W.fnOf "_law_cell_at" "_law_cell_at" (defArgs s_l_cell_at) (defBody s_l_cell_at) (defScope s_l_cell_at) .none kV5 dc5 pm5 an5 cd5 ct5), sl5⟩)
    (c5 : PySem.W.codeIn K cd5 "_law_cell_at" = true)
    (k5 : PySem.W.keepIn K (.ref f5) = true)
    (a6 : PySem.W.nsIn K mainGlobals "_law_mix" = some (some (.ref f6)))
    (l6 : K.lookup f6 = some ⟨oc6, od6, .func (PySem.W.fnOf "_law_mix" "_law_mix" (defArgs s_l_mix) (defBody s_l_mix) (defScope s_l_mix) .none kV6 dc6 pm6 an6 cd6 ct6), sl6⟩)
    (c6 : PySem.W.codeIn K cd6 "_law_mix" = true)
    (k6 : PySem.W.keepIn K (.ref f6) = true)
    (a7 : PySem.W.nsIn K mainGlobals "_law_big" = some (some (.ref f7)))
    (l7 : K.lookup f7 = some ⟨oc7, od7, .func (PySem.W.fnOf "_law_big" "_law_big" (defArgs s_l_big) (defBody s_l_big) (defScope s_l_big) .none kV7 dc7 pm7 an7 cd7 ct7), sl7⟩)
    (c7 : PySem.W.codeIn K cd7 "_law_big" = true)
    (k7 : PySem.W.keepIn K (.ref f7) = true)
    (a8 : PySem.W.nsIn K mainGlobals "_law_off" = some (some (.ref f8)))
    (l8 : K.lookup f8 = some ⟨oc8, od8, .func (PySem.W.fnOf "_law_off" "_law_off" (defArgs s_l_off) (defBody s_l_off) (defScope s_l_off) .none kV8 dc8 pm8 an8 cd8 ct8), sl8⟩)
    (c8 : PySem.W.codeIn K cd8 "_law_off" = true)
    (k8 : PySem.W.keepIn K (.ref f8) = true)
    (a9 : PySem.W.nsIn K mainGlobals "_law_slack" = some (some (.ref f9)))
    (l9 : K.lookup f9 = some ⟨oc9, od9, .func (PySem.W.fnOf "_law_slack" "_law_slack" (defArgs s_l_slack) (defBody s_l_slack) (defScope s_l_slack) .none kV9 dc9 pm9 an9 cd9 ct9), sl9⟩)
    (c9 : PySem.W.codeIn K cd9 "_law_slack" = true)
    (k9 : PySem.W.keepIn K (.ref f9) = true)
    (a10 : PySem.W.nsIn K mainGlobals "_law_brought" = some (some (.ref f10)))
    (l10 : K.lookup f10 = some ⟨oc10, od10, .func (PySem.W.fnOf "_law_brought" "_law_brought" (defArgs s_l_brought) (defBody s_l_brought) (defScope s_l_brought) .none kV10 dc10 pm10 an10 cd10 ct10), sl10⟩)
    (c10 : PySem.W.codeIn K cd10 "_law_brought" = true)
    (k10 : PySem.W.keepIn K (.ref f10) = true)
    (a11 : PySem.W.nsIn K mainGlobals "_law_kind" = some (some (.ref f11)))
    (l11 : K.lookup f11 = some ⟨oc11, od11, .func (PySem.W.fnOf "_law_kind" "_law_kind" (defArgs s_l_kind) (defBody s_l_kind) (defScope s_l_kind) .none kV11 dc11 pm11 an11 cd11 ct11), sl11⟩)
    (c11 : PySem.W.codeIn K cd11 "_law_kind" = true)
    (k11 : PySem.W.keepIn K (.ref f11) = true)
    (a12 : PySem.W.nsIn K mainGlobals "_law_stretch" = some (some (.ref f12)))
    (l12 : K.lookup f12 = some ⟨oc12, od12, .func (PySem.W.fnOf "_law_stretch" "_law_stretch" (defArgs s_l_stretch) (defBody s_l_stretch) (defScope s_l_stretch) .none kV12 dc12 pm12 an12 cd12 ct12), sl12⟩)
    (c12 : PySem.W.codeIn K cd12 "_law_stretch" = true)
    (k12 : PySem.W.keepIn K (.ref f12) = true)
    (a13 : PySem.W.nsIn K mainGlobals "_law_told" = some (some (.ref f13)))
    (l13 : K.lookup f13 = some ⟨oc13, od13, .func (PySem.W.fnOf "_law_told" "_law_told" (defArgs s_l_told) (defBody s_l_told) (defScope s_l_told) .none kV13 dc13 pm13 an13 cd13 ct13), sl13⟩)
    (c13 : PySem.W.codeIn K cd13 "_law_told" = true)
    (k13 : PySem.W.keepIn K (.ref f13) = true)
    (a14 : PySem.W.nsIn K mainGlobals "law" = some (some (.ref f14)))
    (l14 : K.lookup f14 = some ⟨oc14, od14, .func (PySem.W.fnOf "law" "law" (defArgs s_law) (defBody s_law) (defScope s_law) .none kV14 dc14 pm14 an14 cd14 ct14), sl14⟩)
    (c14 : PySem.W.codeIn K cd14 "law" = true)
    (k14 : PySem.W.keepIn K (.ref f14) = true)
    (v0 : PySem.W.nsIn K mainGlobals "MOST_OFF" = some (some (.int 999 tk0)))
    (z0 : PySem.W.nsIn K mainGlobals "ValueError" = some none)
    (z1 : PySem.W.nsIn K mainGlobals "sorted" = some none)
    (z2 : PySem.W.nsIn K mainGlobals "isinstance" = some none)
    (z3 : PySem.W.nsIn K mainGlobals "int" = some none)
    (z4 : PySem.W.nsIn K mainGlobals "len" = some none)
    (z5 : PySem.W.nsIn K mainGlobals "bool" = some none)
    (z6 : PySem.W.nsIn K mainGlobals "tuple" = some none)
    (g_StretchError : PySem.W.nsIn K mainGlobals "StretchError" = some (some (.ref C_StretchError)))
    (g_BadName : PySem.W.nsIn K mainGlobals "BadName" = some (some (.ref C_BadName)))
    (g_BadLetter : PySem.W.nsIn K mainGlobals "BadLetter" = some (some (.ref C_BadLetter)))
    (g_BadOff : PySem.W.nsIn K mainGlobals "BadOff" = some (some (.ref C_BadOff)))
    (g_TooEarly : PySem.W.nsIn K mainGlobals "TooEarly" = some (some (.ref C_TooEarly)))
    (g_BadCount : PySem.W.nsIn K mainGlobals "BadCount" = some (some (.ref C_BadCount)))
    (g_NoAgreement : PySem.W.nsIn K mainGlobals "NoAgreement" = some (some (.ref C_NoAgreement)))
    (g_TooWide : PySem.W.nsIn K mainGlobals "TooWide" = some (some (.ref C_TooWide)))
    (g_TooMany : PySem.W.nsIn K mainGlobals "TooMany" = some (some (.ref C_TooMany)))
    (g_NoClock : PySem.W.nsIn K mainGlobals "NoClock" = some (some (.ref C_NoClock)))
    (g_NoText : PySem.W.nsIn K mainGlobals "NoText" = some (some (.ref C_NoText)))
    (eN : PySem.W.specialIn K (.builtin "object.__class__") "__get__" = some (some (.builtin "getset_descriptor.__get__")))
    (eT : PySem.W.takesIn K (.builtin "object.__class__") = some true)
    (j1_BadName : PySem.W.isClsIn K C_BadName = true)
    (j2_BadName : PySem.W.typeIn K (.ref C_BadName) = some (.type "type"))
    (j1_BadLetter : PySem.W.isClsIn K C_BadLetter = true)
    (j2_BadLetter : PySem.W.typeIn K (.ref C_BadLetter) = some (.type "type"))
    (j1_BadOff : PySem.W.isClsIn K C_BadOff = true)
    (j2_BadOff : PySem.W.typeIn K (.ref C_BadOff) = some (.type "type"))
    (j1_TooEarly : PySem.W.isClsIn K C_TooEarly = true)
    (j2_TooEarly : PySem.W.typeIn K (.ref C_TooEarly) = some (.type "type"))
    (j1_BadCount : PySem.W.isClsIn K C_BadCount = true)
    (j2_BadCount : PySem.W.typeIn K (.ref C_BadCount) = some (.type "type"))
    (j1_NoAgreement : PySem.W.isClsIn K C_NoAgreement = true)
    (j2_NoAgreement : PySem.W.typeIn K (.ref C_NoAgreement) = some (.type "type"))
    (j1_TooWide : PySem.W.isClsIn K C_TooWide = true)
    (j2_TooWide : PySem.W.typeIn K (.ref C_TooWide) = some (.type "type"))
    (j1_TooMany : PySem.W.isClsIn K C_TooMany = true)
    (j2_TooMany : PySem.W.typeIn K (.ref C_TooMany) = some (.type "type"))
    (j1_NoClock : PySem.W.isClsIn K C_NoClock = true)
    (j2_NoClock : PySem.W.typeIn K (.ref C_NoClock) = some (.type "type"))
    (j1_NoText : PySem.W.isClsIn K C_NoText = true)
    (j2_NoText : PySem.W.typeIn K (.ref C_NoText) = some (.type "type"))
    (j1_StretchError : PySem.W.isClsIn K C_StretchError = true)
    (j2_StretchError : PySem.W.typeIn K (.ref C_StretchError) = some (.type "type"))
    (j3 : PySem.W.subIn K (.ref C_StretchError) (.type "BaseException") = some true)
    (e1_BadOff : PySem.W.excIn K C_BadOff [.type "ValueError", .type "Exception", .type "BaseException", .type "object"] "ValueError.__new__" = true)
    (e2_BadOff : PySem.W.keepIn K (.ref C_BadOff) = true)
    (e3_BadOff : PySem.W.typeIn K (.ref C_BadOff) = some (.type "type"))
    (e4_BadOff : PySem.W.findIn K (.ref C_BadOff) "__getattribute__" = some (some (.builtin "BaseException.__getattribute__")))
    (e5_BadOff : PySem.W.findIn K (.ref C_BadOff) "__getattr__" = some none)
    (e6_BadOff : PySem.W.subIn K (.ref C_BadOff) (.type "BaseException") = some true)
    (e7_BadOff : PySem.W.hasDictIn K C_BadOff = true)
    (e8_BadOff : PySem.W.findIn K (.ref C_BadOff) "__class__" = some (some (.builtin "object.__class__")))
    (e9_BadOff : PySem.W.mroIn K C_BadOff (.type "object") = some true)
    (t_BadOff : PySem.W.subIn K (.ref C_BadOff) (.ref C_StretchError) = some true)
    (i_BadOff_BadName : PySem.W.subIn K (.ref C_BadOff) (.ref C_BadName) = some false)
    (i_BadOff_BadLetter : PySem.W.subIn K (.ref C_BadOff) (.ref C_BadLetter) = some false)
    (i_BadOff_BadOff : PySem.W.subIn K (.ref C_BadOff) (.ref C_BadOff) = some true)
    (i_BadOff_TooEarly : PySem.W.subIn K (.ref C_BadOff) (.ref C_TooEarly) = some false)
    (i_BadOff_BadCount : PySem.W.subIn K (.ref C_BadOff) (.ref C_BadCount) = some false)
    (i_BadOff_NoAgreement : PySem.W.subIn K (.ref C_BadOff) (.ref C_NoAgreement) = some false)
    (i_BadOff_TooWide : PySem.W.subIn K (.ref C_BadOff) (.ref C_TooWide) = some false)
    (i_BadOff_TooMany : PySem.W.subIn K (.ref C_BadOff) (.ref C_TooMany) = some false)
    (i_BadOff_NoClock : PySem.W.subIn K (.ref C_BadOff) (.ref C_NoClock) = some false)
    (i_BadOff_NoText : PySem.W.subIn K (.ref C_BadOff) (.ref C_NoText) = some false)
    (i_BadOff_ValueError : PySem.W.subIn K (.ref C_BadOff) (.type "ValueError") = some true)
    (e1_TooEarly : PySem.W.excIn K C_TooEarly [.type "ValueError", .type "Exception", .type "BaseException", .type "object"] "ValueError.__new__" = true)
    (e2_TooEarly : PySem.W.keepIn K (.ref C_TooEarly) = true)
    (e3_TooEarly : PySem.W.typeIn K (.ref C_TooEarly) = some (.type "type"))
    (e4_TooEarly : PySem.W.findIn K (.ref C_TooEarly) "__getattribute__" = some (some (.builtin "BaseException.__getattribute__")))
    (e5_TooEarly : PySem.W.findIn K (.ref C_TooEarly) "__getattr__" = some none)
    (e6_TooEarly : PySem.W.subIn K (.ref C_TooEarly) (.type "BaseException") = some true)
    (e7_TooEarly : PySem.W.hasDictIn K C_TooEarly = true)
    (e8_TooEarly : PySem.W.findIn K (.ref C_TooEarly) "__class__" = some (some (.builtin "object.__class__")))
    (e9_TooEarly : PySem.W.mroIn K C_TooEarly (.type "object") = some true)
    (t_TooEarly : PySem.W.subIn K (.ref C_TooEarly) (.ref C_StretchError) = some true)
    (i_TooEarly_BadName : PySem.W.subIn K (.ref C_TooEarly) (.ref C_BadName) = some false)
    (i_TooEarly_BadLetter : PySem.W.subIn K (.ref C_TooEarly) (.ref C_BadLetter) = some false)
    (i_TooEarly_BadOff : PySem.W.subIn K (.ref C_TooEarly) (.ref C_BadOff) = some false)
    (i_TooEarly_TooEarly : PySem.W.subIn K (.ref C_TooEarly) (.ref C_TooEarly) = some true)
    (i_TooEarly_BadCount : PySem.W.subIn K (.ref C_TooEarly) (.ref C_BadCount) = some false)
    (i_TooEarly_NoAgreement : PySem.W.subIn K (.ref C_TooEarly) (.ref C_NoAgreement) = some false)
    (i_TooEarly_TooWide : PySem.W.subIn K (.ref C_TooEarly) (.ref C_TooWide) = some false)
    (i_TooEarly_TooMany : PySem.W.subIn K (.ref C_TooEarly) (.ref C_TooMany) = some false)
    (i_TooEarly_NoClock : PySem.W.subIn K (.ref C_TooEarly) (.ref C_NoClock) = some false)
    (i_TooEarly_NoText : PySem.W.subIn K (.ref C_TooEarly) (.ref C_NoText) = some false)
    (i_TooEarly_ValueError : PySem.W.subIn K (.ref C_TooEarly) (.type "ValueError") = some true)
    : ∃ fd : FuncData, (∀ (s : Shared) (v : Value), BindsTo s fd ⟨[v], []⟩ [("_law_script", v)]) ∧ ∀ base : Heap, K.In base → base.Ns mainGlobals mg → FnOk l.prog w K mg base CX0 4 fa fd ["_law_script"] (spLaw K) := by
  have e := hfa.symm.trans (PySem.W.mg_of X G a14)
  cases e
  let T : Lw K mg := {
    f_need_off := f1,
    fd_need_off := PySem.W.fnOf "need_off" "need_off" (defArgs s_need_off) (defBody s_need_off) (defScope s_need_off) .none kV1 dc1 pm1 an1 cd1 ct1,
    d_need_off := ⟨fun_mk (st := s_need_off) l1 c1 k1, (fun_mk (st := s_need_off) l1 c1 k1).binds (ps := ["off"]) fun _ _ _ _ _ _ us hl => match us, hl with | [_], _ => rfl⟩,
    m_need_off := PySem.W.mg_of X G a1,
    f_slack := f2,
    fd_slack := PySem.W.fnOf "slack" "slack" (defArgs s_slack) (defBody s_slack) (defScope s_slack) .none kV2 dc2 pm2 an2 cd2 ct2,
    d_slack := ⟨fun_mk (st := s_slack) l2 c2 k2, (fun_mk (st := s_slack) l2 c2 k2).binds (ps := ["passed", "off"]) fun _ _ _ _ _ _ us hl => match us, hl with | [_, _], _ => rfl⟩,
    m_slack := PySem.W.mg_of X G a2,
    f_brought := f3,
    fd_brought := PySem.W.fnOf "brought" "brought" (defArgs s_brought) (defBody s_brought) (defScope s_brought) .none kV3 dc3 pm3 an3 cd3 ct3,
    d_brought := ⟨fun_mk (st := s_brought) l3 c3 k3, (fun_mk (st := s_brought) l3 c3 k3).binds (ps := ["letter", "now", "off"]) fun _ _ _ _ _ _ us hl => match us, hl with | [_, _, _], _ => rfl⟩,
    m_brought := PySem.W.mg_of X G a3,
    f_l_whole := f4,
    fd_l_whole := PySem.W.fnOf "_law_whole" "_law_whole" (defArgs s_l_whole) (defBody s_l_whole) (defScope s_l_whole) .none kV4 dc4 pm4 an4 cd4 ct4,
    d_l_whole := ⟨fun_mk (st := s_l_whole) l4 c4 k4, (fun_mk (st := s_l_whole) l4 c4 k4).binds (ps := ["_law_found"]) fun _ _ _ _ _ _ us hl => match us, hl with | [_], _ => rfl⟩,
    m_l_whole := PySem.W.mg_of X G a4,
    f_l_cell_at := f5,
    fd_l_cell_at := PySem.W.fnOf "_law_cell_at" "_law_cell_at" (defArgs s_l_cell_at) (defBody s_l_cell_at) (defScope s_l_cell_at) .none kV5 dc5 pm5 an5 cd5 ct5,
    d_l_cell_at := ⟨fun_mk (st := s_l_cell_at) l5 c5 k5, (fun_mk (st := s_l_cell_at) l5 c5 k5).binds (ps := ["_law_script", "_law_k"]) fun _ _ _ _ _ _ us hl => match us, hl with | [_, _], _ => rfl⟩,
    m_l_cell_at := PySem.W.mg_of X G a5,
    f_l_mix := f6,
    fd_l_mix := PySem.W.fnOf "_law_mix" "_law_mix" (defArgs s_l_mix) (defBody s_l_mix) (defScope s_l_mix) .none kV6 dc6 pm6 an6 cd6 ct6,
    d_l_mix := ⟨fun_mk (st := s_l_mix) l6 c6 k6, (fun_mk (st := s_l_mix) l6 c6 k6).binds (ps := ["_law_cell", "_law_k"]) fun _ _ _ _ _ _ us hl => match us, hl with | [_, _], _ => rfl⟩,
    m_l_mix := PySem.W.mg_of X G a6,
    f_l_big := f7,
    fd_l_big := PySem.W.fnOf "_law_big" "_law_big" (defArgs s_l_big) (defBody s_l_big) (defScope s_l_big) .none kV7 dc7 pm7 an7 cd7 ct7,
    d_l_big := ⟨fun_mk (st := s_l_big) l7 c7 k7, (fun_mk (st := s_l_big) l7 c7 k7).binds (ps := ["_law_cell", "_law_k"]) fun _ _ _ _ _ _ us hl => match us, hl with | [_, _], _ => rfl⟩,
    m_l_big := PySem.W.mg_of X G a7,
    f_l_off := f8,
    fd_l_off := PySem.W.fnOf "_law_off" "_law_off" (defArgs s_l_off) (defBody s_l_off) (defScope s_l_off) .none kV8 dc8 pm8 an8 cd8 ct8,
    d_l_off := ⟨fun_mk (st := s_l_off) l8 c8 k8, (fun_mk (st := s_l_off) l8 c8 k8).binds (ps := ["_law_cell"]) fun _ _ _ _ _ _ us hl => match us, hl with | [_], _ => rfl⟩,
    m_l_off := PySem.W.mg_of X G a8,
    f_l_slack := f9,
    fd_l_slack := PySem.W.fnOf "_law_slack" "_law_slack" (defArgs s_l_slack) (defBody s_l_slack) (defScope s_l_slack) .none kV9 dc9 pm9 an9 cd9 ct9,
    d_l_slack := ⟨fun_mk (st := s_l_slack) l9 c9 k9, (fun_mk (st := s_l_slack) l9 c9 k9).binds (ps := ["_law_passed", "_law_off_here"]) fun _ _ _ _ _ _ us hl => match us, hl with | [_, _], _ => rfl⟩,
    m_l_slack := PySem.W.mg_of X G a9,
    f_l_brought := f10,
    fd_l_brought := PySem.W.fnOf "_law_brought" "_law_brought" (defArgs s_l_brought) (defBody s_l_brought) (defScope s_l_brought) .none kV10 dc10 pm10 an10 cd10 ct10,
    d_l_brought := ⟨fun_mk (st := s_l_brought) l10 c10 k10, (fun_mk (st := s_l_brought) l10 c10 k10).binds (ps := ["_law_letter", "_law_now", "_law_off_here"]) fun _ _ _ _ _ _ us hl => match us, hl with | [_, _, _], _ => rfl⟩,
    m_l_brought := PySem.W.mg_of X G a10,
    f_l_kind := f11,
    fd_l_kind := PySem.W.fnOf "_law_kind" "_law_kind" (defArgs s_l_kind) (defBody s_l_kind) (defScope s_l_kind) .none kV11 dc11 pm11 an11 cd11 ct11,
    d_l_kind := ⟨fun_mk (st := s_l_kind) l11 c11 k11, (fun_mk (st := s_l_kind) l11 c11 k11).binds (ps := ["_law_e"]) fun _ _ _ _ _ _ us hl => match us, hl with | [_], _ => rfl⟩,
    m_l_kind := PySem.W.mg_of X G a11,
    f_l_stretch := f12,
    fd_l_stretch := PySem.W.fnOf "_law_stretch" "_law_stretch" (defArgs s_l_stretch) (defBody s_l_stretch) (defScope s_l_stretch) .none kV12 dc12 pm12 an12 cd12 ct12,
    d_l_stretch := ⟨fun_mk (st := s_l_stretch) l12 c12 k12, (fun_mk (st := s_l_stretch) l12 c12 k12).binds (ps := ["_law_found", "_law_low", "_law_high"]) fun _ _ _ _ _ _ us hl => match us, hl with | [_, _, _], _ => rfl⟩,
    m_l_stretch := PySem.W.mg_of X G a12,
    f_l_told := f13,
    fd_l_told := PySem.W.fnOf "_law_told" "_law_told" (defArgs s_l_told) (defBody s_l_told) (defScope s_l_told) .none kV13 dc13 pm13 an13 cd13 ct13,
    d_l_told := ⟨fun_mk (st := s_l_told) l13 c13 k13, (fun_mk (st := s_l_told) l13 c13 k13).binds (ps := ["_law_letter", "_law_now", "_law_off_here"]) fun _ _ _ _ _ _ us hl => match us, hl with | [_, _, _], _ => rfl⟩,
    m_l_told := PySem.W.mg_of X G a13,
    f_law := fa,
    fd_law := PySem.W.fnOf "law" "law" (defArgs s_law) (defBody s_law) (defScope s_law) .none kV14 dc14 pm14 an14 cd14 ct14,
    d_law := ⟨fun_mk (st := s_law) l14 c14 k14, (fun_mk (st := s_law) l14 c14 k14).binds (ps := ["_law_script"]) fun _ _ _ _ _ _ us hl => match us, hl with | [_], _ => rfl⟩,
    m_law := PySem.W.mg_of X G a14,
    c_MOST_OFF := ⟨_, PySem.W.mg_of X G v0⟩,
    n_ValueError := PySem.W.mg_none_of X G z0,
    n_sorted := PySem.W.mg_none_of X G z1,
    n_isinstance := PySem.W.mg_none_of X G z2,
    n_int := PySem.W.mg_none_of X G z3,
    n_len := PySem.W.mg_none_of X G z4,
    n_bool := PySem.W.mg_none_of X G z5,
    n_tuple := PySem.W.mg_none_of X G z6,
    C_StretchError := C_StretchError,
    m_StretchError := PySem.W.mg_of X G g_StretchError,
    C_BadName := C_BadName,
    m_BadName := PySem.W.mg_of X G g_BadName,
    C_BadLetter := C_BadLetter,
    m_BadLetter := PySem.W.mg_of X G g_BadLetter,
    C_BadOff := C_BadOff,
    m_BadOff := PySem.W.mg_of X G g_BadOff,
    C_TooEarly := C_TooEarly,
    m_TooEarly := PySem.W.mg_of X G g_TooEarly,
    C_BadCount := C_BadCount,
    m_BadCount := PySem.W.mg_of X G g_BadCount,
    C_NoAgreement := C_NoAgreement,
    m_NoAgreement := PySem.W.mg_of X G g_NoAgreement,
    C_TooWide := C_TooWide,
    m_TooWide := PySem.W.mg_of X G g_TooWide,
    C_TooMany := C_TooMany,
    m_TooMany := PySem.W.mg_of X G g_TooMany,
    C_NoClock := C_NoClock,
    m_NoClock := PySem.W.mg_of X G g_NoClock,
    C_NoText := C_NoText,
    m_NoText := PySem.W.mg_of X G g_NoText,
    x_BadOff := ⟨e1_BadOff, e2_BadOff, e3_BadOff, ⟨e4_BadOff, e5_BadOff, e6_BadOff, e7_BadOff, e8_BadOff, eN, eT, e9_BadOff⟩⟩,
    t_BadOff := Ts.exm_own j3 j1_StretchError j2_StretchError t_BadOff,
    i_BadOff_BadName := Ts.kit_no i_BadOff_BadOff i_BadOff_BadName j1_BadName j2_BadName,
    i_BadOff_BadLetter := Ts.kit_no i_BadOff_BadOff i_BadOff_BadLetter j1_BadLetter j2_BadLetter,
    i_BadOff_BadOff := Ts.kit_self,
    i_BadOff_TooEarly := Ts.kit_no i_BadOff_BadOff i_BadOff_TooEarly j1_TooEarly j2_TooEarly,
    i_BadOff_BadCount := Ts.kit_no i_BadOff_BadOff i_BadOff_BadCount j1_BadCount j2_BadCount,
    i_BadOff_NoAgreement := Ts.kit_no i_BadOff_BadOff i_BadOff_NoAgreement j1_NoAgreement j2_NoAgreement,
    i_BadOff_TooWide := Ts.kit_no i_BadOff_BadOff i_BadOff_TooWide j1_TooWide j2_TooWide,
    i_BadOff_TooMany := Ts.kit_no i_BadOff_BadOff i_BadOff_TooMany j1_TooMany j2_TooMany,
    i_BadOff_NoClock := Ts.kit_no i_BadOff_BadOff i_BadOff_NoClock j1_NoClock j2_NoClock,
    i_BadOff_NoText := Ts.kit_no i_BadOff_BadOff i_BadOff_NoText j1_NoText j2_NoText,
    i_BadOff_ValueError := Ts.kit_bt i_BadOff_ValueError (by decide +kernel),
    x_TooEarly := ⟨e1_TooEarly, e2_TooEarly, e3_TooEarly, ⟨e4_TooEarly, e5_TooEarly, e6_TooEarly, e7_TooEarly, e8_TooEarly, eN, eT, e9_TooEarly⟩⟩,
    t_TooEarly := Ts.exm_own j3 j1_StretchError j2_StretchError t_TooEarly,
    i_TooEarly_BadName := Ts.kit_no i_TooEarly_TooEarly i_TooEarly_BadName j1_BadName j2_BadName,
    i_TooEarly_BadLetter := Ts.kit_no i_TooEarly_TooEarly i_TooEarly_BadLetter j1_BadLetter j2_BadLetter,
    i_TooEarly_BadOff := Ts.kit_no i_TooEarly_TooEarly i_TooEarly_BadOff j1_BadOff j2_BadOff,
    i_TooEarly_TooEarly := Ts.kit_self,
    i_TooEarly_BadCount := Ts.kit_no i_TooEarly_TooEarly i_TooEarly_BadCount j1_BadCount j2_BadCount,
    i_TooEarly_NoAgreement := Ts.kit_no i_TooEarly_TooEarly i_TooEarly_NoAgreement j1_NoAgreement j2_NoAgreement,
    i_TooEarly_TooWide := Ts.kit_no i_TooEarly_TooEarly i_TooEarly_TooWide j1_TooWide j2_TooWide,
    i_TooEarly_TooMany := Ts.kit_no i_TooEarly_TooEarly i_TooEarly_TooMany j1_TooMany j2_TooMany,
    i_TooEarly_NoClock := Ts.kit_no i_TooEarly_TooEarly i_TooEarly_NoClock j1_NoClock j2_NoClock,
    i_TooEarly_NoText := Ts.kit_no i_TooEarly_TooEarly i_TooEarly_NoText j1_NoText j2_NoText,
    i_TooEarly_ValueError := Ts.kit_bt i_TooEarly_ValueError (by decide +kernel) }
  exact ⟨T.fd_law, fun s v => .of_eq rfl, fun base _ _ => ok_law T⟩
end Law
open PySem PySem.W PyProof.Rows
set_option maxHeartbeats 0 in
theorem PySem.Challenge.cw_timestretch_k03_a_letter_brought_holds : PySem.Challenge.rw_timestretch_k03_a_letter_brought.Holds := by
  w_on; o_law; k_head; (case hw => w_witness2)
  k_fill
  refine L2.walk_of (l := PySem.Challenge.rw_timestretch_k03_a_letter_brought) (n := 63) (k := 4) (x := "_law_script") (CX := fun _ => L2.CX0) (sp := fun w => Law.spLaw _) rfl (by decide) rfl ⟨rfl, by decide, by decide⟩ (fun w h Y => PySem.W.kIn_of Y) ?F (fun _ _ a ns hl _ hS => ⟨a, ns, rfl, hS, hl, fun _ => rfl⟩) (fun _ _ _ _ _ h => h)
  case F =>
    intro w mg fa h KX G hmg
    refine' Law.all_mk KX G hmg ?a1 ?l1 ?c1 ?k1 ?a2 ?l2 ?c2 ?k2 ?a3 ?l3 ?c3 ?k3 ?a4 ?l4 ?c4 ?k4 ?a5 ?l5 ?c5 ?k5 ?a6 ?l6 ?c6 ?k6 ?a7 ?l7 ?c7 ?k7 ?a8 ?l8 ?c8 ?k8 ?a9 ?l9 ?c9 ?k9 ?a10 ?l10 ?c10 ?k10 ?a11 ?l11 ?c11 ?k11 ?a12 ?l12 ?c12 ?k12 ?a13 ?l13 ?c13 ?k13 ?a14 ?l14 ?c14 ?k14 ?v0 ?z0 ?z1 ?z2 ?z3 ?z4 ?z5 ?z6 ?g_StretchError ?g_BadName ?g_BadLetter ?g_BadOff ?g_TooEarly ?g_BadCount ?g_NoAgreement ?g_TooWide ?g_TooMany ?g_NoClock ?g_NoText ?eN ?eT ?j1_BadName ?j2_BadName ?j1_BadLetter ?j2_BadLetter ?j1_BadOff ?j2_BadOff ?j1_TooEarly ?j2_TooEarly ?j1_BadCount ?j2_BadCount ?j1_NoAgreement ?j2_NoAgreement ?j1_TooWide ?j2_TooWide ?j1_TooMany ?j2_TooMany ?j1_NoClock ?j2_NoClock ?j1_NoText ?j2_NoText ?j1_StretchError ?j2_StretchError ?j3 ?e1_BadOff ?e2_BadOff ?e3_BadOff ?e4_BadOff ?e5_BadOff ?e6_BadOff ?e7_BadOff ?e8_BadOff ?e9_BadOff ?t_BadOff ?i_BadOff_BadName ?i_BadOff_BadLetter ?i_BadOff_BadOff ?i_BadOff_TooEarly ?i_BadOff_BadCount ?i_BadOff_NoAgreement ?i_BadOff_TooWide ?i_BadOff_TooMany ?i_BadOff_NoClock ?i_BadOff_NoText ?i_BadOff_ValueError ?e1_TooEarly ?e2_TooEarly ?e3_TooEarly ?e4_TooEarly ?e5_TooEarly ?e6_TooEarly ?e7_TooEarly ?e8_TooEarly ?e9_TooEarly ?t_TooEarly ?i_TooEarly_BadName ?i_TooEarly_BadLetter ?i_TooEarly_BadOff ?i_TooEarly_TooEarly ?i_TooEarly_BadCount ?i_TooEarly_NoAgreement ?i_TooEarly_TooWide ?i_TooEarly_TooMany ?i_TooEarly_NoClock ?i_TooEarly_NoText ?i_TooEarly_ValueError
    (case a1 => k_is)
    (case l1 => k_is)
    (case c1 => k_is)
    (case k1 => k_is)
    (case a2 => k_is)
    (case l2 => k_is)
    (case c2 => k_is)
    (case k2 => k_is)
    (case a3 => k_is)
    (case l3 => k_is)
    (case c3 => k_is)
    (case k3 => k_is)
    (case a4 => k_is)
    (case l4 => k_is)
    (case c4 => k_is)
    (case k4 => k_is)
    (case a5 => k_is)
    (case l5 => k_is)
    (case c5 => k_is)
    (case k5 => k_is)
    (case a6 => k_is)
    (case l6 => k_is)
    (case c6 => k_is)
    (case k6 => k_is)
    (case a7 => k_is)
    (case l7 => k_is)
    (case c7 => k_is)
    (case k7 => k_is)
    (case a8 => k_is)
    (case l8 => k_is)
    (case c8 => k_is)
    (case k8 => k_is)
    (case a9 => k_is)
    (case l9 => k_is)
    (case c9 => k_is)
    (case k9 => k_is)
    (case a10 => k_is)
    (case l10 => k_is)
    (case c10 => k_is)
    (case k10 => k_is)
    (case a11 => k_is)
    (case l11 => k_is)
    (case c11 => k_is)
    (case k11 => k_is)
    (case a12 => k_is)
    (case l12 => k_is)
    (case c12 => k_is)
    (case k12 => k_is)
    (case a13 => k_is)
    (case l13 => k_is)
    (case c13 => k_is)
    (case k13 => k_is)
    (case a14 => k_is)
    (case l14 => k_is)
    (case c14 => k_is)
    (case k14 => k_is)
    (case v0 => k_is)
    (case z0 => k_is)
    (case z1 => k_is)
    (case z2 => k_is)
    (case z3 => k_is)
    (case z4 => k_is)
    (case z5 => k_is)
    (case z6 => k_is)
    (case g_StretchError => k_is)
    (case g_BadName => k_is)
    (case g_BadLetter => k_is)
    (case g_BadOff => k_is)
    (case g_TooEarly => k_is)
    (case g_BadCount => k_is)
    (case g_NoAgreement => k_is)
    (case g_TooWide => k_is)
    (case g_TooMany => k_is)
    (case g_NoClock => k_is)
    (case g_NoText => k_is)
    (case eN => k_is)
    (case eT => k_is)
    (case j1_BadName => k_is)
    (case j2_BadName => k_is)
    (case j1_BadLetter => k_is)
    (case j2_BadLetter => k_is)
    (case j1_BadOff => k_is)
    (case j2_BadOff => k_is)
    (case j1_TooEarly => k_is)
    (case j2_TooEarly => k_is)
    (case j1_BadCount => k_is)
    (case j2_BadCount => k_is)
    (case j1_NoAgreement => k_is)
    (case j2_NoAgreement => k_is)
    (case j1_TooWide => k_is)
    (case j2_TooWide => k_is)
    (case j1_TooMany => k_is)
    (case j2_TooMany => k_is)
    (case j1_NoClock => k_is)
    (case j2_NoClock => k_is)
    (case j1_NoText => k_is)
    (case j2_NoText => k_is)
    (case j1_StretchError => k_is)
    (case j2_StretchError => k_is)
    (case j3 => k_is)
    (case e1_BadOff => k_exc)
    (case e2_BadOff => k_is)
    (case e3_BadOff => k_is)
    (case e4_BadOff => k_is)
    (case e5_BadOff => k_is)
    (case e6_BadOff => k_is)
    (case e7_BadOff => k_is)
    (case e8_BadOff => k_is)
    (case e9_BadOff => k_is)
    (case t_BadOff => k_is)
    (case i_BadOff_BadName => k_is)
    (case i_BadOff_BadLetter => k_is)
    (case i_BadOff_BadOff => k_is)
    (case i_BadOff_TooEarly => k_is)
    (case i_BadOff_BadCount => k_is)
    (case i_BadOff_NoAgreement => k_is)
    (case i_BadOff_TooWide => k_is)
    (case i_BadOff_TooMany => k_is)
    (case i_BadOff_NoClock => k_is)
    (case i_BadOff_NoText => k_is)
    (case i_BadOff_ValueError => k_is)
    (case e1_TooEarly => k_exc)
    (case e2_TooEarly => k_is)
    (case e3_TooEarly => k_is)
    (case e4_TooEarly => k_is)
    (case e5_TooEarly => k_is)
    (case e6_TooEarly => k_is)
    (case e7_TooEarly => k_is)
    (case e8_TooEarly => k_is)
    (case e9_TooEarly => k_is)
    (case t_TooEarly => k_is)
    (case i_TooEarly_BadName => k_is)
    (case i_TooEarly_BadLetter => k_is)
    (case i_TooEarly_BadOff => k_is)
    (case i_TooEarly_TooEarly => k_is)
    (case i_TooEarly_BadCount => k_is)
    (case i_TooEarly_NoAgreement => k_is)
    (case i_TooEarly_TooWide => k_is)
    (case i_TooEarly_TooMany => k_is)
    (case i_TooEarly_NoClock => k_is)
    (case i_TooEarly_NoText => k_is)
    (case i_TooEarly_ValueError => k_is)
#print axioms PySem.Challenge.cw_timestretch_k03_a_letter_brought_holds
