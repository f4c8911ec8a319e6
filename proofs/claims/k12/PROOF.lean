import PyProof.Rows.All
import Wide.All
import OpenK.AllK
import Wide.FinOn
import HandS.ForMost
import HandS.TryOnly
import HandS.ExcOwn
import HandS.WordsExc
import HandS.IsInst
import HandS.ExcIs
import HandS.HotCalls
import HandS.SortInts
import HandS.Walk
import HandS.Steps
import HandS.SetFor
import HandS.Conv
import HandS.FStr
import KE.GoesComp
import KE.KAsSuite
import KE.IntTextLaws
import PyProof.MaxThree
import PyProof.Rows.StrJoinMade
import PyProof.Rows.StrMeet
import HandS.Deep
import PySem.Challenge.RW_timestretch_k12_read
set_option Elab.async false
set_option linter.all false
set_option maxRecDepth 100000
set_option maxHeartbeats 4000000
/-! The common ground of the proofs: readings step by step, heaps that only grow. -/
namespace Ts
open PySem PySem.Spec PyProof.Rows L2
section
variable {σ : L2.St} {H H1 H2 : Hp} {Q : VK} {QA : List V → Hp → Prop} {QB : Bool → Hp → Prop} {ta tb te tx : TE} {tt tu : TT} {tr : TA} {v x y : V} {i j : Int} {n : Nat} {D : Ends} {t u : TS} {K : PySem.W.Frag} {r : R2}

/-! ### heaps -/
theorem same_upd {p : Addr} {o : HO} (h : H p = none) : Same H (upd H p o) := fun b z e => by
  rw [upd_ne (ne_of_none e h)]
  exact e
theorem same_get {a : Addr} {o : HO} (s : Same H H1) (h : H a = some o) : H1 a = some o := s a o h
theorem same_step (s : Same H1 H2) (h : Same H H1) : Same H H2 := h.trans s
theorem Same.sqT {a : Addr} {xs : List V} (e : Same H H1) (h : SqT K H a xs) : SqT K H1 a xs := by
  rcases h with (h | ⟨o, h⟩) | h
  · exact .inl (.inl (e _ _ h))
  · exact .inl (.inr ⟨o, e _ _ h⟩)
  · exact .inr h
/-- an object that H does not know may change -/
theorem same_mut {p : Addr} {o : HO} (s : Same H H1) (h : H p = none) : Same H (upd H1 p o) := fun b z e => by
  rw [upd_ne (ne_of_none e h)]
  exact s b z e
theorem sqL_of {a : Addr} {xs : List V} (h : H a = some (.lst xs)) : SqL K H a xs := .inl (.inl h)
theorem sqT_of {a : Addr} {xs : List V} (h : H a = some (.tup xs)) : SqT K H a xs := .inl (.inl h)
theorem size_of (h : n ≤ 1000000) : n ≤ sizeLine := Nat.le_trans h (by rw [sizeLine_eq]; decide)
theorem size_lt (h : n < 1000000) : n < sizeLine := Nat.lt_of_lt_of_le h (by rw [sizeLine_eq]; decide)

/-! ### values -/
theorem q_var {k : Nat} (h : σ[k]? = some (some v)) (q : Q v H) : tVar k σ H Q := ⟨v, h, q⟩
theorem q_c (q : Q v H) : tC v σ H Q := q
theorem q_op (q : ta σ H fun x H1 => tb σ H1 fun y H2 => r x y H2 Q) : tOp r ta tb σ H Q := q
theorem q_un {f : V → Hp → VK → Prop} (q : ta σ H fun x H1 => f x H1 Q) : tUn f ta σ H Q := q
theorem q_rU {g : Int → V} (q : Q (g i) H) : rU g (.int i) H Q := ⟨i, rfl, q⟩
theorem q_I0 {g : Int → Int → V} (q : Q (g i j) H) : rI0 g (.int i) (.int j) H Q := ⟨i, j, rfl, rfl, q⟩
theorem q_mod (h : 0 < j) (q : Q (.int (i % j)) H) : rI (fun _ j => 0 < j) (fun i j => .int (i % j)) (.int i) (.int j) H Q := ⟨i, j, rfl, rfl, h, q⟩
theorem q_fdiv (h : 0 < j ∧ j < 1073741824) (q : Q (.int (i / j)) H) : rI CDiv (fun i j => .int (i / j)) (.int i) (.int j) H Q := ⟨i, j, rfl, rfl, h, q⟩
theorem q_mulL (h : -18446744073709551616 < i ∧ i < 18446744073709551616) (q : Q (.int (i * j)) H) : rI CMul (fun i j => .int (i * j)) (.int i) (.int j) H Q := ⟨i, j, rfl, rfl, .inl (by simpa using h), q⟩
theorem q_mulR (h : -18446744073709551616 < j ∧ j < 18446744073709551616) (q : Q (.int (i * j)) H) : rI CMul (fun i j => .int (i * j)) (.int i) (.int j) H Q := ⟨i, j, rfl, rfl, .inr (by simpa using h), q⟩
theorem q_pow12 (q : Q (.int 1000000000000) H) : rI CPow (fun i j => .int (i ^ j.toNat)) (.int 10) (.int 12) H Q := ⟨10, 12, rfl, rfl, ⟨by decide, by decide, by decide⟩, q⟩
theorem q_pow24 (q : Q (.int 1000000000000000000000000) H) : rI CPow (fun i j => .int (i ^ j.toNat)) (.int 10) (.int 24) H Q := ⟨10, 24, rfl, rfl, ⟨by decide, by decide, by decide⟩, q⟩
theorem q_pow40 (q : Q (.int 10000000000000000000000000000000000000000) H) : rI CPow (fun i j => .int (i ^ j.toNat)) (.int 10) (.int 40) H Q := ⟨10, 40, rfl, rfl, ⟨by decide, by decide, by decide⟩, q⟩
theorem q_eqI (q : Q (.bl (decide (i = j))) H) : rEq (.int i) (.int j) H Q := ⟨rfl, by
  have e : decide (V.int i = V.int j) = decide (i = j) := by simp
  rw [e]
  exact q⟩
theorem q_neI (q : Q (.bl (!decide (i = j))) H) : rNe (.int i) (.int j) H Q := ⟨rfl, by
  have e : decide (V.int i = V.int j) = decide (i = j) := by simp
  rw [e]
  exact q⟩
theorem q_eqS {a b : Str} (q : Q (.bl (decide (a = b))) H) : rEq (.str a) (.str b) H Q := ⟨rfl, by
  have e : decide (V.str a = V.str b) = decide (a = b) := by simp
  rw [e]
  exact q⟩
theorem q_neS {a b : Str} (q : Q (.bl (!decide (a = b))) H) : rNe (.str a) (.str b) H Q := ⟨rfl, by
  have e : decide (V.str a = V.str b) = decide (a = b) := by simp
  rw [e]
  exact q⟩
theorem q_eqB {a b : Bool} (q : Q (.bl (decide (a = b))) H) : rEq (.bl a) (.bl b) H Q := ⟨rfl, by
  have e : decide (V.bl a = V.bl b) = decide (a = b) := by simp
  rw [e]
  exact q⟩
theorem q_neB {a b : Bool} (q : Q (.bl (!decide (a = b))) H) : rNe (.bl a) (.bl b) H Q := ⟨rfl, by
  have e : decide (V.bl a = V.bl b) = decide (a = b) := by simp
  rw [e]
  exact q⟩
theorem q_cons (q : ta σ H fun x H1 => tr σ H1 fun xs H2 => QA (x :: xs) H2) : tCons ta tr σ H QA := q
theorem q_nil (q : QA [] H) : tNil σ H QA := q
theorem q_tup (q : tr σ H fun xs H1 => xs.length ≤ sizeLine ∧ ∀ p, H1 p = none → Q (.ref p) (upd H1 p (.tup xs))) : tTup tr σ H Q := q
theorem q_lst (q : tr σ H fun xs H1 => xs.length ≤ sizeLine ∧ ∀ p, H1 p = none → Q (.ref p) (upd H1 p (.lst xs))) : tLst tr σ H Q := q
theorem q_call {sp : Sp} {dvs : List V} {E : XK} (q : tr σ H fun vs H1 => sp (vs ++ dvs) H1 Q E) : tCall sp dvs E tr σ H Q := q
theorem q_callS {sp : Sp} {E : L2.St → XK} (q : tr σ H fun vs H1 => sp vs H1 Q (E σ)) : tCallS sp E tr σ H Q := q
theorem q_CB {f : List V → Hp → VK → Prop} (q : tr σ H fun vs H1 => f vs H1 Q) : tCB f tr σ H Q := q
theorem q_ixL {p : Addr} {xs : List V} (h : SqL K H p xs) (a : atI xs i = some v) (q : Q v H) : rIxL K (.ref p) (.int i) H Q := ⟨p, xs, i, v, rfl, rfl, h, a, q⟩
theorem q_ixT {p : Addr} {xs : List V} (h : SqT K H p xs) (a : atI xs i = some v) (q : Q v H) : rIxT K (.ref p) (.int i) H Q := ⟨p, xs, i, v, rfl, rfl, h, a, q⟩
theorem atI_mem {xs : List V} (h0 : 0 ≤ i) (h1 : i < xs.length) : ∃ v, v ∈ xs ∧ atI xs i = some v := by
  obtain ⟨k, rfl⟩ : ∃ k : Nat, i = (k : Int) := ⟨i.toNat, by omega⟩
  have hk : k < xs.length := by omega
  exact ⟨xs[k], List.getElem_mem hk, atI_nat (List.getElem?_eq_getElem hk)⟩
/-- an item of a list at an index that lies in it: one of its items -/
theorem q_ixAny {p : Addr} {xs : List V} (h : SqL K H p xs) (h0 : 0 ≤ i) (h1 : i < xs.length) (q : ∀ v, v ∈ xs → Q v H) : rIxL K (.ref p) (.int i) H Q := by
  obtain ⟨v, m, a⟩ := atI_mem (xs := xs) h0 h1
  exact q_ixL h a (q v m)

/-! ### tests -/
theorem q_test (q : te σ H fun x H' => ∃ k, x = .bl k ∧ QB k H') : tTest te σ H QB := q
theorem q_tB (q : te σ H fun x H' => ∃ k, x = .bl k ∧ QB k H') : tB te σ H QB := q
theorem q_not (q : tt σ H fun c H1 => QB (!c) H1) : tNot tt σ H QB := q
theorem q_and (q : tt σ H fun c H1 => if c = true then tu σ H1 QB else QB false H1) : tAnd tt tu σ H QB := q
theorem q_or (q : tt σ H fun c H1 => if c = true then QB true H1 else tu σ H1 QB) : tOr tt tu σ H QB := q
theorem q_andV (q : ta σ H fun x H1 => ∃ c, x = .bl c ∧ if c = true then tb σ H1 Q else Q (.bl false) H1) : tAndV ta tb σ H Q := q
theorem q_orV (q : ta σ H fun x H1 => ∃ c, x = .bl c ∧ if c = true then Q (.bl true) H1 else tb σ H1 Q) : tOrV ta tb σ H Q := q
theorem q_notV (q : ta σ H fun x H1 => ∃ c, x = .bl c ∧ Q (.bl (!c)) H1) : tNotV ta σ H Q := q
theorem q_ifE (q : tt σ H fun c H1 => if c = true then ta σ H1 Q else tb σ H1 Q) : tIf tt ta tb σ H Q := q
theorem q_bl {b : Bool} {P : Bool → Prop} (q : P b) : ∃ k, V.bl b = .bl k ∧ P k := ⟨b, rfl, q⟩
theorem q_iteD {p A B : Prop} [Decidable p] (h1 : p → A) (h2 : ¬ p → B) : if decide p = true then A else B := by
  by_cases h : p
  · rw [decide_eq_true h]; exact iteT (h1 h)
  · rw [decide_eq_false h]; exact iteF (h2 h)
theorem q_iteN {p A B : Prop} [Decidable p] (h1 : ¬ p → A) (h2 : p → B) : if (!decide p) = true then A else B := by
  by_cases h : p
  · rw [decide_eq_true h]; exact iteF (h2 h)
  · rw [decide_eq_false h]; exact iteT (h1 h)
theorem q_iteB {b : Bool} {A B : Prop} (h1 : b = true → A) (h2 : b = false → B) : if b = true then A else B := by
  cases b
  · exact iteF (h2 rfl)
  · exact iteT (h1 rfl)
theorem q_iteT {A B : Prop} (h1 : A) : if true = true then A else B := iteT h1
theorem q_iteNT {A B : Prop} (h1 : B) : if (!true) = true then A else B := iteF h1
theorem q_iteNF {A B : Prop} (h1 : A) : if (!false) = true then A else B := iteT h1
theorem q_iteF {A B : Prop} (h1 : B) : if false = true then A else B := iteF h1

/-! ### statements -/
variable {nx bk ct : L2.St → Hp → Prop} {rt : VK}
theorem q_seq (q : t ⟨u ⟨nx, rt, bk, ct⟩, rt, bk, ct⟩ σ H) : tSeq t u ⟨nx, rt, bk, ct⟩ σ H := q
theorem q_next (q : nx σ H) : tNext ⟨nx, rt, bk, ct⟩ σ H := q
theorem q_set {k : Nat} (q : te σ H fun x H1 => nx (σ.set k (some x)) H1) : tAsg te (gName k) ⟨nx, rt, bk, ct⟩ σ H := q
theorem q_asg {g : TG} (q : te σ H fun x H1 => g x σ H1 nx) : tAsg te g ⟨nx, rt, bk, ct⟩ σ H := q
theorem q_ret (q : te σ H rt) : tRet te ⟨nx, rt, bk, ct⟩ σ H := q
theorem q_retN (q : rt .non H) : tRetN ⟨nx, rt, bk, ct⟩ σ H := q
theorem q_drop (q : te σ H fun _ H1 => nx σ H1) : tDrop te ⟨nx, rt, bk, ct⟩ σ H := q
theorem q_ifS (q : tt σ H fun b H1 => if b = true then t ⟨nx, rt, bk, ct⟩ σ H1 else u ⟨nx, rt, bk, ct⟩ σ H1) : tIfS tt t u ⟨nx, rt, bk, ct⟩ σ H := q
theorem iteD_yes {p A B : Prop} [Decidable p] (h : p) (a : A) : if decide p = true then A else B := by
  rw [decide_eq_true h]; exact iteT a
theorem iteD_no {p A B : Prop} [Decidable p] (h : ¬ p) (a : B) : if decide p = true then A else B := by
  rw [decide_eq_false h]; exact iteF a
theorem iteN_yes {p A B : Prop} [Decidable p] (h : ¬ p) (a : A) : if (!decide p) = true then A else B := by
  rw [decide_eq_false h]; exact iteT a
theorem iteN_no {p A B : Prop} [Decidable p] (h : p) (a : B) : if (!decide p) = true then A else B := by
  rw [decide_eq_true h]; exact iteF a
end
/-- the i-th of a written list of slots -/
theorem q_slot {σ : L2.St} {k : Nat} {v : V} (h : σ[k]? = some (some v)) : σ[k]? = some (some v) := h
end Ts

/-! Defs as they stand, own error classes, a def that is handed the error that is held. -/
namespace Ts
open PySem PySem.Spec PyProof.Rows L2
/-- a def of the text, without defaults -/
structure Def (K : PySem.W.Frag) (nm qual : Str) (st : Stmt) (ps : List Str) (f : Addr) (fd : FuncData) : Prop where
  F : Fun K nm qual st f fd
  b : Binds K fd ps []
/-- a def that may raise, called where it does not -/
theorem pass_never {X : Cx} : Passes (L2.CX X.prog X.w) X E0 := fun _ _ _ _ _ _ _ h => by
  obtain ⟨_, _, _, _, _, _, _, _, _, _, _, _, z⟩ := h
  exact z.elim
/-- an own error class below StretchError -/
structure ExK (K : PySem.W.Frag) (C : Addr) : Prop where
  x : PySem.W.excIn K C [.type "ValueError", .type "Exception", .type "BaseException", .type "object"] "ValueError.__new__" = true
  kp : PySem.W.keepIn K (.ref C) = true
  tp : PySem.W.typeIn K (.ref C) = some (.type "type")
  c : ExcC K C
theorem ExK.mk' {X : Cx} {C : Addr} (T : ExK X.K C) {x m : Str} {j : Nat} {p p2 pos : Pos} (gC : X.mg x = some (.ref C)) (hg : Gl X x) (hdb : (x == ("__debug__" : Str)) = false := by decide) :
    PMk X (.Call (.Name x p) [.Constant (.str m) j p2] [] pos) (fun _ H Q => Q (.ref C) none H) :=
  pmk_own PySem.F.excBase_ValueError T.x gC T.kp (raises_own T.c.hs T.tp) hg hdb

section
variable {P : Program} {w : World} {K : PySem.W.Frag} {mg : Str → Option Value} {base : Heap}
/-- what a def with one parameter gives when it is handed the held error: G by the error's class -/
structure FnE (P : Program) (w : World) (K : PySem.W.Frag) (mg : Str → Option Value) (base : Heap) (k : Nat) (f : Addr) (fd : FuncData) (x : Str) (G : Value → Hp → VK → Prop) : Prop where
  run : ∀ (A : Around) (outer : List Env) (s : Shared) (H : Hp) (args : Args) (Q : VK) (a : Addr) (oe : Obj) (cls : Value), L2H.RoomH k A → L2H.PinOk outer H s (a, oe) → Zc cls none oe → (∃ vs, oe.data = .fields vs) →
    Env0 P w K mg base A outer s H → BindsTo s fd args [(x, .ref a)] → G cls H Q → codeAny (model P w) A (.call (.ref f) args) (CR CX0 outer P w H s Q E0) s
theorem Fun.okE {x qual y : Str} {st : Stmt} {f : Addr} {fd : FuncData} {N : List Str} {k : Nat} {G : Value → Hp → VK → Prop} (F : Fun K x qual st f fd) (S : FnScope N [y] (defScope st))
    (hbody : ∀ (cdv : Value) (A : Around) (outer : List Env) (s : Shared) (H : Hp) (Q : VK) (a : Addr) (oe : Obj) (cls : Value), L2H.RoomH k (A.deeper (envOfC qual (defScope st) s.heap.objs.size f cdv)) → Zc cls none oe → (∃ vs, oe.data = .fields vs) → G cls H Q →
      ∃ t, PSs (L2H.cxH CX0 P w K mg base N qual (defScope st) f cdv A outer s H E0 (a, oe)) (defBody st) t ∧ t { nx := fun _ H' => Q .non H', rt := Q } (start N [.ref a]) H) : FnE P w K mg base (k + 1) f fd y G := by
  obtain ⟨oc, od, kV, doc, pm, an, cdv, ct, osl, rfl, lk, hcd⟩ := F.ex
  refine ⟨fun A outer s H args Q a oe cls hr hpin hz hf e0 hb hG => ?_⟩
  have inK : K.In s.heap := e0.mod.kin.keeps fun b o e => (e0.bs b o e).1
  have lim : s.heap.NoLimit := e0.mod.nolimit.keeps fun b o e => (e0.bs b o e).1
  have par : ∀ z ∈ [y].zip [Value.ref a], (defScope st).names.lookup z.1 = some .local ∨ ((defScope st).names.lookup z.1 = some .cell ∧
      ((cellsFrom (s.heap.objs.size + 1) (defScope st).names []).lookup z.1).isSome = true) := by
    rintro ⟨n, v⟩ hz'
    rcases S.par n (List.of_mem_zip hz').1 with q | q
    · exact .inl q
    · exact .inr ⟨q, PySem.W.cellsFrom_some _ _ _ (.inl q)⟩
  refine codeAny_call_function hr.depth (inK _ _ lk) rfl S.co S.gen rfl (PySem.W.codeRec_of inK hcd) (hb _ _ _ _ ?_)
  refine wpAny_newFunctionEnv_cells S.kind par fun env he s1 x1 => ?_
  subst he
  refine ⟨lim.keeps x1.toInCall.keep, codeAny_func ?_⟩
  obtain ⟨t, ht, hq⟩ := hbody cdv A outer s H Q a oe cls (hr.deeper _) hz hf hG
  have rv : Vals [V.ref a] [Value.ref a] := .cons rfl .nil
  have I := L2H.inv_startH (CX := CX0) (E := E0) (f := f) (cd := cdv) (qual := qual) S hpin e0 (vs := [V.ref a]) rfl rv x1
  refine wpAny_mono (ht.run [] s1 (start N [.ref a]) H _ I hq) (fun fl s' hs => ?_) fun e s' hs => hs
  cases fl with
  | ret u =>
    obtain ⟨v, σ', H', J, r1, q⟩ := hs
    exact ⟨v, H', J.os, J.bare, J.base, J.hok, r1, q⟩
  | next =>
    obtain ⟨σ', H', J, q⟩ := hs
    exact ⟨V.non, H', J.os, J.bare, J.base, J.hok, rfl, q⟩
  | brk =>
    obtain ⟨_, _, _, q⟩ := hs
    exact q.elim
  | cont =>
    obtain ⟨_, _, _, q⟩ := hs
    exact q.elim
/-- f(n) in a suite, n the held error's name -/
theorem pe_callE {X : Cx} {a : Addr} {oe : Obj} {cls : Value} {d : Option Addr} {k i : Nat} {f : Addr} {fd : FuncData} {x y n : Str} {G : Value → Hp → VK → Prop} {p p2 pos : Pos} (F : FnE X.prog X.w X.K X.mg X.base k f fd y G) (hr : L2H.RoomH k X.A) (hp : (a, oe) ∈ X.pn)
    (hz : Zc cls d oe) (hf : ∃ vs, oe.data = .fields vs) (hg : Gl X x) (hm : X.mg x = some (.ref f)) (hk : PySem.W.keepIn X.K (.ref f) = true) (hb : Binds X.K fd [y] []) (hn : PE X (.Name n p2) (tVar i)) (hdb : (x == ("__debug__" : Str)) = false := by decide)
    (he : starEach [.Name n p2] X.env = (false, eval (.Name n p2) X.env) :: starEach [] X.env := by rfl) (hpl : (backTo pos (starEach [] X.env)).any (·.1) = false := by rfl) :
    PE X (.Call (.Name x p) [.Name n p2] [] pos) (fun σ H Q => σ[i]? = some (some (.ref a)) ∧ d = none ∧ G cls H Q) := by
  refine ⟨fun pins s σ H Q I h => ?_⟩
  obtain ⟨hi, rfl, hG⟩ := h
  refine wpAny_Call_Name_kw (ld_glob I hg hm ?_ hdb)
  have ha : PA X [.Name n p2] (tCons (tVar i) tNil) := pa_cons hn pa_nil he
  refine PySem.W.callWith_K (h₀ := X.base) I.ok.mod.kin hk (thn (ha.run pos pins s σ H (fun vs H1 => vs = [V.ref a] ∧ H1 = H) I ⟨_, hi, rfl, rfl⟩) fun us s1 hh => ?_) he hpl
  obtain ⟨vs, H1, I1, r, rfl, rfl⟩ := hh
  refine ⟨I1.kIn, ?_⟩
  cases r with
  | cons ru rn =>
    cases rn
    cases ru
    have P1 := I1.pin (a, oe) (List.mem_append_left _ hp)
    have hpin : L2H.PinOk X.stack H1 s1 (a, oe) := ⟨P1.1, P1.2.1, fun hm => (List.mem_cons.mp (I1.stkSub a hm)).elim P1.2.2.1 P1.2.2.2.1, P1.2.2.2.2⟩
    refine wpAny_call (codeAny_mono (F.run X.A X.stack s1 H1 ⟨[.ref a], []⟩ Q a oe cls hr hpin hz hf I1.env0 (hb s1 [.ref a] I1.kIn rfl) hG) fun r s' hq => ?_)
    cases r with
    | error e => exact False.elim hq
    | ok fl =>
      cases fl with
      | ret u => exact I1.after hq
      | next => exact False.elim hq
      | brk => exact False.elim hq
      | cont => exact False.elim hq
/-- isinstance(e, C), e a held error of the class at D -/
theorem call_isP {X : Cx} {a D : Addr} {oe : Obj} (hp : (a, oe) ∈ X.pn) (C : ExcC X.K D) (hz : Zc (.ref D) none oe) (hf : ∃ vs, oe.data = .fields vs) : CallR X (.builtin "isinstance") (rIsE X.K D a) := by
  intro pins s σ H xs us Q I r h
  obtain ⟨c, cv, b, rfl, hcv, e, q⟩ := h
  cases r with
  | cons rx rr =>
    cases rr with
    | cons rt rr =>
      cases rr
      cases rx
      cases hcv _ rt
      have g := (I.pin (a, oe) (List.mem_append_left _ hp)).1
      obtain ⟨vs, hv⟩ := hf
      have J : PySem.W.InstAt s.heap a oe D none := by
        obtain ⟨c1, d1, dt, sl⟩ := oe
        obtain ⟨h1, h2⟩ := hz
        dsimp only at h1 h2 hv
        subst h1 h2 hv
        exact ⟨g, rfl, rfl, trivial⟩
      exact PySem.W.kia_one (PySem.W.handS_kitx_exc C.hg C.hk C.hs C.hd C.ha C.hn C.ht C.hm) I.kIn J e (fun z => nomatch z) fun tk => ⟨.bl b, H, I.kept (t' := tk) fun _ _ z => z, rfl, q⟩
end
theorem cls_own {K : PySem.W.Frag} {t : Value} {C : Addr} {b : Bool} (h1 : PySem.W.isClsIn K C = true) (h2 : PySem.W.typeIn K (.ref C) = some (.type "type")) (h3 : PySem.W.subIn K t (.ref C) = some b) : PySem.W.kitCls K t (.ref C) = some b := by
  have e : ((PySem.W.clsIn K C).isSome && PySem.W.typeIn K (.ref C) == some (.type "type")) = true := by
    have h1' : (PySem.W.clsIn K C).isSome = true := h1
    rw [h1', h2]
    rfl
  show (if ((PySem.W.clsIn K C).isSome && PySem.W.typeIn K (.ref C) == some (.type "type")) = true then PySem.W.subIn K t (.ref C) else none) = some b
  rw [if_pos e]
  exact h3
theorem exm_own {K : PySem.W.Frag} {t : Value} {C : Addr} {b : Bool} (h0 : PySem.W.subIn K (.ref C) (.type "BaseException") = some true) (h1 : PySem.W.isClsIn K C = true) (h2 : PySem.W.typeIn K (.ref C) = some (.type "type")) (h3 : PySem.W.subIn K t (.ref C) = some b) : PySem.W.exmOne K t (.ref C) = some b := by
  have e : (PySem.W.subIn K (.ref C) (.type "BaseException") == some true) = true := by
    rw [h0]
    rfl
  show (if (PySem.W.subIn K (.ref C) (.type "BaseException") == some true) = true then PySem.W.kitCls K t (.ref C) else none) = some b
  rw [if_pos e]
  exact cls_own h1 h2 h3
theorem kit_self {K : PySem.W.Frag} {v : Value} : PySem.W.kitOne K v v = some true := if_pos (beq_self_eq_true v)
theorem kit_no {K : PySem.W.Frag} {D C : Addr} (s1 : PySem.W.subIn K (.ref D) (.ref D) = some true) (s0 : PySem.W.subIn K (.ref D) (.ref C) = some false) (h1 : PySem.W.isClsIn K C = true) (h2 : PySem.W.typeIn K (.ref C) = some (.type "type")) : PySem.W.kitOne K (.ref D) (.ref C) = some false := by
  have ne : ¬ ((Value.ref D == Value.ref C) = true) := fun q => by
    have e := beq_iff_eq.mp q
    rw [e, ← e, e] at s0
    rw [e] at s1
    rw [s1] at s0
    cases s0
  show (if (Value.ref D == Value.ref C) = true then some true else PySem.W.kitCls K (.ref D) (.ref C)) = some false
  rw [if_neg ne]
  exact cls_own h1 h2 s0
theorem kit_bt {K : PySem.W.Frag} {D : Addr} {n : String} {b : Bool} (s : PySem.W.subIn K (.ref D) (.type n) = some b) (h : PySem.W.kitMeta n = true) : PySem.W.kitOne K (.ref D) (.type n) = some b := by
  show (if (Value.ref D == Value.type n) = true then some true else if PySem.W.kitMeta n = true then PySem.W.subIn K (.ref D) (.type n) else none) = some b
  rw [if_neg (by simp), if_pos h]
  exact s
end Ts

/-! Further rules of one operation; the walk's own small steps. -/
namespace Ts
open PySem PySem.Spec PyProof.Rows L2
/-- list.count of a flat value in a list of flat values -/
def rCountF (K : PySem.W.Frag) : V → List V → Hp → VK → Prop := fun x xs H Q => ∃ (p : Addr) (ys : List V) (y : V), x = .ref p ∧ xs = [y] ∧ SqL K H p ys ∧ flatV y = true ∧ ys.all flatV = true ∧ Q (.int (ys.countP (fun z => eqV z y) : Nat)) H
theorem countP_eqU {x : V} : ∀ {xs : List V} {us : List Value}, Vals xs us → xs.all flatV = true → us.countP (eqU x) = xs.countP fun y => eqV y x
  | _, _, .nil, _ => rfl
  | y :: xs, u :: us, .cons r t, f => by
    rw [List.all_cons, Bool.and_eq_true] at f
    rw [List.countP_cons, List.countP_cons, eqU_of r f.1, countP_eqU t f.2]
theorem mt_countB {X : Cx} : MtR X "list.count" (rCountF X.K) := by
  intro pins s σ H x xs v us Q I rx rxs h
  obtain ⟨p, ys, y, rfl, rfl, hs, fy, fys, q⟩ := h
  cases rx
  obtain ⟨u, rfl, ru⟩ := rxs.one
  obtain ⟨its, rv, ⟨⟨cls, dd, data, sl⟩, n, ho, hc, hdn, hd⟩, hlen⟩ := I.list hs
  simp only at hc hd
  subst hc hd
  refine call_meets PySem.F.slot_list_count ⟨_, ho, rfl⟩ PySem.F.entry_list_count (PySem.F.args_list_count_2 _ _)
    (SeqAt.list_countAt p its.toArray n dd sl u (eqU y)) ⟨ho, fun w hw => mem_eqAt ru fy rv fys w (by simpa using hw), ?_⟩
  have e := countP_eqU (x := y) rv fys
  refine ⟨.int (ys.countP (fun z => eqV z y) : Nat), H, I.tok _, ⟨s.toks, ?_⟩, q⟩
  show Value.int ((its.countP (eqU y) : Nat) : Int) s.toks = Value.int ((ys.countP (fun z => eqV z y) : Nat) : Int) s.toks
  rw [e]
def rLen (K : PySem.W.Frag) : List V → Hp → VK → Prop := fun xs H Q => ∃ x n, xs = [x] ∧ LenV K x H n ∧ Q (.int (n : Nat)) H
theorem call_len' {X : Cx} : CallR X (.builtin "len") (rLen X.K) := call_len
def rMax2 : List V → Hp → VK → Prop := fun xs H Q => ∃ i j, xs = [.int i, .int j] ∧ Q (.int (if j > i then j else i)) H
def rMin2 : List V → Hp → VK → Prop := fun xs H Q => ∃ i j, xs = [.int i, .int j] ∧ Q (.int (if j < i then j else i)) H
theorem call_max2' {X : Cx} (hc : X.calm = true) : CallR X (.builtin "max") rMax2 := call_max2 hc
theorem call_min2' {X : Cx} (hc : X.calm = true) : CallR X (.builtin "min") rMin2 := call_min2 hc
def rInt1 : List V → Hp → VK → Prop := fun xs H Q => (∃ i, xs = [.int i] ∧ Q (.int i) H) ∨ ∃ k, xs = [.bl k] ∧ Q (.int (if k then 1 else 0)) H
theorem call_int1' {X : Cx} : CallR X (.type "int") rInt1 := call_int1
def rListOf (K : PySem.W.Frag) : List V → Hp → VK → Prop := fun xs H Q => ∃ p ys, xs = [.ref p] ∧ (SqL K H p ys ∨ SqT K H p ys) ∧ ∀ l, H l = none → Q (.ref l) (upd H l (.lst ys))
theorem call_list' {X : Cx} : CallR X (.type "list") (rListOf X.K) := call_list_of
/-! ### the rules with the written part by its own name -/
section
variable {X : Cx} {tg : Expr} {pos : Pos}
theorem ix_listK (K : PySem.W.Frag) (h : X.K = K := by rfl) : IxR X (rIxL K) := by subst h; exact ix_list
theorem ix_tupK (K : PySem.W.Frag) (h : X.K = K := by rfl) : IxR X (rIxT K) := by subst h; exact ix_tup
theorem call_lenK (K : PySem.W.Frag) (h : X.K = K := by rfl) : CallR X (.builtin "len") (rLen K) := by subst h; exact call_len'
theorem call_isiK' (K : PySem.W.Frag) (h : X.K = K := by rfl) : CallR X (.builtin "isinstance") (rIsi K) := by subst h; exact call_isi
theorem op_eqK (K : PySem.W.Frag) (hu : X.A.units + 64 < cLine) (h : X.K = K := by rfl) : OpR X (compareOp .Eq) (rEqD K) := by subst h; exact op_eqD hu
theorem op_neK (K : PySem.W.Frag) (hu : X.A.units + 64 < cLine) (h : X.K = K := by rfl) : OpR X (compareOp .NotEq) (rNeD K) := by subst h; exact op_neD hu
theorem cr_sortedK (K : PySem.W.Frag) (h : X.K = K := by rfl) : CallR X (.builtin "sorted") (rSortedI K) := by subst h; exact cr_sortedI
theorem cr_maxK (K : PySem.W.Frag) (hc : X.calm = true) (h : X.K = K := by rfl) : CallR X (.builtin "max") (rMax K) := by subst h; exact cr_max hc
theorem cr_minK (K : PySem.W.Frag) (hc : X.calm = true) (h : X.K = K := by rfl) : CallR X (.builtin "min") (rMin K) := by subst h; exact cr_min hc
theorem call_listK (K : PySem.W.Frag) (h : X.K = K := by rfl) : CallR X (.type "list") (rListOf K) := by subst h; exact call_list'
theorem op_inK (K : PySem.W.Frag) (h : X.K = K := by rfl) : OpR X (compareOp .In) (rIn K false) := by subst h; exact op_in_seq
theorem op_notInK (K : PySem.W.Frag) (h : X.K = K := by rfl) : OpR X (compareOp .NotIn) (rIn K true) := by subst h; exact op_notIn_seq
theorem sl_listK (K : PySem.W.Frag) (h : X.K = K := by rfl) : SlR X (rSlL K) := by subst h; exact sl_list
theorem mt_countK (K : PySem.W.Frag) (h : X.K = K := by rfl) : MtR X "list.count" (rCountF K) := by subst h; exact mt_countB
theorem mt_indexK (K : PySem.W.Frag) (h : X.K = K := by rfl) : MtR X "list.index" (rIndex K) := by subst h; exact mt_index
theorem pi_listK (K : PySem.W.Frag) {l : Expr} {tl : TE} (hl : PE X l tl) (h : X.K = K := by rfl) : PI X tg l (iList K tl) := by subst h; exact pi_list hl
theorem pi_tupK (K : PySem.W.Frag) {l : Expr} {tl : TE} (hl : PE X l tl) (h : X.K = K := by rfl) : PI X tg l (iTup K tl) := by subst h; exact pi_tup hl
theorem pg_tupK (K : PySem.W.Frag) {es : List Expr} {k : Nat} {t : TGs} (n : Nat) (hc : X.calm = true) (hg : PGs X es t) (hn : (assignEach es X.env).length = n := by rfl) (hst : (assignEach es X.env).findIdx? (·.1) = none := by rfl) (h : X.K = K := by rfl) : PG X (.Tuple es k pos) (gTup K n t) := by
  subst h; exact pg_tup hc hg hn hst
theorem pg_lstK (K : PySem.W.Frag) {es : List Expr} {k : Nat} {t : TGs} (n : Nat) (hc : X.calm = true) (hg : PGs X es t) (hn : (assignEach es X.env).length = n := by rfl) (hst : (assignEach es X.env).findIdx? (·.1) = none := by rfl) (h : X.K = K := by rfl) : PG X (.Tuple es k pos) (gLst K n t) := by
  subst h; exact pg_lst hc hg hn hst
end
section
variable {σ : L2.St} {H H1 H2 : Hp} {Q : VK} {K : PySem.W.Frag} {v : V} {i j : Int}
theorem q_lenL {a : Addr} {xs : List V} (h : SqL K H a xs) (q : Q (.int (xs.length : Nat)) H) : rLen K [.ref a] H Q := ⟨_, _, rfl, .inl ⟨xs, h, rfl⟩, q⟩
theorem q_lenT {a : Addr} {xs : List V} (h : SqT K H a xs) (q : Q (.int (xs.length : Nat)) H) : rLen K [.ref a] H Q := ⟨_, _, rfl, .inr ⟨xs, h, rfl⟩, q⟩
theorem q_lenS {z : Str} (h : z.length ≤ sizeLine) (q : Q (.int (z.length : Nat)) H) : rLen K [.str z] H Q := ⟨_, _, rfl, ⟨h, rfl⟩, q⟩
theorem q_max2 (q : ∀ z : Int, i ≤ z → j ≤ z → (z = i ∨ z = j) → Q (.int z) H) : rMax2 [.int i, .int j] H Q := ⟨i, j, rfl, q _ (by split <;> omega) (by split <;> omega) (by split <;> simp)⟩
theorem q_min2 (q : ∀ z : Int, z ≤ i → z ≤ j → (z = i ∨ z = j) → Q (.int z) H) : rMin2 [.int i, .int j] H Q := ⟨i, j, rfl, q _ (by split <;> omega) (by split <;> omega) (by split <;> simp)⟩
theorem q_intI (q : Q (.int i) H) : rInt1 [.int i] H Q := .inl ⟨i, rfl, q⟩
theorem q_intB {b : Bool} (q : ∀ z : Int, 0 ≤ z → z ≤ 1 → (b = true → z = 1) → (b = false → z = 0) → Q (.int z) H) : rInt1 [.bl b] H Q := .inr ⟨b, rfl, by
  cases b
  · exact q 0 (by decide) (by decide) (fun h => nomatch h) (fun _ => rfl)
  · exact q 1 (by decide) (by decide) (fun _ => rfl) (fun h => nomatch h)⟩
theorem q_isNN (q : Q (.bl true) H) : rIsN .non .non H Q := ⟨rfl, q⟩
theorem q_isNI (q : Q (.bl false) H) : rIsN (.int i) .non H Q := ⟨rfl, q⟩
theorem q_isNR {a : Addr} (q : Q (.bl false) H) : rIsN (.ref a) .non H Q := ⟨rfl, q⟩
theorem q_notNN (q : Q (.bl false) H) : rNotN .non .non H Q := ⟨rfl, q⟩
theorem q_notNI (q : Q (.bl true) H) : rNotN (.int i) .non H Q := ⟨rfl, q⟩
theorem q_notNR {a : Addr} (q : Q (.bl true) H) : rNotN (.ref a) .non H Q := ⟨rfl, q⟩
theorem q_blT {p : Prop} [Decidable p] (h : p) (q : Q (.bl true) H) : Q (.bl (decide p)) H := by
  rw [decide_eq_true h]
  exact q
theorem at0 {xs : List V} (h : xs[0]? = some v) : atI xs 0 = some v := atI_nat (j := 0) h
theorem at1 {xs : List V} (h : xs[1]? = some v) : atI xs 1 = some v := atI_nat (j := 1) h
theorem at2 {xs : List V} (h : xs[2]? = some v) : atI xs 2 = some v := atI_nat (j := 2) h
theorem at3 {xs : List V} (h : xs[3]? = some v) : atI xs 3 = some v := atI_nat (j := 3) h
theorem at4 {xs : List V} (h : xs[4]? = some v) : atI xs 4 = some v := atI_nat (j := 4) h
/-- a list and a list, a new list -/
theorem q_cat {a b : Addr} {xs ys : List V} (h1 : H a = some (.lst xs)) (h2 : H b = some (.lst ys)) (hl : xs.length + ys.length ≤ sizeLine) (q : ∀ p H', Same H H' → H' p = some (.lst (xs ++ ys)) → Q (.ref p) H') : rCat (.ref a) (.ref b) H Q :=
  ⟨a, b, xs, ys, rfl, rfl, h1, h2, hl, fun p hp => q p _ (same_upd hp) upd_same⟩
theorem q_bm {to : TE} {tr : TA} {Ty : String} {r : V → List V → Hp → VK → Prop} (q : to σ H fun x H1 => tyV K Ty x H1 ∧ tr σ H1 fun xs H2 => r x xs H2 Q) : tBM K Ty r to tr σ H Q := q
theorem q_bm0 {to : TE} {Ty : String} {r : V → List V → Hp → VK → Prop} (q : to σ H fun x H1 => tyV K Ty x H1 ∧ r x [] H1 Q) : tBM0 K Ty r to σ H Q := q
/-- == of equal data -/
theorem q_eqSame {x y : V} {d : PyData} (h1 : Dp K H x d) (h2 : Dp K H y d) (hs : SeqAt.shaped d = true) (q : Q (.bl true) H) : rEqD K x y H Q := ⟨d, d, h1, h2, hs, hs, by rw [SeqAt.eqv_refl d (SeqAt.canLay_of_shaped hs)]; exact q⟩
theorem q_neSame {x y : V} {d : PyData} (h1 : Dp K H x d) (h2 : Dp K H y d) (hs : SeqAt.shaped d = true) (q : Q (.bl false) H) : rNeD K x y H Q := ⟨d, d, h1, h2, hs, hs, by rw [SeqAt.eqv_refl d (SeqAt.canLay_of_shaped hs)]; exact q⟩
theorem dp_pair {a : Addr} {x y : Int} (h : H a = some (.tup [.int x, .int y])) : Dp K H (.ref a) (.tuple [.int x, .int y]) := .tup (sqT_of h) (.cons (.int x) (.cons (.int y) .nil))
/-- all items are numbers from lo to hi -/
def AllIn (lo hi : Int) : List V → Prop
  | [] => True
  | .int z :: r => lo ≤ z ∧ z ≤ hi ∧ AllIn lo hi r
  | _ => False
theorem AllIn.at {lo hi : Int} : ∀ {xs : List V}, AllIn lo hi xs → ∀ v, v ∈ xs → ∃ z, v = .int z ∧ lo ≤ z ∧ z ≤ hi
  | .int z :: r, h, v, hv => by
    rcases List.mem_cons.mp hv with rfl | hv
    · exact ⟨z, rfl, h.1, h.2.1⟩
    · exact AllIn.at h.2.2 v hv
theorem q_ixB (lo hi : Int) {p : Addr} {xs : List V} (h : SqL K H p xs) (h0 : 0 ≤ i) (h1 : i < xs.length) (ha : AllIn lo hi xs) (q : ∀ z, lo ≤ z → z ≤ hi → Q (.int z) H) : rIxL K (.ref p) (.int i) H Q :=
  q_ixAny h h0 h1 fun v hv => by
    obtain ⟨z, rfl, z0, z1⟩ := ha.at v hv
    exact q z z0 z1
/-- two numbers sorted -/
theorem q_sort2 {a : Addr} {x y : Int} (h : SqL K H a [.int x, .int y]) (q : ∀ (u v : Int) (p : Addr) (H' : Hp), u ≤ v → ((u = x ∧ v = y) ∨ (u = y ∧ v = x)) → Same H H' → H' p = some (.lst [.int u, .int v]) → Q (.ref p) H') : rSortedI K [.ref a] H Q := by
  refine ⟨a, [x, y], rfl, h, fun ns' p hp hs hn => ?_⟩
  have hl : ns'.length = 2 := hp.length_eq
  match ns', hl with
  | [u, v], _ =>
    have huv : u ≤ v := by
      rw [List.pairwise_cons] at hs
      exact hs.1 v (by simp)
    refine q u v p _ huv ?_ (same_upd hn) upd_same
    have m1 : u ∈ [x, y] := hp.mem_iff.mp (by simp)
    have m2 : v ∈ [x, y] := hp.mem_iff.mp (by simp)
    have m3 : x ∈ [u, v] := hp.mem_iff.mpr (by simp)
    have m4 : y ∈ [u, v] := hp.mem_iff.mpr (by simp)
    simp only [List.mem_cons, List.not_mem_nil, or_false] at m1 m2 m3 m4
    rcases m1 with rfl | rfl
    · rcases m2 with rfl | rfl
      · rcases m4 with rfl | rfl <;> exact .inl ⟨rfl, rfl⟩
      · exact .inl ⟨rfl, rfl⟩
    · rcases m2 with rfl | rfl
      · exact .inr ⟨rfl, rfl⟩
      · rcases m3 with rfl | rfl <;> exact .inr ⟨rfl, rfl⟩
/-- a, b = a list of two -/
theorem q_lst2 {j k : Nat} {p : Addr} {x y : V} {σ : L2.St} {R : L2.St → Hp → Prop} (h : SqL K H p [x, y]) (q : R ((σ.set j (some x)).set k (some y)) H) : gLst K 2 (gCons (gName j) (gCons (gName k) gNil)) (.ref p) σ H R := ⟨p, [x, y], rfl, h, rfl, x, [y], rfl, y, [], rfl, rfl, q⟩
/-- a, b = a tuple of two; five -/
theorem q_tup2 {j k : Nat} {p : Addr} {x y : V} {σ : L2.St} {R : L2.St → Hp → Prop} (h : SqT K H p [x, y]) (q : R ((σ.set j (some x)).set k (some y)) H) : gTup K 2 (gCons (gName j) (gCons (gName k) gNil)) (.ref p) σ H R := ⟨p, [x, y], rfl, h, rfl, x, [y], rfl, y, [], rfl, rfl, q⟩
theorem q_tup5 {j k l m n : Nat} {p : Addr} {x y z u v : V} {σ : L2.St} {R : L2.St → Hp → Prop} (h : SqT K H p [x, y, z, u, v]) (q : R (((((σ.set j (some x)).set k (some y)).set l (some z)).set m (some u)).set n (some v)) H) :
    gTup K 5 (gCons (gName j) (gCons (gName k) (gCons (gName l) (gCons (gName m) (gCons (gName n) gNil))))) (.ref p) σ H R := ⟨p, [x, y, z, u, v], rfl, h, rfl, x, _, rfl, y, _, rfl, z, _, rfl, u, _, rfl, v, [], rfl, rfl, q⟩
theorem q_name {j : Nat} {x : V} {σ : L2.St} {R : L2.St → Hp → Prop} (q : R (σ.set j (some x)) H) : gName j x σ H R := q
/-- a letter stands at a -/
structure Ltr where
  name : Str
  sent : Int
  back : Int
  low : Int
  high : Int
def LtAt (H : Hp) (a : Addr) (L : Ltr) : Prop := H a = some (.tup [.str L.name, .int L.sent, .int L.back, .int L.low, .int L.high])
/-- a pair of numbers stands at a -/
def Pr (H : Hp) (a : Addr) (x y : Int) : Prop := H a = some (.tup [.int x, .int y])
theorem Pr.cong {a : Addr} {x y x' y' : Int} (h : H a = some (.tup [.int x, .int y])) (e1 : x = x') (e2 : y = y') : Pr H a x' y' := by
  subst e1 e2
  exact h
theorem iteN_len {xs : List V} {m : Int} {A B : Prop} (h : ((xs.length : Nat) : Int) = m) (b : B) : if (!decide (((xs.length : Nat) : Int) = m)) = true then A else B := iteN_no h b
theorem q_listOf {a : Addr} {xs : List V} (h : SqL K H a xs) (q : ∀ p H', Same H H' → H' p = some (.lst xs) → Q (.ref p) H') : rListOf K [.ref a] H Q := ⟨a, xs, rfl, .inl h, fun l hl => q l _ (same_upd hl) upd_same⟩
theorem q_isi {x : V} {a b : String} {r : Bool} (hx : TyX K H x (.type a)) (e : kitB a b = some r) (q : Q (.bl r) H) : rIsi K [x, .ty b] H Q := ⟨x, .ty b, _, _, r, rfl, .ty b, hx, kit_ty e, q⟩
theorem q_isi_int_int (q : Q (.bl true) H) : rIsi K [.int i, .ty "int"] H Q := q_isi (.base (.int i)) (by decide +kernel) q
theorem q_isi_int_bool (q : Q (.bl false) H) : rIsi K [.int i, .ty "bool"] H Q := q_isi (.base (.int i)) (by decide +kernel) q
theorem q_isi_str_str {z : Str} (q : Q (.bl true) H) : rIsi K [.str z, .ty "str"] H Q := q_isi (.base (.str z)) (by decide +kernel) q
theorem q_isi_tup_tup {a : Addr} {xs : List V} (h : H a = some (.tup xs)) (q : Q (.bl true) H) : rIsi K [.ref a, .ty "tuple"] H Q := q_isi (.base (.tup h)) (by decide +kernel) q
theorem q_isi_lst_lst {a : Addr} {xs : List V} (h : H a = some (.lst xs)) (q : Q (.bl true) H) : rIsi K [.ref a, .ty "list"] H Q := q_isi (.base (.lst h)) (by decide +kernel) q
end
end Ts

/-! Loops, comprehensions, texts, data in the heap. -/
namespace Ts
open PySem PySem.Spec PyProof.Rows L2
/-! ### what is made of tuples stays while lists change -/
/-- all tuples are as they were -/
def TSame (H H' : Hp) : Prop := ∀ a xs, H a = some (.tup xs) → H' a = some (.tup xs)
theorem TSame.refl (H : Hp) : TSame H H := fun _ _ h => h
theorem TSame.trans {H H1 H2 : Hp} (a : TSame H H1) (b : TSame H1 H2) : TSame H H2 := fun c xs h => b c xs (a c xs h)
theorem tsame_of {H H' : Hp} (s : Same H H') : TSame H H' := fun a xs h => s a _ h
theorem tsame_lst {H : Hp} {p : Addr} {xs ys : List V} (h : H p = some (.lst xs)) : TSame H (upd H p (.lst ys)) := fun a zs e => by
  rw [upd_ne (ne_of e h (by intro q; cases q))]
  exact e
theorem tsame_dK {H : Hp} {p : Addr} {xs ys : List (Key × V)} (h : H p = some (.dK xs)) : TSame H (upd H p (.dK ys)) := fun a zs e => by
  rw [upd_ne (ne_of e h (by intro q; cases q))]
  exact e
/-- an object that H does not know may change, step by step -/
theorem same_mut2 {H H1 : Hp} {p : Addr} {o : HO} (s : Same H H1) (h : H p = none) : Same H (upd H1 p o) := same_mut s h
section
variable {α β : Type} {R S : α → β → Prop}
theorem Paired.len : ∀ {xs : List α} {ys : List β}, Paired R xs ys → xs.length = ys.length
  | _, _, .nil => rfl
  | _, _, .cons _ t => by rw [List.length_cons, List.length_cons, Paired.len t]
theorem Paired.imp (h : ∀ x y, R x y → S x y) : ∀ {xs : List α} {ys : List β}, Paired R xs ys → Paired S xs ys
  | _, _, .nil => .nil
  | _, _, .cons r t => .cons (h _ _ r) (Paired.imp h t)
theorem Paired.snoc {x : α} {y : β} (r : R x y) : ∀ {xs : List α} {ys : List β}, Paired R xs ys → Paired R (xs ++ [x]) (ys ++ [y])
  | _, _, .nil => .cons r .nil
  | _, _, .cons q t => .cons q (Paired.snoc r t)
theorem Paired.at_ : ∀ {xs : List α} {ys : List β} {i : Nat} {x : α}, Paired R xs ys → xs[i]? = some x → ∃ y, ys[i]? = some y ∧ R x y
  | _, _, _, _, .nil, e => by simp at e
  | _, _, 0, _, .cons r t, e => by
    simp at e
    subst e
    exact ⟨_, rfl, r⟩
  | _, _, i + 1, x, .cons _ t, e => by
    obtain ⟨y, h1, h2⟩ := Paired.at_ (i := i) (x := x) t (by simpa using e)
    exact ⟨y, by simpa using h1, h2⟩
theorem Paired.at' : ∀ {xs : List α} {ys : List β} {i : Nat} {y : β}, Paired R xs ys → ys[i]? = some y → ∃ x, xs[i]? = some x ∧ R x y
  | _, _, _, _, .nil, e => by simp at e
  | _, _, 0, _, .cons r t, e => by
    simp at e
    subst e
    exact ⟨_, rfl, r⟩
  | _, _, i + 1, y, .cons _ t, e => by
    obtain ⟨x, h1, h2⟩ := Paired.at' (i := i) (y := y) t (by simpa using e)
    exact ⟨x, by simpa using h1, h2⟩
theorem Paired.map_left {γ : Type} {f : γ → α} : ∀ {zs : List γ} {ys : List β}, Paired (fun z y => R (f z) y) zs ys → Paired R (zs.map f) ys
  | _, _, .nil => .nil
  | _, _, .cons r t => .cons r (Paired.map_left t)
theorem Paired.map_right {γ : Type} {f : γ → β} : ∀ {xs : List α} {zs : List γ}, Paired (fun x z => R x (f z)) xs zs → Paired R xs (zs.map f)
  | _, _, .nil => .nil
  | _, _, .cons r t => .cons r (Paired.map_right t)
theorem Paired.app : ∀ {xs xs' : List α} {ys ys' : List β}, Paired R xs ys → Paired R xs' ys' → Paired R (xs ++ xs') (ys ++ ys')
  | _, _, _, _, .nil, q => q
  | _, _, _, _, .cons r t, q => .cons r (Paired.app t q)
theorem Paired.mem' : ∀ {xs : List α} {ys : List β} {x : α}, Paired R xs ys → x ∈ xs → ∃ y, y ∈ ys ∧ R x y
  | _, _, _, .nil, h => by simp at h
  | _, _, x, .cons r t, h => by
    rcases List.mem_cons.mp h with rfl | h
    · exact ⟨_, List.mem_cons_self, r⟩
    · obtain ⟨y, h1, h2⟩ := Paired.mem' t h
      exact ⟨y, List.mem_cons_of_mem _ h1, h2⟩
end

section
variable {σ : L2.St} {H H1 H2 : Hp} {Q : VK} {K : PySem.W.Frag} {v : V} {i j : Int} {g : TG} {tb : TS} {nx bk ct : L2.St → Hp → Prop} {rt : VK} {wi : TI} {te : TE} {tt : TT} {vs : List Nat} {R : It → Hp → Prop} {tr : TA}

/-! ### for -/
theorem q_for (q : wi σ H fun J H1 => ∃ W : Nat → Nat → L2.St → Hp → Prop, (∃ m, W 0 m σ H1) ∧ ∀ i m σ H, W i m σ H → (J.stop i H ∧ (Ends.mk nx rt bk ct).nx σ H) ∨ (J.go i H ∧ ∃ N : L2.St → Hp → Prop, (∀ σ' H', N σ' H' → ∃ m', m' < m ∧ W (i + 1) m' σ' H') ∧
    ∀ x H', J.yld i H x H' → g x σ H' fun σ2 H2 => tb { Ends.mk nx rt bk ct with nx := N, ct := N, bk := (Ends.mk nx rt bk ct).nx } σ2 H2)) : tFor wi g tb ⟨nx, rt, bk, ct⟩ σ H := q
theorem q_iList (q : te σ H fun x H1 => ∃ a, x = .ref a ∧ (∃ xs, SqL K H1 a xs) ∧ R (Itl K a) H1) : iList K te σ H R := q
theorem q_iTup (q : te σ H fun x H1 => ∃ a, x = .ref a ∧ (∃ xs, SqT K H1 a xs) ∧ R (Itt K a) H1) : iTup K te σ H R := q
theorem q_iStr (q : te σ H fun v H1 => ∃ x, v = .str x ∧ R (Its x) H1) : iStr te σ H R := q
theorem q_iRng1 (q : tr σ H fun vs H1 => ∃ j : Int, vs = [.int j] ∧ -(2 ^ 62) ≤ j ∧ j < 2 ^ 62 ∧ R (Itr 0 j.toNat) H1) : iRng1 tr σ H R := q
abbrev ForW (J : It) (σ : L2.St) (H : Hp) (g : TG) (tb : TS) (nx : L2.St → Hp → Prop) (rt : VK) (bk ct : L2.St → Hp → Prop) : Prop :=
  ∃ W : Nat → Nat → L2.St → Hp → Prop, (∃ m, W 0 m σ H) ∧ ∀ i m σ H, W i m σ H → (J.stop i H ∧ (Ends.mk nx rt bk ct).nx σ H) ∨ (J.go i H ∧ ∃ N : L2.St → Hp → Prop, (∀ σ' H', N σ' H' → ∃ m', m' < m ∧ W (i + 1) m' σ' H') ∧
    ∀ x H', J.yld i H x H' → g x σ H' fun σ2 H2 => tb { Ends.mk nx rt bk ct with nx := N, ct := N, bk := (Ends.mk nx rt bk ct).nx } σ2 H2)
/-- over a list -/
theorem q_forL {a : Addr} (xs : List V) (h : SqL K H a xs) (Pv : Nat → L2.St → Hp → Prop) (h0 : Pv 0 σ H) (hG : ∀ i σ H, Pv i σ H → SqL K H a xs)
    (hs : ∀ (i : Nat) x σ H, xs[i]? = some x → Pv i σ H → g x σ H fun σ2 H2 => tb ⟨Pv (i + 1), rt, nx, Pv (i + 1)⟩ σ2 H2) (hd : ∀ σ H, Pv xs.length σ H → nx σ H) :
    ∃ a', V.ref a = .ref a' ∧ (∃ xs, SqL K H a' xs) ∧ ForW (Itl K a') σ H g tb nx rt bk ct :=
  ⟨a, rfl, ⟨xs, h⟩, for_list (D := ⟨nx, rt, bk, ct⟩) Pv h0 (fun i σ H _ p => hG i σ H p) hs hd⟩
/-- over a tuple -/
theorem q_forT {a : Addr} (xs : List V) (h : SqT K H a xs) (Pv : Nat → L2.St → Hp → Prop) (h0 : Pv 0 σ H) (hG : ∀ i σ H, Pv i σ H → SqT K H a xs)
    (hs : ∀ (i : Nat) x σ H, xs[i]? = some x → Pv i σ H → g x σ H fun σ2 H2 => tb ⟨Pv (i + 1), rt, nx, Pv (i + 1)⟩ σ2 H2) (hd : ∀ σ H, Pv xs.length σ H → nx σ H) :
    ∃ a', V.ref a = .ref a' ∧ (∃ xs, SqT K H a' xs) ∧ ForW (Itt K a') σ H g tb nx rt bk ct :=
  ⟨a, rfl, ⟨xs, h⟩, for_tup (D := ⟨nx, rt, bk, ct⟩) Pv h0 (fun i σ H _ p => hG i σ H p) hs hd⟩
/-- over a text -/
theorem q_forS {z : Str} (Pv : Nat → L2.St → Hp → Prop) (h0 : Pv 0 σ H)
    (hs : ∀ (i c : Nat) σ H, z.cps.toList[i]? = some c → Pv i σ H → g (.str ⟨#[c]⟩) σ H fun σ2 H2 => tb ⟨Pv (i + 1), rt, nx, Pv (i + 1)⟩ σ2 H2) (hd : ∀ σ H, Pv z.cps.toList.length σ H → nx σ H) :
    ∃ x, V.str z = .str x ∧ ForW (Its x) σ H g tb nx rt bk ct :=
  ⟨z, rfl, for_it (D := ⟨nx, rt, bk, ct⟩) walk_str Pv h0 (fun _ _ _ _ _ => True.intro) (fun i x σ H H' hi p y => by
    obtain ⟨rfl, c, hc, rfl⟩ := y
    exact hs i c σ _ (by simpa using hc) p) (fun σ H p => hd σ H (by simpa using p))⟩
/-- over range(n) -/
theorem q_forR {n : Int} (h0 : 0 ≤ n) (h1 : n ≤ 1000000) (Pv : Nat → L2.St → Hp → Prop) (hp : Pv 0 σ H)
    (hs : ∀ (i : Nat) σ H, (i : Int) < n → Pv i σ H → g (.int (i : Int)) σ H fun σ2 H2 => tb ⟨Pv (i + 1), rt, nx, Pv (i + 1)⟩ σ2 H2) (hd : ∀ σ H, Pv n.toNat σ H → nx σ H) :
    ∃ j : Int, [V.int n] = [.int j] ∧ -(2 ^ 62) ≤ j ∧ j < 2 ^ 62 ∧ ForW (Itr 0 j.toNat) σ H g tb nx rt bk ct :=
  ⟨n, rfl, by omega, by omega, for_range (D := ⟨nx, rt, bk, ct⟩) (lo := 0) (n := n.toNat) Pv hp (fun i σ H hi p => by
    have e : (0 : Int) + (i : Int) = (i : Int) := Int.zero_add _
    rw [e]
    exact hs i σ H (by omega) p) hd⟩

/-! ### comprehensions: which turns give, and what each gives -/
abbrev LcT (g : TG) (tt : TT) (te : TE) (σ : L2.St) (vs : List Nat) (x : V) (H : Hp) (QB : Hp → Prop) (QV : V → Hp → Prop) : Prop :=
  g x (wipe σ vs) H fun σ2 H2 => wipe σ2 vs = wipe σ vs ∧ tt σ2 H2 fun b H3 => if b = true then te σ2 H3 QV else QB H3
abbrev LcW (J : It) (σ : L2.St) (H : Hp) (g : TG) (tt : TT) (te : TE) (vs : List Nat) (Q : VK) : Prop :=
  ∀ D, H D = none → ∃ W : Nat → Nat → Hp → Prop, (∃ m, W 0 m (upd H D (.lst []))) ∧ ∀ i m H, W i m H → (J.stop i H ∧ Q (.ref D) H) ∨ (J.go i H ∧ ∃ Nx : Hp → Prop, (∀ H', Nx H' → ∃ m', m' < m ∧ W (i + 1) m' H') ∧
    ∀ x H', J.yld i H x H' → g x (wipe σ vs) H' fun σ2 H2 => wipe σ2 vs = wipe σ vs ∧ tt σ2 H2 fun b H3 => if b = true then te σ2 H3 fun y H4 => ∃ acc, H4 D = some (.lst acc) ∧ acc.length < sizeLine ∧ Nx (upd H4 D (.lst (acc ++ [y]))) else Nx H3)
/-- a list's method; append -/
theorem q_tyL {l : Addr} {xs : List V} {P : Prop} (h : H l = some (.lst xs)) (q : P) : tyV K "list" (.ref l) H ∧ P := ⟨.inl ⟨rfl, _, sqL_of h⟩, q⟩
theorem q_append {l : Addr} {xs : List V} {y : V} (h : H l = some (.lst xs)) (hl : xs.length < 1000000) (q : Q .non (upd H l (.lst (xs ++ [y])))) : rAppend (.ref l) [y] H Q := ⟨l, xs, y, rfl, rfl, h, size_lt hl, q⟩
theorem q_yes {QB : Bool → Hp → Prop} (q : QB true H) : tYes σ H QB := q
theorem q_lc (q : wi σ H fun J H1 => LcW J σ H1 g tt te vs Q) : tLc wi g tt te vs σ H Q := q
/-- over any walk whose things stay: f tells which turns give, S what a turn gives (by tuples alone) -/
theorem q_lcWalk {J : It} {n : Nat} {G : Hp → Prop} {Y : Nat → Hp → V → Hp → Prop} (w : Walk J n G Y) (hn : n ≤ 100000) (f : Nat → Bool) (S : Nat → Hp → V → Prop) (hG : ∀ H', Same H H' → G H')
    (hY : ∀ i H x H', Y i H x H' → H' = H) (hm : ∀ i y H1 H2, TSame H1 H2 → S i H1 y → S i H2 y)
    (hs : ∀ (i : Nat) x H' (QB : Hp → Prop) (QV : VK), i < n → Y i H' x H' → Same H H' → (f i = false → ∀ H2, Same H' H2 → QB H2) → (∀ y H2, f i = true → Same H' H2 → S i H2 y → QV y H2) → LcT g tt te σ vs x H' QB QV)
    (q : ∀ ys D H', Same H H' → H D = none → H' D = some (.lst ys) → Paired (fun i y => S i H' y) ((List.range n).filter f) ys → Q (.ref D) H') : LcW J σ H g tt te vs Q := by
  intro D hD
  refine lc_it w (fun i H' => Same H H' ∧ ∃ ys, H' D = some (.lst ys) ∧ Paired (fun j y => S j H' y) ((List.range i).filter f) ys) ⟨same_upd hD, [], upd_same, .nil⟩ (fun i H' _ p => hG H' p.1) (fun i x H1 H1' hi p y => ?_) (fun H' p => ?_)
  · have e := hY i H1 x H1' y
    subst e
    obtain ⟨s1, ys, hys, pr⟩ := p
    have hl : ys.length < sizeLine := by
      have h1 := Paired.len pr
      have h2 := List.length_filter_le f (List.range i)
      rw [List.length_range] at h2
      exact size_lt (by omega)
    refine hs i x H1' _ _ hi y s1 ?_ ?_
    · intro hf H2 s2
      refine ⟨s1.trans s2, ys, s2 _ _ hys, ?_⟩
      rw [List.range_succ, List.filter_append, List.filter_cons, if_neg (by rw [hf]; decide)]
      simp only [List.filter_nil, List.append_nil]
      exact Paired.imp (fun j y r => hm j y _ _ (tsame_of s2) r) pr
    · intro y H2 hf s2 r
      have h2 : H2 D = some (.lst ys) := s2 _ _ hys
      have t2 : TSame H2 (upd H2 D (.lst (ys ++ [y]))) := tsame_lst h2
      refine ⟨ys, h2, hl, same_mut (s1.trans s2) hD, ys ++ [y], upd_same, ?_⟩
      rw [List.range_succ, List.filter_append, List.filter_cons, if_pos hf]
      exact Paired.snoc (R := fun j z => S j (upd H2 D (.lst (ys ++ [y]))) z) (hm _ _ _ _ t2 r) (Paired.imp (fun j y r => hm j y _ _ t2 (hm j y _ _ (tsame_of s2) r)) pr)
  · obtain ⟨s1, ys, hys, pr⟩ := p
    exact q ys D H' s1 hD hys pr
/-- over a list, a tuple, a text, a range -/
theorem q_lcL {a : Addr} {xs : List V} (h : SqL K H a xs) (hn : xs.length ≤ 100000) (f : Nat → Bool) (S : Nat → Hp → V → Prop) (hm : ∀ i y H1 H2, TSame H1 H2 → S i H1 y → S i H2 y)
    (hs : ∀ (i : Nat) x H' (QB : Hp → Prop) (QV : VK), xs[i]? = some x → Same H H' → (f i = false → ∀ H2, Same H' H2 → QB H2) → (∀ y H2, f i = true → Same H' H2 → S i H2 y → QV y H2) → LcT g tt te σ vs x H' QB QV)
    (q : ∀ ys D H', Same H H' → H D = none → H' D = some (.lst ys) → Paired (fun i y => S i H' y) ((List.range xs.length).filter f) ys → Q (.ref D) H') :
    ∃ a', V.ref a = .ref a' ∧ (∃ xs, SqL K H a' xs) ∧ LcW (Itl K a') σ H g tt te vs Q :=
  ⟨a, rfl, ⟨xs, h⟩, q_lcWalk walk_list hn f S (fun H' s => s.seq h) (fun _ _ _ _ y => y.1) hm (fun i x H' QB QV _ y s => hs i x H' QB QV y.2 s) q⟩
theorem q_lcT {a : Addr} {xs : List V} (h : SqT K H a xs) (hn : xs.length ≤ 100000) (f : Nat → Bool) (S : Nat → Hp → V → Prop) (hm : ∀ i y H1 H2, TSame H1 H2 → S i H1 y → S i H2 y)
    (hs : ∀ (i : Nat) x H' (QB : Hp → Prop) (QV : VK), xs[i]? = some x → Same H H' → (f i = false → ∀ H2, Same H' H2 → QB H2) → (∀ y H2, f i = true → Same H' H2 → S i H2 y → QV y H2) → LcT g tt te σ vs x H' QB QV)
    (q : ∀ ys D H', Same H H' → H D = none → H' D = some (.lst ys) → Paired (fun i y => S i H' y) ((List.range xs.length).filter f) ys → Q (.ref D) H') :
    ∃ a', V.ref a = .ref a' ∧ (∃ xs, SqT K H a' xs) ∧ LcW (Itt K a') σ H g tt te vs Q :=
  ⟨a, rfl, ⟨xs, h⟩, q_lcWalk walk_tup hn f S (fun H' s => Same.sqT s h) (fun _ _ _ _ y => y.1) hm (fun i x H' QB QV _ y s => hs i x H' QB QV y.2 s) q⟩
theorem q_lcS {z : Str} (hn : z.cps.toList.length ≤ 100000) (f : Nat → Bool) (S : Nat → Hp → V → Prop) (hm : ∀ i y H1 H2, TSame H1 H2 → S i H1 y → S i H2 y)
    (hs : ∀ (i c : Nat) H' (QB : Hp → Prop) (QV : VK), z.cps.toList[i]? = some c → Same H H' → (f i = false → ∀ H2, Same H' H2 → QB H2) → (∀ y H2, f i = true → Same H' H2 → S i H2 y → QV y H2) → LcT g tt te σ vs (.str ⟨#[c]⟩) H' QB QV)
    (q : ∀ ys D H', Same H H' → H D = none → H' D = some (.lst ys) → Paired (fun i y => S i H' y) ((List.range z.cps.toList.length).filter f) ys → Q (.ref D) H') :
    ∃ x, V.str z = .str x ∧ LcW (Its x) σ H g tt te vs Q :=
  ⟨z, rfl, q_lcWalk walk_str (by simpa using hn) f S (fun _ _ => True.intro) (fun _ _ _ _ y => y.1) hm (fun i x H' QB QV _ y s => by
    obtain ⟨_, c, hc, rfl⟩ := y
    exact hs i c H' QB QV (by simpa using hc) s) (fun ys D H' s hD h p => q ys D H' s hD h (by simpa using p))⟩
theorem q_lcR {n : Int} (h0 : 0 ≤ n) (h1 : n ≤ 100000) (f : Nat → Bool) (S : Nat → Hp → V → Prop) (hm : ∀ i y H1 H2, TSame H1 H2 → S i H1 y → S i H2 y)
    (hs : ∀ (i : Nat) H' (QB : Hp → Prop) (QV : VK), (i : Int) < n → Same H H' → (f i = false → ∀ H2, Same H' H2 → QB H2) → (∀ y H2, f i = true → Same H' H2 → S i H2 y → QV y H2) → LcT g tt te σ vs (.int (i : Int)) H' QB QV)
    (q : ∀ ys D H', Same H H' → H D = none → H' D = some (.lst ys) → Paired (fun i y => S i H' y) ((List.range n.toNat).filter f) ys → Q (.ref D) H') :
    ∃ j : Int, [V.int n] = [.int j] ∧ -(2 ^ 62) ≤ j ∧ j < 2 ^ 62 ∧ LcW (Itr 0 j.toNat) σ H g tt te vs Q :=
  ⟨n, rfl, by omega, by omega, q_lcWalk walk_range (by omega) f S (fun _ _ => True.intro) (fun _ _ _ _ y => y.1) hm (fun i x H' QB QV hi y s => by
    obtain ⟨_, rfl⟩ := y
    have e : (0 : Int) + (i : Int) = (i : Int) := Int.zero_add _
    show _ → _ → LcT g tt te σ vs (.int ((0 : Int) + (i : Int))) H' QB QV
    rw [e]
    exact hs i H' QB QV (by omega) s) q⟩
theorem filt_all (n : Nat) : (List.range n).filter (fun _ => true) = List.range n := by simp
end
end Ts

/-! Texts; clocks and letters as data. -/
namespace Ts
open PySem PySem.Spec PyProof.Rows L2
/-! ### texts -/
theorem tl_app (a b : Str) : (a ++ b).cps.toList = a.cps.toList ++ b.cps.toList := by
  have e : (a ++ b).cps = a.cps ++ b.cps := rfl
  rw [e]
  simp
theorem tl_len (z : Str) : z.length = z.cps.toList.length := by
  show z.cps.size = _
  simp
theorem str_ext {a b : Str} (h : a.cps.toList = b.cps.toList) : a = b := by
  cases a; cases b
  simp at h
  rw [h]
theorem cut_hd (z : Str) (k : Nat) : (cutS z none (some (k : Int))).cps.toList = z.cps.toList.take k := by
  show ((z.cps.toList.drop (HT.sIx z.length 0 none)).take (HT.sIx z.length z.length (some (k : Int)) - HT.sIx z.length 0 none)).toArray.toList = _
  have e1 : HT.sIx z.length 0 none = 0 := HT.sIx_none ..
  have e2 : HT.sIx z.length z.length (some (k : Int)) = min k z.length := HT.sIx_nat ..
  rw [e1, e2, tl_len]
  simp [List.take_eq_take_iff]
theorem cut_tl (z : Str) (k : Nat) : (cutS z (some (k : Int)) none).cps.toList = z.cps.toList.drop k := by
  show ((z.cps.toList.drop (HT.sIx z.length 0 (some (k : Int)))).take (HT.sIx z.length z.length none - HT.sIx z.length 0 (some (k : Int)))).toArray.toList = _
  have e1 : HT.sIx z.length z.length none = z.length := HT.sIx_none ..
  have e2 : HT.sIx z.length 0 (some (k : Int)) = min k z.length := HT.sIx_nat ..
  rw [e1, e2, tl_len]
  simp only [List.toList_toArray]
  by_cases h : k ≤ z.cps.toList.length
  · rw [Nat.min_eq_left h, List.take_of_length_le (by simp)]
  · rw [Nat.min_eq_right (by omega), List.drop_of_length_le (Nat.le_refl _), List.drop_of_length_le (by omega)]
    simp
/-- small letters alone -/
def Low (z : Str) : Prop := ∀ c ∈ z.cps.toList, 97 ≤ c ∧ c ≤ 122
theorem Low.app {a b : Str} (ha : Low a) (hb : Low b) : Low (a ++ b) := fun c h => by
  rw [tl_app] at h
  rcases List.mem_append.mp h with h | h
  · exact ha c h
  · exact hb c h
theorem Low.ok {z : Str} (h : Low z) : PyData.strOk z = true := by
  unfold PyData.strOk
  rw [Array.all_eq_true]
  intro i hi
  have := h z.cps[i] (by simp)
  simp
  omega
abbrev abc : Str := "abcdefghijklmnopqrstuvwxyz"
theorem abc_at : ∀ i : Fin 26, abc.cps.toList[i.val]? = some (97 + i.val) := by decide +kernel
theorem abc_len : abc.cps.toList.length = 26 := by decide +kernel
section
variable {σ : L2.St} {H : Hp} {Q : VK} {K : PySem.W.Frag} {v : V} {i j : Int} {te : TE} {tl th : TO}
theorem op_addS {X : Cx} : OpR X (binaryOp .Add) rAddS := op_add_str
theorem q_addS {a b : Str} (h : a.length + b.length ≤ 1000000) (q : Q (.str (a ++ b)) H) : rAddS (.str a) (.str b) H Q := ⟨a, b, rfl, rfl, size_of h, q⟩
theorem q_ixAbc (h0 : 0 ≤ i) (h1 : i < 26) (q : ∀ c : Nat, c = 97 + i.toNat → Q (.str ⟨#[c]⟩) H) : rIxS (.str abc) (.int i) H Q := by
  obtain ⟨k, rfl⟩ : ∃ k : Nat, i = (k : Int) := ⟨i.toNat, by omega⟩
  refine ⟨abc, _, 97 + k, rfl, rfl, ?_, atI_nat (abc_at ⟨k, by omega⟩), q _ (by simp)⟩
  rw [tl_len, abc_len]
  exact size_of (by decide)
theorem q_sl {r : V → Option Int → Option Int → Hp → VK → Prop} (q : te σ H fun x H1 => tl σ H1 fun l H2 => th σ H2 fun u H3 => r x l u H3 Q) : tSl r te tl th σ H Q := q
theorem q_noPart {R : Option Int → Hp → Prop} (q : R none H) : tNoPart σ H R := q
theorem q_part {R : Option Int → Hp → Prop} (q : te σ H fun x H1 => ∃ i, x = .int i ∧ R (some i) H1) : tPart te σ H R := q
theorem q_partI {R : Int → Prop} (q : R i) : ∃ j, V.int i = .int j ∧ R j := ⟨i, rfl, q⟩
theorem q_slS {z : Str} {lo hi : Option Int} (h : z.length ≤ 1000000) (q : Q (.str (cutS z lo hi)) H) : rSlS (.str z) lo hi H Q := ⟨z, rfl, size_of h, q⟩
end
theorem low_one {c : Nat} (h : 97 ≤ c) (h1 : c ≤ 122) : Low ⟨#[c]⟩ := fun d hd => by
  simp at hd
  omega
theorem low_cut {z : Str} {k : Nat} (h : Low z) : Low (cutS z none (some (k : Int))) ∧ Low (cutS z (some (k : Int)) none) :=
  ⟨fun c hc => h c (List.mem_of_mem_take (by rw [cut_hd] at hc; exact hc)), fun c hc => h c (List.mem_of_mem_drop (by rw [cut_tl] at hc; exact hc))⟩
theorem low_empty : Low "" := by
  intro c h
  have e : (("" : Str).cps.toList) = [] := by decide +kernel
  rw [e] at h
  cases h
theorem low_z : Low "z" := by
  have e : (("z" : Str).cps.toList) = [122] := by decide +kernel
  intro c h
  rw [e] at h
  simp at h
  omega
theorem paired_eq {α β : Type} {f : α → β} : ∀ {l : List α} {ys : List β}, Paired (fun a y => y = f a) l ys → ys = l.map f
  | _, _, .nil => rfl
  | _, _, .cons r t => by rw [List.map_cons, ← r, paired_eq t]
/-- what a filtered walk over a list gives -/
theorem paired_filter {α β : Type} {R : α → β → Prop} (l : List α) (p : α → Bool) : ∀ (n : Nat), n ≤ l.length → ∀ ys, Paired (fun i y => ∃ c, l[i]? = some c ∧ R c y) ((List.range n).filter (fun i => (l[i]?).elim false p)) ys → Paired R ((l.take n).filter p) ys
  | 0, _, ys, h => by
    simp at h
    cases h
    simp
    exact .nil
  | n + 1, hn, ys, h => by
    have hlt : n < l.length := by omega
    have e : l[n]? = some l[n] := List.getElem?_eq_getElem hlt
    rw [List.range_succ, List.filter_append, List.filter_cons] at h
    rw [List.take_add_one, e, List.filter_append]
    simp only [Option.toList_some, List.filter_cons, List.filter_nil, e, Option.elim_some] at h ⊢
    by_cases hp : p l[n] = true
    · rw [if_pos hp] at h ⊢
      obtain ⟨ys', y, rfl, h1, h2⟩ := paired_snoc_inv h
      obtain ⟨c, hc, r⟩ := h2
      rw [e] at hc
      cases hc
      exact Paired.snoc r (paired_filter l p n (by omega) ys' h1)
    · rw [if_neg hp] at h ⊢
      simp only [List.append_nil] at h ⊢
      exact paired_filter l p n (by omega) ys h
where
  paired_snoc_inv {α β : Type} {R : α → β → Prop} : ∀ {xs : List α} {x : α} {ys : List β}, Paired R (xs ++ [x]) ys → ∃ ys' y, ys = ys' ++ [y] ∧ Paired R xs ys' ∧ R x y
    | [], x, _, .cons r .nil => ⟨[], _, rfl, .nil, r⟩
    | a :: r, x, _, .cons q t => by
      obtain ⟨ys', y, rfl, h1, h2⟩ := paired_snoc_inv t
      exact ⟨_ :: ys', y, rfl, .cons q h1, h2⟩

/-! ### data in the heap -/
abbrev Stc := Option (Int × Int)
abbrev Clk := Str × Stc
def IsSt (H : Hp) (v : V) : Stc → Prop
  | none => v = .non
  | some s => ∃ a, v = .ref a ∧ H a = some (.tup [.int s.1, .int s.2])
def IsCk (H : Hp) (v : V) (c : Clk) : Prop := ∃ a u, v = .ref a ∧ H a = some (.tup [.str c.1, u]) ∧ IsSt H u c.2
def IsLt (H : Hp) (v : V) (L : Ltr) : Prop := ∃ a, v = .ref a ∧ LtAt H a L
def IsPr (H : Hp) (v : V) (s : Int × Int) : Prop := ∃ a, v = .ref a ∧ H a = some (.tup [.int s.1, .int s.2])
theorem IsSt.mono {H H' : Hp} {v : V} {o : Stc} (s : TSame H H') (h : IsSt H v o) : IsSt H' v o := by
  cases o with
  | none => exact h
  | some x =>
    obtain ⟨a, rfl, e⟩ := h
    exact ⟨a, rfl, s _ _ e⟩
theorem IsCk.mono {H H' : Hp} {v : V} {c : Clk} (s : TSame H H') (h : IsCk H v c) : IsCk H' v c := by
  obtain ⟨a, u, rfl, e, q⟩ := h
  exact ⟨a, u, rfl, s _ _ e, q.mono s⟩
theorem IsLt.mono {H H' : Hp} {v : V} {c : Ltr} (s : TSame H H') (h : IsLt H v c) : IsLt H' v c := by
  obtain ⟨a, rfl, e⟩ := h
  exact ⟨a, rfl, s _ _ e⟩
theorem IsPr.mono {H H' : Hp} {v : V} {c : Int × Int} (s : TSame H H') (h : IsPr H v c) : IsPr H' v c := by
  obtain ⟨a, rfl, e⟩ := h
  exact ⟨a, rfl, s _ _ e⟩
/-- the values xs are the clocks cs -/
abbrev Cks (H : Hp) (xs : List V) (cs : List Clk) : Prop := Paired (IsCk H) xs cs
abbrev Lts (H : Hp) (xs : List V) (cs : List Ltr) : Prop := Paired (IsLt H) xs cs
abbrev Prs (H : Hp) (xs : List V) (cs : List (Int × Int)) : Prop := Paired (IsPr H) xs cs
theorem Cks.mono {H H' : Hp} {xs : List V} {cs : List Clk} (s : TSame H H') (h : Cks H xs cs) : Cks H' xs cs := Paired.imp (fun _ _ r => IsCk.mono s r) h
theorem Lts.mono {H H' : Hp} {xs : List V} {cs : List Ltr} (s : TSame H H') (h : Lts H xs cs) : Lts H' xs cs := Paired.imp (fun _ _ r => IsLt.mono s r) h
theorem Prs.mono {H H' : Hp} {xs : List V} {cs : List (Int × Int)} (s : TSame H H') (h : Prs H xs cs) : Prs H' xs cs := Paired.imp (fun _ _ r => IsPr.mono s r) h
theorem cks_step {H H' : Hp} {xs : List V} {cs : List Clk} (s : Same H H') (h : Cks H xs cs) : Cks H' xs cs := h.mono (tsame_of s)
theorem lts_step {H H' : Hp} {xs : List V} {cs : List Ltr} (s : Same H H') (h : Lts H xs cs) : Lts H' xs cs := h.mono (tsame_of s)
theorem prs_step {H H' : Hp} {xs : List V} {cs : List (Int × Int)} (s : Same H H') (h : Prs H xs cs) : Prs H' xs cs := h.mono (tsame_of s)

/-! ### the same as data for == -/
def dSt : Stc → PyData
  | none => .none
  | some s => .tuple [.int s.1, .int s.2]
def dCk (c : Clk) : PyData := .tuple [.str c.1, dSt c.2]
def dLt (L : Ltr) : PyData := .tuple [.str L.name, .int L.sent, .int L.back, .int L.low, .int L.high]
def dPr (s : Int × Int) : PyData := .tuple [.int s.1, .int s.2]
section
variable {K : PySem.W.Frag} {H : Hp}
theorem dp_st {v : V} {o : Stc} (h : IsSt H v o) : Dp K H v (dSt o) := by
  cases o with
  | none =>
    cases h
    exact .non
  | some s =>
    obtain ⟨a, rfl, e⟩ := h
    exact dp_pair e
theorem dp_ck {v : V} {c : Clk} (h : IsCk H v c) : Dp K H v (dCk c) := by
  obtain ⟨a, u, rfl, e, q⟩ := h
  exact .tup (sqT_of e) (.cons (.str _) (.cons (dp_st q) .nil))
theorem dp_lt {v : V} {c : Ltr} (h : IsLt H v c) : Dp K H v (dLt c) := by
  obtain ⟨a, rfl, e⟩ := h
  exact .tup (sqT_of e) (.cons (.str _) (.cons (.int _) (.cons (.int _) (.cons (.int _) (.cons (.int _) .nil)))))
theorem dp_pr {v : V} {c : Int × Int} (h : IsPr H v c) : Dp K H v (dPr c) := by
  obtain ⟨a, rfl, e⟩ := h
  exact dp_pair e
theorem dp_all {α : Type} {R : V → α → Prop} {d : α → PyData} (hd : ∀ v a, R v a → Dp K H v (d a)) : ∀ {xs : List V} {ls : List α}, Paired R xs ls → DpAll K H xs (ls.map d)
  | _, _, .nil => .nil
  | _, _, .cons r t => .cons (hd _ _ r) (dp_all hd t)
theorem dp_lst {α : Type} {R : V → α → Prop} {d : α → PyData} {p : Addr} {xs : List V} {ls : List α} (hd : ∀ v a, R v a → Dp K H v (d a)) (e : H p = some (.lst xs)) (h : Paired R xs ls) : Dp K H (.ref p) (.list (ls.map d)) := .lst (sqL_of e) (dp_all hd h)
theorem dp_strs : ∀ (zs : List Str), DpAll K H (zs.map V.str) (zs.map PyData.str)
  | [] => .nil
  | z :: r => .cons (.str z) (dp_strs r)
theorem dp_lstrs {p : Addr} {zs : List Str} (e : H p = some (.lst (zs.map V.str))) : Dp K H (.ref p) (.list (zs.map PyData.str)) := .lst (sqL_of e) (dp_strs zs)
end
theorem shaped_list {α : Type} {d : α → PyData} (ls : List α) (h : ∀ a ∈ ls, (d a).canLay0 = true ∧ (d a).depth ≤ 10) : SeqAt.shaped (.list (ls.map d)) = true := by
  have h1 : PyData.canLayAll0 (ls.map d) = true ∧ PyData.depthAll (ls.map d) ≤ 10 := by
    induction ls with
    | nil => exact ⟨rfl, by simp [PyData.depthAll]⟩
    | cons a r ih =>
      obtain ⟨i1, i2⟩ := ih fun b hb => h b (List.mem_cons_of_mem _ hb)
      obtain ⟨a1, a2⟩ := h a List.mem_cons_self
      refine ⟨?_, ?_⟩
      · simp [PyData.canLayAll0, a1]
        simpa using i1
      · simp only [List.map_cons, PyData.depthAll]
        exact Nat.max_le.mpr ⟨a2, i2⟩
  unfold SeqAt.shaped
  have e1 : (PyData.list (ls.map d)).canLay0 = true := by
    simp only [PyData.canLay0]
    exact h1.1
  have e2 : (PyData.list (ls.map d)).depth ≤ 64 := by
    simp only [PyData.depth]
    omega
  rw [e1, decide_eq_true e2]
  rfl
theorem ok_dSt (o : Stc) : (dSt o).canLay0 = true ∧ (dSt o).depth ≤ 3 := by
  cases o with
  | none => exact ⟨rfl, by decide⟩
  | some s => exact ⟨rfl, by simp [dSt, PyData.depth, PyData.depthAll]⟩
theorem ok_dCk (c : Clk) (h : PyData.strOk c.1 = true) : (dCk c).canLay0 = true ∧ (dCk c).depth ≤ 10 := by
  obtain ⟨h1, h2⟩ := ok_dSt c.2
  refine ⟨?_, ?_⟩
  · simp [dCk, PyData.canLay0, PyData.canLayAll0, h, h1]
  · simp [dCk, PyData.depth, PyData.depthAll]
    omega
theorem ok_dLt (c : Ltr) (h : PyData.strOk c.name = true) : (dLt c).canLay0 = true ∧ (dLt c).depth ≤ 10 := by
  refine ⟨?_, ?_⟩
  · simp [dLt, PyData.canLay0, PyData.canLayAll0, h]
  · simp [dLt, PyData.depth, PyData.depthAll]
theorem ok_dPr (c : Int × Int) : (dPr c).canLay0 = true ∧ (dPr c).depth ≤ 10 := by
  refine ⟨?_, ?_⟩
  · simp [dPr, PyData.canLay0, PyData.canLayAll0]
  · simp [dPr, PyData.depth, PyData.depthAll]
theorem ok_dStr (z : Str) (h : PyData.strOk z = true) : (PyData.str z).canLay0 = true ∧ (PyData.str z).depth ≤ 10 := ⟨by simp [PyData.canLay0, h], by simp [PyData.depth]⟩
end Ts
namespace Ts
open PySem PySem.Spec PyProof.Rows L2
/-- values told by places, in the order of the places -/
theorem paired_range {α : Type} {R : V → α → Prop} {l : List α} {ys : List V} (h : Paired (fun i y => ∃ t, l[i]? = some t ∧ R y t) (List.range l.length) ys) : Paired R ys l := by
  have gen : ∀ (n : Nat) (ys : List V), n ≤ l.length → Paired (fun i y => ∃ t, l[i]? = some t ∧ R y t) (List.range n) ys → Paired R ys (l.take n) := by
    intro n
    induction n with
    | zero =>
      intro ys _ h
      simp at h
      cases h
      simp
      exact .nil
    | succ n ih =>
      intro ys hn h
      rw [List.range_succ] at h
      obtain ⟨ys', y, rfl, h1, t, ht, r⟩ := paired_filter.paired_snoc_inv h
      rw [List.take_add_one, ht]
      exact Paired.snoc r (ih ys' (by omega) h1)
  have := gen l.length ys (Nat.le_refl _) h
  rw [List.take_length] at this
  exact this
end Ts

/-! Signs of a text; parts of tuples; places of lists that change. -/
namespace Ts
open PySem PySem.Spec PyProof.Rows L2
section
variable {σ : L2.St} {H : Hp} {Q : VK} {K : PySem.W.Frag} {v : V} {i j : Int} {te : TE} {tl th : TO}
theorem q_notInS {c : Nat} {z : Str} (q : Q (.bl (!decide (c ∈ z.cps.toList))) H) : rNotInS (.str ⟨#[c]⟩) (.str z) H Q := ⟨c, z, rfl, rfl, q⟩
theorem q_lenLit {z : Str} (n : Nat) (e : z.length = n) (h : n ≤ 1000000) (q : Q (.int (n : Nat)) H) : rLen K [.str z] H Q := q_lenS (by rw [e]; exact size_of h) (by rw [e]; exact q)
theorem q_gSub {to ti : TE} {t : TSet} {nx : L2.St → Hp → Prop} (q : to σ H fun o H1 => ti σ H1 fun i H2 => t o i v H2 fun H3 => nx σ H3) : gSub to ti t v σ H nx := q
theorem q_setL {p : Addr} {xs : List V} {R : Hp → Prop} (h : H p = some (.lst xs)) (h0 : 0 ≤ i) (h1 : i < xs.length) (q : R (upd H p (.lst (xs.set i.toNat v)))) : rSetL (.ref p) (.int i) v H R := by
  obtain ⟨k, rfl⟩ : ∃ k : Nat, i = (k : Int) := ⟨i.toNat, by omega⟩
  exact ⟨p, xs, _, k, rfl, rfl, h, (by unfold ixN; rw [if_pos (by omega), if_pos (by omega)]; rfl), q⟩
theorem q_catF {a b : Addr} {xs ys : List V} (h1 : H a = some (.lst xs)) (h2 : H b = some (.lst ys)) (hl : xs.length + ys.length ≤ sizeLine) (q : ∀ p H', H p = none → Same H H' → H' p = some (.lst (xs ++ ys)) → Q (.ref p) H') : rCat (.ref a) (.ref b) H Q :=
  ⟨a, b, xs, ys, rfl, rfl, h1, h2, hl, fun p hp => q p _ hp (same_upd hp) upd_same⟩
theorem q_slT1 {a : Addr} {v0 v1 v2 v3 v4 : V} (h : H a = some (.tup [v0, v1, v2, v3, v4])) (q : ∀ p H', Same H H' → H' p = some (.tup [v1, v2, v3, v4]) → Q (.ref p) H') : rSlT K (.ref a) (some 1) none H Q :=
  ⟨a, _, rfl, sqT_of h, by simp [HT.sIx], fun p hp => q p _ (same_upd hp) (by rw [upd_same]; rfl)⟩
theorem sl_tupK {X : Cx} (K : PySem.W.Frag) (h : X.K = K := by rfl) : SlR X (rSlT K) := by subst h; exact sl_tup
/-- signs below 128 alone -/
def Asc (z : Str) : Prop := ∀ c ∈ z.cps.toList, c < 128
theorem Asc.app {a b : Str} (ha : Asc a) (hb : Asc b) : Asc (a ++ b) := fun c h => by
  rw [tl_app] at h
  rcases List.mem_append.mp h with h | h
  · exact ha c h
  · exact hb c h
theorem Asc.ok {z : Str} (h : Asc z) : PyData.strOk z = true := by
  unfold PyData.strOk
  rw [Array.all_eq_true]
  intro i hi
  have := h z.cps[i] (by simp)
  simp
  omega
theorem Low.asc {z : Str} (h : Low z) : Asc z := fun c hc => by have := h c hc; omega
theorem asc_one {c : Nat} (h : c < 128) : Asc ⟨#[c]⟩ := fun d hd => by
  simp at hd
  omega
theorem Asc.cut {z : Str} {lo hi : Option Int} (h : Asc z) : Asc (cutS z lo hi) := fun c hc => h c (List.mem_of_mem_drop (List.mem_of_mem_take (by
  have e : (cutS z lo hi).cps.toList = (z.cps.toList.drop (HT.sIx z.length 0 lo)).take (HT.sIx z.length z.length hi - HT.sIx z.length 0 lo) := by unfold cutS; simp
  rw [e] at hc
  exact hc)))
theorem q_ixLit {z : Str} (n : Nat) (e : z.length = n) (ha : z.cps.toList.all (fun c => decide (c < 128)) = true) (hn : n ≤ 1000000) (h0 : 0 ≤ i) (h1 : i < n) (q : ∀ c : Nat, c < 128 → Q (.str ⟨#[c]⟩) H) : rIxS (.str z) (.int i) H Q := by
  obtain ⟨k, rfl⟩ : ∃ k : Nat, i = (k : Int) := ⟨i.toNat, by omega⟩
  have hk : k < z.cps.toList.length := by rw [← tl_len, e]; omega
  refine ⟨z, _, z.cps.toList[k], rfl, rfl, by rw [e]; exact size_of hn, atI_nat (List.getElem?_eq_getElem hk), q _ ?_⟩
  exact of_decide_eq_true (List.all_eq_true.mp ha _ (List.getElem_mem hk))
theorem mem_abc {c : Nat} : c ∈ abc.cps.toList ↔ 97 ≤ c ∧ c ≤ 122 := by
  rw [show abc.cps.toList = (List.range 26).map (fun i => 97 + i) from by decide +kernel, List.mem_map]
  constructor
  · rintro ⟨i, hi, rfl⟩
    have := List.mem_range.mp hi
    omega
  · intro h
    exact ⟨c - 97, List.mem_range.mpr (by omega), by omega⟩
/-- a list of texts against the empty one -/
theorem q_neNilS {p r : Addr} {zs : List Str} (h1 : H p = some (.lst (zs.map V.str))) (h2 : H r = some (.lst [])) (hz : ∀ z ∈ zs, PyData.strOk z = true) (q : Q (.bl (!zs.isEmpty)) H) : rNeD K (.ref p) (.ref r) H Q := by
  refine ⟨.list (zs.map PyData.str), .list [], dp_lstrs h1, .lst (sqL_of h2) .nil, shaped_list zs fun a ha => ok_dStr a (hz a ha), rfl, ?_⟩
  cases zs with
  | nil => exact q
  | cons a r => exact q
theorem set4 (a b c d z : Int) (j : Nat) (hj : j < 4) : ∃ a' b' c' d' : Int, ([V.int a, .int b, .int c, .int d].set j (.int z)) = [V.int a', .int b', .int c', .int d'] := by
  rcases j with _ | _ | _ | _ | j
  · exact ⟨_, _, _, _, rfl⟩
  · exact ⟨_, _, _, _, rfl⟩
  · exact ⟨_, _, _, _, rfl⟩
  · exact ⟨_, _, _, _, rfl⟩
  · omega
end
theorem flip_ {α β : Type} {R : α → β → Prop} : ∀ {xs : List α} {ys : List β}, Paired R xs ys → Paired (fun y x => R x y) ys xs
  | _, _, .nil => .nil
  | _, _, .cons r t => .cons r (flip_ t)
/-! ### names and letters that are some -/
def IsName (z : Str) : Prop := 1 ≤ z.length ∧ z.length ≤ 12 ∧ Low z
def NumOk (x : Int) : Prop := 0 ≤ x ∧ x ≤ 1000000000000
def Good (L : Ltr) : Prop := NumOk L.sent ∧ NumOk L.back ∧ NumOk L.low ∧ NumOk L.high ∧ L.sent ≤ L.back ∧ L.low ≤ L.high
theorem Good.mem {L : Ltr} (h : Good L) : ∀ x ∈ [L.sent, L.back, L.low, L.high], NumOk x := by
  obtain ⟨h1, h2, h3, h4, _⟩ := h
  intro x hx
  simp at hx
  rcases hx with rfl | rfl | rfl | rfl <;> assumption
theorem Good.of {L : Ltr} (h : ∀ x ∈ [L.sent, L.back, L.low, L.high], NumOk x) (h1 : L.sent ≤ L.back) (h2 : L.low ≤ L.high) : Good L := ⟨h _ (by simp), h _ (by simp), h _ (by simp), h _ (by simp), h1, h2⟩
theorem map_at {α : Type} {f : α → V} {l : List α} {i : Nat} {x : V} (h : (l.map f)[i]? = some x) : ∃ t, l[i]? = some t ∧ x = f t := by
  rw [List.getElem?_map] at h
  cases e : l[i]? with
  | none => rw [e] at h; cases h
  | some t => rw [e] at h; cases h; exact ⟨t, rfl, rfl⟩
theorem take_all {α : Type} {l : List α} {i : Nat} {t : α} {p : α → Prop} (h : l[i]? = some t) (ht : p t) (hl : ∀ x ∈ l.take i, p x) : ∀ x ∈ l.take (i + 1), p x := by
  intro x hx
  rw [List.take_add_one, h] at hx
  rcases List.mem_append.mp hx with hx | hx
  · exact hl x hx
  · simp at hx
    rw [hx]
    exact ht
/-- both ways of an if lead on to one place -/
theorem q_join {t u : TS} {p : Prop} [Decidable p] {nx bk ct : L2.St → Hp → Prop} {rt : VK} {σ : L2.St} {H : Hp} (P : L2.St → Hp → Prop) (h1 : ∀ σ' H', P σ' H' → nx σ' H')
    (h2 : ∀ nx' : L2.St → Hp → Prop, (∀ σ' H', P σ' H' → nx' σ' H') → if p then t ⟨nx', rt, bk, ct⟩ σ H else u ⟨nx', rt, bk, ct⟩ σ H) : if p then t ⟨nx, rt, bk, ct⟩ σ H else u ⟨nx, rt, bk, ct⟩ σ H := h2 nx h1
theorem q_joinS {tt : TT} {t u : TS} {nx bk ct : L2.St → Hp → Prop} {rt : VK} {σ : L2.St} {H : Hp} (P : L2.St → Hp → Prop) (h1 : ∀ σ' H', P σ' H' → nx σ' H')
    (h2 : ∀ nx' : L2.St → Hp → Prop, (∀ σ' H', P σ' H' → nx' σ' H') → tIfS tt t u ⟨nx', rt, bk, ct⟩ σ H) : tIfS tt t u ⟨nx, rt, bk, ct⟩ σ H := h2 nx h1
theorem two_of {ys : List V} (h : Paired (fun (_ : Nat) v => ∃ z : Int, v = V.int z) ((List.range (Int.toNat 2)).filter fun _ => true) ys) : ∃ x y : Int, ys = [.int x, .int y] := by
  rw [filt_all] at h
  have e : List.range (Int.toNat 2) = [0, 1] := rfl
  rw [e] at h
  cases h with
  | cons h1 t =>
    cases t with
    | cons h2 t =>
      cases t
      obtain ⟨x, rfl⟩ := h1
      obtain ⟨y, rfl⟩ := h2
      exact ⟨x, y, rfl⟩
theorem shaped_lt {L : Ltr} (h : PyData.strOk L.name = true) : SeqAt.shaped (dLt L) = true := by
  obtain ⟨a, b⟩ := ok_dLt L h
  unfold SeqAt.shaped
  simp [a]
  omega
end Ts

/-! Letters as rows of a text. -/
namespace Ts
open PySem PySem.Spec PyProof.Rows L2
/-- a number as a text -/
def nT (n : Int) : Str := Str.ofString (toString n)
theorem nT_len {n : Int} (h : NumOk n) : (nT n).length ≤ 13 := PyProof.Rows.toString_length_le h.1 (by decide) (by
  have := h.2
  have e : (10 : Int) ^ 13 = 10000000000000 := by decide
  omega)
theorem nT_log {n : Int} (h : NumOk n) : n.natAbs.log2 < 1920 := PyProof.Rows.shown (N := 2 ^ 50) (by
  have := h.1
  have e : (2 : Int) ^ 50 = 1125899906842624 := by decide
  omega) (by
  have := h.2
  have e : (2 : Int) ^ 50 = 1125899906842624 := by decide
  omega) (by decide +kernel)
/-- a letter's row without its line feed -/
def rowS (L : Ltr) : Str := L.name ++ " sent " ++ nT L.sent ++ " back " ++ nT L.back ++ " swears " ++ nT L.low ++ " to " ++ nT L.high
theorem l_sent : (" sent " : Str).length = 6 := by decide +kernel
theorem l_back : (" back " : Str).length = 6 := by decide +kernel
theorem l_swears : (" swears " : Str).length = 8 := by decide +kernel
theorem l_to : (" to " : Str).length = 4 := by decide +kernel
theorem l_nl : ("\n" : Str).length = 1 := by decide +kernel
theorem l_emp : (Str.empty : Str).length = 0 := by decide +kernel
theorem rowS_len {L : Ltr} (hn : L.name.length ≤ 12) (h : Good L) : (rowS L).length ≤ 88 := by
  have h1 := nT_len h.1
  have h2 := nT_len h.2.1
  have h3 := nT_len h.2.2.1
  have h4 := nT_len h.2.2.2.1
  unfold rowS
  simp only [PySem.strLen_append, l_sent, l_back, l_swears, l_to]
  omega
section
variable {σ : L2.St} {H : Hp} {Q : VK} {i : Int} {z : Str} {te to : TE} {t : TE} {ts : List TE} {acc : Str} {QS : Str → Hp → Prop}
def tJoin (ts : List TE) : TE := fun σ H Q => tJs ts Str.empty σ H fun out H1 => Q (.str out) H1
theorem pe_joinT {X : Cx} {v1 v2 : Expr} {rest : List Expr} {pos : Pos} (h : PJ X (v1 :: v2 :: rest) ts) : PE X (.JoinedStr (v1 :: v2 :: rest) pos) (tJoin ts) := pe_joined h
theorem q_tJoin (q : tJs ts Str.empty σ H fun out H1 => Q (.str out) H1) : tJoin ts σ H Q := q
def rStrI : List V → Hp → VK → Prop := fun xs H Q => ∃ i, xs = [.int i] ∧ i.natAbs.log2 < 1920 ∧ Q (.str (nT i)) H
theorem call_strI {X : Cx} : CallR X (.type "str") rStrI := call_str_int
theorem q_strI (h : i.natAbs.log2 < 1920) (q : Q (.str (nT i)) H) : rStrI [.int i] H Q := ⟨i, rfl, h, q⟩
theorem q_fmtS (q : te σ H fun x H1 => (∃ y : Str, x = .str y ∧ y.length ≤ sizeLine ∧ Q (.str y) H1) ∨ ∃ i : Int, x = .int i ∧ i.natAbs.log2 < 1920 ∧ Q (.str (nT i)) H1) : tFmt te σ H Q := q
theorem q_orS {A : Str → Prop} {B : Int → Prop} (h : z.length ≤ 1000000) (q : A z) : (∃ y : Str, V.str z = .str y ∧ y.length ≤ sizeLine ∧ A y) ∨ ∃ i : Int, V.str z = .int i ∧ i.natAbs.log2 < 1920 ∧ B i := .inl ⟨z, rfl, size_of h, q⟩
theorem q_orI {A : Str → Prop} {B : Int → Prop} (h : i.natAbs.log2 < 1920) (q : B i) : (∃ y : Str, V.int i = .str y ∧ y.length ≤ sizeLine ∧ A y) ∨ ∃ j : Int, V.int i = .int j ∧ j.natAbs.log2 < 1920 ∧ B j := .inr ⟨i, rfl, h, q⟩
theorem q_jsNil (q : QS acc H) : tJs [] acc σ H QS := q
theorem q_jsCons (q : t σ H fun x H1 => ∃ y : Str, x = .str y ∧ (acc ++ y).length ≤ sizeLine ∧ tJs ts (acc ++ y) σ H1 QS) : tJs (t :: ts) acc σ H QS := q
theorem q_jsPart {P : Str → Prop} (h : (acc ++ z).length ≤ 1000000) (q : P z) : ∃ y : Str, V.str z = .str y ∧ (acc ++ y).length ≤ sizeLine ∧ P y := ⟨z, rfl, size_of h, q⟩
theorem q_tM1 {r : V → List V → Hp → VK → Prop} (q : to σ H fun x H1 => (∃ a, x = .str a) ∧ te σ H1 fun y H2 => r x [y] H2 Q) : tM1 r to te σ H Q := q
theorem q_isTxt {P : Prop} (q : P) : (∃ a, V.str z = .str a) ∧ P := ⟨⟨z, rfl⟩, q⟩
end
theorem take_snocL {α : Type} {cs : List α} {i : Nat} {c : α} (h : cs[i]? = some c) : cs.take (i + 1) = cs.take i ++ [c] := by
  rw [List.take_add_one, h]
  rfl
theorem emp_app (z : Str) : Str.empty ++ z = z := str_ext (by rw [tl_app]; rfl)
/-- rows, each with its line feed -/
def rowsS : List Ltr → Str
  | [] => ""
  | L :: r => rowS L ++ "\n" ++ rowsS r
theorem app_assoc (a b c : Str) : a ++ b ++ c = a ++ (b ++ c) := str_ext (by rw [tl_app, tl_app, tl_app, tl_app, List.append_assoc])
theorem app_emp (a : Str) : a ++ "" = a := str_ext (by
  rw [tl_app]
  have : ("" : Str).cps.toList = [] := by decide +kernel
  rw [this, List.append_nil])
theorem rowsS_snoc : ∀ (ls : List Ltr) (L : Ltr), rowsS (ls ++ [L]) = rowsS ls ++ rowS L ++ "\n"
  | [], L => by
    show rowS L ++ "\n" ++ "" = "" ++ rowS L ++ "\n"
    rw [app_emp]
    congr 1
    exact (emp_app _).symm
  | M :: r, L => by
    show rowS M ++ "\n" ++ rowsS (r ++ [L]) = rowS M ++ "\n" ++ rowsS r ++ rowS L ++ "\n"
    rw [rowsS_snoc r L]
    simp only [app_assoc]
theorem rowsS_join : ∀ (ls : List Ltr), Str.join "" (ls.map fun L => rowS L ++ "\n") = rowsS ls
  | [] => by
    show Str.empty = ""
    exact str_ext (by decide +kernel)
  | [L] => by
    show rowS L ++ "\n" = rowS L ++ "\n" ++ ""
    rw [app_emp]
  | L :: M :: r => by
    show rowS L ++ "\n" ++ "" ++ Str.join "" ((M :: r).map fun L => rowS L ++ "\n") = rowS L ++ "\n" ++ rowsS (M :: r)
    rw [rowsS_join (M :: r), app_emp]
theorem rowsS_len : ∀ {ls : List Ltr}, (∀ L ∈ ls, L.name.length ≤ 12 ∧ Good L) → (rowsS ls).length ≤ 89 * ls.length
  | [], _ => by
    have : (rowsS []).length = 0 := by decide +kernel
    omega
  | L :: r, h => by
    have h1 := rowsS_len (ls := r) fun M hM => h M (List.mem_cons_of_mem _ hM)
    have h2 := rowS_len (h L List.mem_cons_self).1 (h L List.mem_cons_self).2
    show (rowS L ++ "\n" ++ rowsS r).length ≤ _
    rw [PySem.strLen_append, PySem.strLen_append, l_nl, List.length_cons]
    omega
theorem rows_sum : ∀ {ls : List Ltr}, (∀ L ∈ ls, L.name.length ≤ 12 ∧ Good L) → ((ls.map fun L => rowS L ++ "\n").map (·.length)).sum ≤ 89 * ls.length
  | [], _ => by simp
  | L :: r, h => by
    have h1 := rows_sum (ls := r) fun M hM => h M (List.mem_cons_of_mem _ hM)
    have h2 := rowS_len (h L List.mem_cons_self).1 (h L List.mem_cons_self).2
    rw [List.map_cons, List.map_cons, List.sum_cons, PySem.strLen_append, l_nl, List.length_cons]
    omega
/-! ### letters drawn, cuts of lists -/
theorem lts_ofP {Pz : Ltr → Prop} {H : Hp} {l : List Nat} {ys : List V} (h : Paired (fun (_ : Nat) v => ∃ L, IsLt H v L ∧ Pz L) l ys) : ∃ ls, Lts H ys ls ∧ (∀ L ∈ ls, Pz L) ∧ ls.length = l.length := by
  induction h with
  | nil => exact ⟨[], .nil, fun _ h => (List.not_mem_nil h).elim, rfl⟩
  | cons h1 _ ih =>
    obtain ⟨L, a, b⟩ := h1
    obtain ⟨ls, c, d, e⟩ := ih
    refine ⟨L :: ls, .cons a c, fun M hM => ?_, by rw [List.length_cons, List.length_cons, e]⟩
    rcases List.mem_cons.mp hM with rfl | hM
    · exact b
    · exact d M hM
theorem cutV_map {α : Type} (g : α → V) (ns : List α) (lo hi : Option Int) : ∃ ms : List α, cutV (ns.map g) lo hi = ms.map g ∧ ms.length ≤ ns.length := by
  refine ⟨(ns.drop (HT.sIx ns.length 0 lo)).take (HT.sIx ns.length ns.length hi - HT.sIx ns.length 0 lo), ?_, ?_⟩
  · unfold cutV
    rw [List.length_map, ← List.map_drop, ← List.map_take]
  · rw [List.length_take, List.length_drop]
    omega
theorem q_slLst {K : PySem.W.Frag} {a : Addr} {xs : List V} {lo hi : Option Int} {H : Hp} {Q : VK} (h : SqL K H a xs) (q : ∀ p H', Same H H' → H p = none → H' p = some (.lst (cutV xs lo hi)) → Q (.ref p) H') : rSlL K (.ref a) lo hi H Q := ⟨a, xs, rfl, h, fun p hp => q p _ (same_upd hp) hp upd_same⟩
end Ts

/-! A list comprehension whose element may raise out of the def (x = [f(y) for ..], f may raise). -/
namespace Ts
open PySem PySem.Spec PyProof.Rows L2
/-- what the block owes X when something leaves it -/
abbrev owes (X : Cx) (ce : Env) : Value → Shared → Prop := notedBy (model X.prog X.w) X.A ce (CompFails (model X.prog X.w) X.A X.xe ce)
/-- the block's context -/
abbrev blkX (X : Cx) (s : Shared) (H : Hp) (scope : Scope) (ce : Env) (fp : List Addr) : Cx := (X.blk s H scope ce fp).tr [] (owes X ce)
theorem ns_of_keep {h h' : Heap} {a : Addr} {m : Str → Option Value} (k : ∀ o, h.get? a = some o → h'.get? a = some o) (n : h.Ns a m) : h'.Ns a m := by
  obtain ⟨o, es, ep, ho, r⟩ := n
  exact ⟨o, es, ep, k _ ho, r⟩
/-- the block's own dict let go: what flies stays as it was -/
theorem held_but {B h h' : Heap} {l : List Env} {a C L : Addr} {Z : Obj → Prop} {m m' : Str → Option Value} (hh : HandSPX.HeldZ B l a Z L h) (hC : h.Ns C m) (hC' : h'.Ns C m') (sb : Heap.SameBut C h h') :
    ∀ B' : Heap, (∀ b o, B'.get? b = some o → b ≠ C ∧ B.get? b = some o) → HandSPX.HeldZ B' l a Z L h' := by
  intro B' hB
  obtain ⟨h1, h2, h3, oe, vs, T, oT, ts, e1, e2, e3, e4, e5, e6, e7, e8, e9⟩ := hh
  obtain ⟨oc, es, ep, ho, r⟩ := hC
  have nB : ∀ b, B.get? b = none → B'.get? b = none := fun b hb => by
    cases q : B'.get? b with
    | none => rfl
    | some o => rw [(hB b o q).2] at hb; cases hb
  have nf : ∀ (o : Obj) (fs : Array Value), h.get? C = some o → o.data = .fields fs → False := fun o fs q d => by
    rw [ho] at q
    cases q
    rw [r.1] at d
    cases d
  have aC : a ≠ C := fun e => nf oe vs (e ▸ e1) e3
  have tC : T ≠ C := fun e => nf oT ts (e ▸ e7) e8
  have kp : ∀ b o, b ≠ C → h.get? b = some o → h'.get? b = some o := fun b o hb q => (sb.2 b hb).trans q
  refine ⟨fun b o q => kp b o (hB b o q).1 (h1 b o (hB b o q).2), nB a h2, ?_, oe, vs, T, oT, ts, kp _ _ aC e1, e2, e3, e4, nB T e5, e6, kp _ _ tC e7, e8, e9⟩
  have fr : h'.FunFrames B l := Heap.FunFrames.sameBut sb hC' h3
  refine funFrames_none fr fun b hb => nB b ?_
  exact (h3.mem hb).1
theorem hide_one (h : Heap) (C : Addr) : ∃ G : Heap, (∀ b, b ≠ C → G.get? b = h.get? b) ∧ G.get? C = none := by
  obtain ⟨G, g1, g2⟩ := restrict h fun b => decide (b ≠ C)
  exact ⟨G, fun b hb => g1 b (decide_eq_true hb), g2 C (decide_eq_false (fun z => z rfl))⟩
/-- what a callee lets out of the element, the block passes on to X -/
theorem passBlk {X : Cx} {E : XK} (tk : Takes X (fun cls d _ H => E cls d H)) (hst : X.stack = X.env :: X.outer) (hfr : X.env.frame = some X.env.locals) {pins0 : List (Addr × Obj)} {σ0 : L2.St} {H0 : Hp} {s0 : Shared} (I0 : Inv X pins0 σ0 H0 s0) {fp : List Addr}
    (f0 : ∀ b ∈ fp, FpOk X pins0 H0 b ∧ b < s0.heap.objs.size) {scope : Scope} {cl : List (Str × Addr)} {C : Addr} (hC : FpOk X pins0 H0 C) (σ : L2.St) :
    PassesAt (L2.CX X.prog X.w) (blkX X s0 H0 scope (compEnvC scope cl C X.env) fp) σ (fun cls d H => E cls d H) := by
  intro pins H s e s1 I c
  obtain ⟨a, B, sI, pI, σI, HI, cls, d, rfl, II, nb, up, sky, na, os, ag, w⟩ := XE.of_call (W := fun cls d _ H => E cls d H) I (fun _ _ _ h => h) c
  have fly : HandSPX.FlyingZ B X.stack a (Zc cls d) s1.heap := by
    obtain ⟨a0, B0, H1, cls0, d0, ea, fl, _⟩ := c
    cases ea
    obtain ⟨_, _, _, oe, vs, T, oT, ts, e1, _, e3, e4, _, _, e7, e8, e9⟩ := fl
    rcases sky with ⟨_, _, _, oe2, vs2, q1, _, q3, q4⟩ | fl2 | ⟨_, _, _, oe2, vs2, T2, oT2, ts2, q1, _, q3, q4, _, _, q7, q8, q9⟩
    · rw [e1] at q1
      cases q1
      rw [e3] at q3
      cases q3
      rw [e4] at q4
      cases q4
    · exact fl2
    · rw [e1] at q1
      cases q1
      rw [e3] at q3
      cases q3
      rw [e4] at q4
      cases q4
      rw [e7] at q7
      cases q7
      rw [e8] at q8
      cases q8
      rw [e9] at q9
      cases q9
  have hA : X.A.frames = some (X.env :: X.outer) := by rw [I0.ok.frames, hst]
  rw [hst] at fly
  -- noted in the def's own frame
  show wpAny (model X.prog X.w) X.A (noteFrame (.ref a) X.env) _ _ s1
  refine HandSPX.looks_onZ Zc.steady hA hfr fly fun h1 held up1 => ?_
  -- back in the def
  have J : Inv X pins0 σ0 HI sI := I0.call' (ch := fp) II.os II.base II.hok II.bare fun b hb => ⟨(f0 b hb).1.2.2.2.1, (f0 b hb).1.2.1, (f0 b hb).1.2.2.2.2.1, (f0 b hb).1.2.2.2.2.2⟩
  have hCI : HI C = none := II.free
  obtain ⟨m, hn, _⟩ := II.loc
  have hn : sI.heap.Ns C m := hn
  have cF : C ∉ frs X.stack := fun z => by
    rcases List.mem_cons.mp (J.stkSub C z) with z | z
    · exact hC.2.1 z
    · exact hC.2.2.1 z
  have hn1 : h1.Ns C m := ns_of_keep (fun o q => held.1 _ _ (nb C o q cF)) hn
  refine ⟨m, hn1, fun h2 m2 hn2 sb => ?_⟩
  obtain ⟨B2, b1, b2⟩ := hide_one B C
  obtain ⟨G, g1, g2⟩ := hide_one sI.heap C
  have held2 : HandSPX.HeldZ B2 (X.env :: X.outer) a (Zc cls d) X.env.locals h2 := held_but held hn1 hn2 sb B2 fun b o q => by
    have hb : b ≠ C := fun z => by rw [z, b2] at q; cases q
    exact ⟨hb, by rw [← b1 b hb]; exact q⟩
  have J2 : Inv X pins0 σ0 HI { sI with heap := G, toks := sI.toks } := J.turned (t' := sI.toks) (fun b o hb q => (g1 b hb).trans q) hCI hC.2.1 hC.2.2.2.1 hC.2.2.2.2.1 hC.2.2.2.2.2
  unfold PySem.passOn
  obtain ⟨_, _, _, oe, vs, T, oT, ts, e1, _, e3, e4, _⟩ := id held2
  refine wpAny_bind (wpAny_field e1 e3 e4 ?_)
  rw [if_neg (show ¬ ((Value.ref T == Value.none) = true) from by simp)]
  have ef : (compEnvC scope cl C X.env).frame = some X.env.locals := hfr
  rw [ef]
  refine wpAny_bind (HandSPX.setFlight_onZ held2 fun h3 held3 up3 => ?_)
  refine wpAny_throw (tk _ _ ⟨a, B2, _, pins0, σ0, HI, cls, d, rfl, J2, fun b o q hb => ?_, fun b o q hnf => ?_, ?_, na, os, ag, w⟩)
  · have hbC : b ≠ C := fun z => by
      have q' : G.get? b = some o := q
      rw [z, g2] at q'
      cases q'
    have q' : G.get? b = some o := q
    rw [g1 b hbC] at q'
    rw [b1 b hbC]
    exact nb b o q' hb
  · have hbC : b ≠ C := fun z => by
      have q' : G.get? b = some o := q
      rw [z, g2] at q'
      cases q'
    have q' : G.get? b = some o := q
    rw [g1 b hbC] at q'
    obtain ⟨sl, u1⟩ := up b o q' hnf
    obtain ⟨sl2, u2⟩ := up1 b _ u1 hnf
    have u3 : h2.get? b = _ := (sb.2 b hbC).trans u2
    obtain ⟨sl3, u4⟩ := up3 b _ u3 hnf
    exact ⟨sl3, u4⟩
  · rw [hst]
    exact .inr (.inr held3)
/-- a block that begins where an own list stands, its element may raise -/
theorem lcX_core {X : Cx} {pins : List (Addr × Obj)} {s : Shared} {σ : L2.St} {H : Hp} {Q : VK} {elt tg iter : Expr} {ifs : List Expr} {scope : Scope} {own : List (Str × Nat)} {pos pos' : Pos} {wi : TI} {g : TG} {tt : TT} {te : TE} {use : Option (Value → Sem Unit)} {Qf : Value → Shared → Prop}
    (hcalm : X.calm = true) (hnd : X.N.Nodup) (I : Inv X pins σ H s) (hi : PI X tg iter wi) (ok : BlkOk X.N X.env.scope scope own)
    (hg : ∀ (s : Shared) (H : Hp) (C : Addr) (cl : List (Str × Addr)) (fp : List Addr), PG (blkX X s H scope (compEnvC scope cl C X.env) fp) tg g)
    (ht : ∀ (s : Shared) (H : Hp) (C : Addr) (cl : List (Str × Addr)) (fp : List Addr), PTs (blkX X s H scope (compEnvC scope cl C X.env) fp) ifs tt)
    (he : ∀ (pins : List (Addr × Obj)) (σ : L2.St) (s : Shared) (H : Hp) (C : Addr) (cl : List (Str × Addr)) (fp : List Addr), Inv X pins σ H s → (∀ b ∈ fp, FpOk X pins H b ∧ b < s.heap.objs.size) → FpOk X pins H C → PE (blkX X s H scope (compEnvC scope cl C X.env) fp) elt te)
    (hfold : ∀ x, foldedSetIterable iter X.env x = pure x) (h : tLc wi g tt te (own.map (·.2)) σ H Q)
    (hend : ∀ D ce s' m H', Inv X pins σ H' s' → Q (.ref D) H' → s'.heap.Ns ce.locals m → FpOk X pins H' ce.locals → compEnds (model X.prog X.w) X.A X.xe use Qf (.ref D) ce (.ok .next) s') :
    wpAny (model X.prog X.w) X.A (comprehension (.ListComp elt [⟨tg, iter, ifs, 0⟩] scope pos) scope X.env pos' (newList []) false (eval iter X.env) use) Qf X.xe s := by
  have caught : ∀ y ∈ scope.names, y.2 = .free → ∃ c, X.env.cells.lookup y.1 = some c := fun y hy e =>
    (ok.free y hy e).elim (fun k => I.ok.has _ (.inl k)) fun k => I.ok.has _ (.inr k)
  refine comprehension_at (use := use) rfl hfold (closure_ok caught) ok.kind (fun y hy e => by rw [ok.uniq y hy, e]) ?_
  refine thn (hi.run pins s σ H _ I h) fun xv sa ha => thn ha fun itv sb hb => ?_
  obtain ⟨it, fp, tn, J, Hb, eit, Ib, T, stb, fb, turn0⟩ := hb
  subst eit
  refine wpAny_newObj_type (newEnv_comp ?_) (by show 0 ≤ sizeLine; decide)
  generalize eD : sb.heap.objs.size = D
  have nD : Hb D = none := Ib.hok.fresh (Nat.le_of_eq eD)
  obtain ⟨W, ⟨m0, w0⟩, turn⟩ := turn0 D nD
  generalize ec : ({ sb with heap := sb.heap.push { cls := .type "list", data := .seq ([] : List Value).toArray } } : Shared) = sc
  have hcs : sc.heap = sb.heap.push { cls := .type "list", data := .seq ([] : List Value).toArray } := by rw [← ec]
  have Ic : Inv X pins σ (upd Hb D (.lst [])) sc := by
    subst ec
    refine Ib.laid (t' := sb.toks) (fun b o q => Heap.get?_push_of_some _ q) (Nat.le_of_eq eD) ⟨Nat.zero_le _, [], 0, .nil, ?_⟩
    rw [← eD]
    exact Heap.get?_push_size _ rfl
  have old : ∀ b ∈ fp, b < sb.heap.objs.size := fun b hb => by
    obtain ⟨o, q, _⟩ := T.obj _ _ stb b hb
    exact Heap.lt_size q
  have fc : ∀ b ∈ fp, FpOk X pins (upd Hb D (.lst [])) b ∧ b < sc.heap.objs.size := fun b hb => by
    have lt := old b hb
    refine ⟨⟨?_, (fb b hb).2⟩, ?_⟩
    · rw [upd_ne (fun z => absurd lt (by rw [z, ← eD]; exact Nat.lt_irrefl _))]
      exact (fb b hb).1
    · rw [hcs, Heap.size_push]
      exact Nat.lt_succ_of_lt lt
  have stc : tn 0 sc.heap := T.keep _ _ _ stb fun b _ o q => by
    rw [hcs]
    exact Heap.get?_push_of_some _ q
  have nC0 : (upd Hb D (.lst [])) sc.heap.objs.size = none := Ic.hok.fresh (Nat.le_refl _)
  have hC : FpOk X pins (upd Hb D (.lst [])) sc.heap.objs.size := Ic.fpOk (Nat.le_refl _) nC0
  have Ie := block_start Ic ok hnd fc
  generalize ecl : cellsFrom (sc.heap.objs.size + 1) scope.names (cloFrom X.env.cells scope.names []) = cl at Ie
  have pg := hg sc (upd Hb D (.lst [])) sc.heap.objs.size cl fp
  have pt := ht sc (upd Hb D (.lst [])) sc.heap.objs.size cl fp
  have pe := he pins σ sc (upd Hb D (.lst [])) sc.heap.objs.size cl fp Ic fc hC
  show codeAny _ _ (.compStart (.ListComp elt [⟨tg, iter, ifs, 0⟩] scope pos) 0 (.ref it) (.ref D) (compEnvC scope cl sc.heap.objs.size X.env)) (compEnds (model X.prog X.w) X.A X.xe use Qf (.ref D) (compEnvC scope cl sc.heap.objs.size X.env)) { sc with heap := pushCells (sc.heap.push { cls := .type "dict", data := .dict #[] }) scope.names }
  have nfp : ∀ b ∈ fp, (upd Hb D (.lst [])) b = none := fun b hb => (fc b hb).1.1
  generalize ece : compEnvC scope cl sc.heap.objs.size X.env = ce at Ie pg pt pe ⊢
  have lce : ce.locals = sc.heap.objs.size := by subst ece; rfl
  generalize eH : upd Hb D (.lst []) = Hc at Ic Ie pg pt pe w0 nfp fc hC
  generalize ee : ({ sc with heap := pushCells (sc.heap.push { cls := .type "dict", data := .dict #[] }) scope.names } : Shared) = se at Ie ⊢
  have ste : tn 0 se.heap := T.keep _ _ _ stc fun b _ o q => by
    subst ee
    exact pushCells_keeps _ _ _ _ (Heap.get?_push_of_some _ q)
  have Ie : Inv (blkX X sc Hc scope ce fp) [] (wipe σ (own.map (·.2))) Hc se := Ie.toTry (owes X ce)
  have stat : ∀ {σ' : L2.St} {H' : Hp} {s' : Shared}, Inv (blkX X sc Hc scope ce fp) [] σ' H' s' → (∀ b ∈ fp, H' b = none) → ∀ b ∈ fp, FpOk (blkX X sc Hc scope ce fp) [] H' b := fun {σ' H' s'} I' hn b hb =>
    ⟨hn b hb, (I'.ok.exf b hb).1, I'.ok.exfs b hb, .inl hb, fun x c q => (I'.ok.exf b hb).2 x c q, fun p hp => absurd (show p ∈ ([] : List (Addr × Obj)) ++ [] from hp) (by simp)⟩
  have errs : (notedBy (model X.prog X.w) X.A ce fun e s' => compEnds (model X.prog X.w) X.A X.xe use Qf (.ref D) ce (.error e) s') = owes X ce := by
    cases use <;> rfl
  have loop : codeAny (model X.prog X.w) X.A (.compLoop (.ListComp elt [⟨tg, iter, ifs, 0⟩] scope pos) 0 (.ref it) (.ref D) ce) (compEnds (model X.prog X.w) X.A X.xe use Qf (.ref D) ce) se := by
    refine compLoop_any (fun n s' => ∃ i H', Inv (blkX X sc Hc scope ce fp) [] (wipe σ (own.map (·.2))) H' s' ∧ tn i s'.heap ∧ (∀ b ∈ fp, H' b = none) ∧ W i n H') ?_ m0 ⟨0, Hc, Ie, ste, nfp, w0⟩
    rintro n s5 ⟨i, H5, I5, st5, n5, w5⟩
    rw [errs]
    rcases turn i n H5 w5 with ⟨stop, qq⟩ | ⟨go, Nx, hNx, step⟩
    · refine thn (T.done (blkX X sc Hc scope ce fp) rfl rfl rfl hcalm i [] s5 _ H5 _ I5 (stat I5 n5) st5 stop) fun r s6 hr6 => ?_
      obtain ⟨er, I6⟩ := hr6
      subst er
      have I7 : Inv X pins σ H5 s6 := Ic.call' (ch := fp) I6.os I6.base I6.hok I6.bare fun b hb => ⟨(fc b hb).1.2.2.2.1, (fc b hb).1.2.1, (fc b hb).1.2.2.2.2.1, (fc b hb).1.2.2.2.2.2⟩
      have nC : H5 ce.locals = none := I6.free
      obtain ⟨m, hn, _⟩ := I6.loc
      refine hend D ce s6 m H5 I7 qq hn ?_
      have f2 := hC.2
      rw [← lce] at f2
      exact ⟨nC, f2⟩
    · refine thn (T.item (blkX X sc Hc scope ce fp) rfl rfl rfl hcalm i [] s5 _ H5 _ I5 (stat I5 n5) st5 go) fun r s6 hr6 => ?_
      obtain ⟨u, er, h6⟩ := hr6
      subst er
      refine thn h6 fun _ s7 hr7 => ?_
      obtain ⟨x, H7, I7, r7, y7, st7, n7⟩ := hr7
      have I7p := I7.pinned (stat I7 n7) (T.obj _ _ st7)
      refine thn (pg.run _ s7 _ H7 x u _ I7p r7 (step x H7 y7)) fun _ s8 hr8 => ?_
      obtain ⟨σ8, H8, I8, hw8, q8⟩ := hr8
      refine thn (pt.run _ s8 σ8 H8 _ I8 q8) fun b s9 hr9 => ?_
      obtain ⟨H9, I9, q9⟩ := hr9
      have close : ∀ {s' : Shared} {H' : Hp}, Inv (blkX X sc Hc scope ce fp) ([] ++ pinsAt fp s7.heap) σ8 H' s' → Nx H' → ∃ m, m < n ∧ ∃ i H', Inv (blkX X sc Hc scope ce fp) [] (wipe σ (own.map (·.2))) H' s' ∧ tn i s'.heap ∧ (∀ b ∈ fp, H' b = none) ∧ W i m H' := fun {s' H'} I' nx => by
        obtain ⟨m', hm, w'⟩ := hNx H' nx
        have still : ∀ b ∈ fp, ∀ o, s7.heap.get? b = some o → s'.heap.get? b = some o ∧ H' b = none := fun b hb o q =>
          ⟨(I'.pin (b, o) (List.mem_append_right _ (List.mem_append_right _ (mem_pinsAt hb q)))).1, (I'.pin (b, o) (List.mem_append_right _ (List.mem_append_right _ (mem_pinsAt hb q)))).2.1⟩
        refine ⟨m', hm, i + 1, H', (I'.unpinned (pins := [])).weak (by rw [← hw8, wipe_length]) (fun j v q => ?_), T.keep _ _ _ st7 fun b hb o q => (still b hb o q).1, fun b hb => ?_, w'⟩
        · rw [← hw8] at q
          exact (wipe_some q).1
        · obtain ⟨o, q, _⟩ := T.obj _ _ st7 b hb
          exact (still b hb o q).2
      cases b with
      | false =>
        rw [if_neg (by decide)] at q9 ⊢
        exact close I9 q9
      | true =>
        rw [if_pos rfl] at q9 ⊢
        refine thn (pe.run _ s9 σ8 H9 _ I9 q9) fun z s10 hr10 => ?_
        obtain ⟨yv, H10, I10, r10, acc, hD10, hz10, nx⟩ := hr10
        exact app_ok (X := blkX X sc Hc scope ce fp) I10 hD10 hz10 r10 fun s11 I11 => close I11 nx
  exact codeAny_compStart_list loop (T.self X.A 0 _ _ _ ste loop)
/-- name = [..] on one line, the name a local, the element may raise -/
theorem ps_setLcX {X : Cx} {i : Nat} {y : Str} {py : Pos} {elt tg iter : Expr} {ifs : List Expr} {scope : Scope} {own : List (Str × Nat)} {pos spos : Pos} {wi : TI} {g : TG} {tt : TT} {te : TE} (hcalm : X.calm = true) (hnd : X.N.Nodup) (hy : X.N[i]? = some y) (hyl : X.env.scope.names.lookup y = some .local)
    (hsw : swapsWith (.ListComp elt [⟨tg, iter, ifs, 0⟩] scope pos) (some (.Name y py)) spos.line X.env = pure true) (hi : PI X tg iter wi) (ok : BlkOk X.N X.env.scope scope own)
    (hg : ∀ (s : Shared) (H : Hp) (C : Addr) (cl : List (Str × Addr)) (fp : List Addr), PG (blkX X s H scope (compEnvC scope cl C X.env) fp) tg g)
    (ht : ∀ (s : Shared) (H : Hp) (C : Addr) (cl : List (Str × Addr)) (fp : List Addr), PTs (blkX X s H scope (compEnvC scope cl C X.env) fp) ifs tt)
    (he : ∀ (pins : List (Addr × Obj)) (σ : L2.St) (s : Shared) (H : Hp) (C : Addr) (cl : List (Str × Addr)) (fp : List Addr), Inv X pins σ H s → (∀ b ∈ fp, FpOk X pins H b ∧ b < s.heap.objs.size) → FpOk X pins H C → PE (blkX X s H scope (compEnvC scope cl C X.env) fp) elt te)
    (hfold : ∀ x, foldedSetIterable iter X.env x = pure x := by intro _; rfl) :
    PS X (.Assign [.Name y py] (.ListComp elt [⟨tg, iter, ifs, 0⟩] scope pos) spos) (tAsg (tLc wi g tt te (own.map (·.2))) (gName i)) := by
  refine ⟨fun pins s σ H D I h => ?_⟩
  have h : tLc wi g tt te (own.map (·.2)) σ H (fun x H1 => gName i x σ H1 D.nx) := h
  rw [exec_Assign_Name_used _ _ _ _ hsw]
  refine wpAny_bind (wpAny_standAt (wpAny_bind ?_))
  show wpAny _ X.A (do let _ ← comprehension (.ListComp elt [⟨tg, iter, ifs, 0⟩] scope pos) scope X.env (firstIterPos [⟨tg, iter, ifs, 0⟩] pos) (newList []) false (eval iter X.env) (some (assign (.Name y py) X.env))) _ _ s
  have run := lcX_core (pos := pos) (pos' := firstIterPos [⟨tg, iter, ifs, 0⟩] pos) (use := some (assign (.Name y py) X.env)) (Qf := fun _ s' => SP X pins D .next s') hcalm hnd I hi ok hg ht he hfold h fun L ce s' m H' I' q hn f => by
    show wpAny _ _ (assign (.Name y py) X.env (.ref L)) _ _ _
    refine wpAny_assign_Name (store_ok2 (v := V.ref L) I' hnd hy (.inl hyl) rfl (fun s2 I2 hw => ?_) (.inr hyl))
    obtain ⟨a, sb, ha⟩ := hw
    obtain ⟨f0, f1, f2, f3, f4, f5⟩ := f
    have apart : ce.locals ≠ a := ha.elim (fun z => by rw [z]; exact f1) fun z e => f4 y a z e.symm
    exact ⟨m, hn.sameBut sb apart, fun h3 sb3 => ⟨_, H', I2.turned (t' := s2.toks) (fun b o hb q => (sb3.2 b hb).trans q) f0 f1 f3 f4 f5, q⟩⟩
  exact wpAny_bind (thn run fun _ s' hq => wpAny_pure (wpAny_pure hq))
end Ts

/-! max of four numbers; a thing in a list of data. -/
namespace Ts
open PySem PySem.Spec PyProof.Rows L2
theorem args_max4 (a b c d : Value) : argsOk "max" ⟨[a, b, c, d], []⟩ := by unfold argsOk; kernel_rfl
section
variable {prog : Program} {w : World} {A : Around} {E : Value → Shared → Prop} {s : Shared} {a b c d : Value} {Q : Value → Shared → Prop}
theorem walk_max4
    (go : wpAny (model prog w) A.in1 (pyIter (.ref s.heap.objs.size)) (fun it s2 => ∃ I fp wr n P St bt, it = .ref I ∧ Walks prog w A.in1 I fp wr n P St ∧ St 0 s2.heap ∧ (∀ b ∈ fp, b < s2.heap.objs.size) ∧ 0 < n ∧ CmpOf prog w A.in1 .Gt P bt ∧
      ∀ v h2 tk, P (argBest bt (n - 1)) v → (∀ b o, b ∉ wr → s2.heap.get? b = some o → h2.get? b = some o) → Q v { s2 with heap := h2, toks := tk }) E
      { s with heap := s.heap.push { cls := .type "tuple", data := .seq #[a, b, c, d] } }) :
    wpAny (model prog w) A (call (.builtin "max") [a, b, c, d]) Q E s := by
  have nm : (toString "max" ++ toString ".loop" : String) = "max.loop" := by decide
  refine call_function_tree F.kind_max F.plain_max F.entry_max (args_max4 a b c d) ?_
  show wpAny _ A.in1 (Builtin.Builtins.bindParams "max" ["key", "default"] 0 ⟨[], []⟩ >>= fun ps => _) _ _ s
  refine wpAny_bind (wpAny_of_eq (t := pure [none, none]) rfl ?_)
  show wpAny _ A.in1 (newTuple [a, b, c, d] >>= fun t => _) _ _ s
  refine wpAny_bind (wpAny_newObj_type ?_)
  refine wpAny_bind (wpAny_mono go (fun it s2 g2 => ?_) fun _ _ x => x)
  obtain ⟨I, fp, wr, n, P, St, bt, rfl, W, g3, g4, g5, g6, g7⟩ := g2
  refine wpAny_bind (wpAny_newObj_type ?_)
  have nf : s2.heap.objs.size ∉ fp := fun z => Nat.lt_irrefl _ (g4 _ z)
  rw [nm]
  refine wpAny_pure ⟨plainId_quiet F.plain_max_loop _, codeAny_max_loop_first W bt g6 s2.heap.objs.size nf g5 (W.frame _ _ _ g3 fun b _ o q => Heap.get?_push_of_some _ q) (Heap.get?_push_size _ rfl) fun v h2 tk hP hk => ?_⟩
  exact g7 v h2 tk hP fun b o hb q => hk b o hb (Nat.ne_of_lt (Heap.lt_size q)) (Heap.get?_push_of_some _ q)
theorem ints_max4 {i j k l : Int} {t u x y : Tok} (hh : A.handled = none)
    (q : ∀ m tk h2 t2, i ≤ m → j ≤ m → k ≤ m → l ≤ m → (m = i ∨ m = j ∨ m = k ∨ m = l) → (∀ d o, s.heap.get? d = some o → h2.get? d = some o) → Q (.int m t2) { s with heap := h2, toks := tk }) :
    wpAny (model prog w) A (call (.builtin "max") [.int i t, .int j u, .int k x, .int l y]) Q E s := by
  obtain ⟨xs, exs⟩ : ∃ xs : Array (Int × Tok), xs = #[(i, t), (j, u), (k, x), (l, y)] := ⟨_, rfl⟩
  have hT : (s.heap.push { cls := .type "tuple", data := .seq #[.int i t, .int j u, .int k x, .int l y] }).IsTuple s.heap.objs.size (intItems xs) := by
    subst exs
    exact ⟨_, Heap.get?_push_size _ rfl, rfl, 0, by simp [intItems]⟩
  have hz : (s.heap.push { cls := .type "tuple", data := .seq #[.int i t, .int j u, .int k x, .int l y] }).objs.size = s.heap.objs.size + 1 := Heap.size_push ..
  have h4 : (intItems xs).size = 4 := by subst exs; simp [intItems]
  refine walk_max4 (wpAny_pyIter_tuple hT ?_)
  refine ⟨_, [_, s.heap.objs.size], [_], _, _, _, _, rfl, Walks.tuple (A := A.in1) hh _ s.heap.objs.size (by rw [hz]; exact Nat.ne_of_lt (Nat.lt_succ_self _)) (intItems xs), ⟨⟨_, Heap.get?_push_size _ rfl, rfl, rfl⟩, hT.push _⟩, fun d hd => ?_, by rw [h4]; decide, CmpOf.ints_gt (numAt xs) (fun _ _ => intItems_at), fun v h2 tk hP hk => ?_⟩
  · show d < ((s.heap.push _).push _).objs.size
    rw [Heap.size_push, hz]
    simp only [List.mem_cons, List.not_mem_nil, or_false] at hd
    rcases hd with rfl | rfl
    · rw [hz]; exact Nat.lt_succ_self _
    · exact Nat.lt_succ_of_lt (Nat.lt_succ_self _)
  · have old : ∀ d o, s.heap.get? d = some o → h2.get? d = some o := fun d o q => by
      refine hk d o (fun hm => ?_) (Heap.get?_push_of_some _ (Heap.get?_push_of_some _ q))
      have hd := Heap.lt_size q
      simp only [List.mem_cons, List.not_mem_nil, or_false] at hm
      rw [hm, hz] at hd
      exact Nat.lt_irrefl _ (Nat.lt_of_succ_lt hd)
    obtain ⟨t2, rfl⟩ := intItems_at hP
    obtain ⟨b1, b2⟩ := argBest_gt (numAt xs) ((intItems xs).size - 1)
    rw [h4] at b1 b2
    rw [h4]
    have n0 : numAt xs 0 = i := by subst exs; rfl
    have n1 : numAt xs 1 = j := by subst exs; rfl
    have n2 : numAt xs 2 = k := by subst exs; rfl
    have n3 : numAt xs 3 = l := by subst exs; rfl
    have m0 := b2 0 (by omega)
    have m1 := b2 1 (by omega)
    have m2 := b2 2 (by omega)
    have m3 := b2 3 (by omega)
    rw [n0] at m0
    rw [n1] at m1
    rw [n2] at m2
    rw [n3] at m3
    refine q _ tk h2 t2 m0 m1 m2 m3 ?_ old
    generalize argBest (fun i j => decide (numAt xs i > numAt xs j)) (4 - 1) = g at *
    rcases g with _ | _ | _ | _ | g
    · exact .inl n0
    · exact .inr (.inl n1)
    · exact .inr (.inr (.inl n2))
    · exact .inr (.inr (.inr n3))
    · omega
end
def rMax4 : List V → Hp → VK → Prop := fun xs H Q => ∃ i j k l : Int, xs = [.int i, .int j, .int k, .int l] ∧ ∀ m, i ≤ m → j ≤ m → k ≤ m → l ≤ m → (m = i ∨ m = j ∨ m = k ∨ m = l) → Q (.int m) H
theorem call_max4 {X : Cx} (hc : X.calm = true) : CallR X (.builtin "max") rMax4 := by
  intro pins s σ H xs us Q I r h
  obtain ⟨i, j, k, l, rfl, q⟩ := h
  cases r with
  | cons r1 r =>
    cases r with
    | cons r2 r =>
      cases r with
      | cons r3 r =>
        cases r with
        | cons r4 r =>
          cases r
          obtain ⟨t1, rfl⟩ := r1
          obtain ⟨t2, rfl⟩ := r2
          obtain ⟨t3, rfl⟩ := r3
          obtain ⟨t4, rfl⟩ := r4
          exact ints_max4 (I.ok.hd hc) fun m tk h2 t5 m0 m1 m2 m3 mo old => ⟨.int m, H, I.kept old, ⟨_, rfl⟩, q m m0 m1 m2 m3 mo⟩
theorem q_max4 {i j k l : Int} {H : Hp} {Q : VK} (q : ∀ m, i ≤ m → j ≤ m → k ≤ m → l ≤ m → (m = i ∨ m = j ∨ m = k ∨ m = l) → Q (.int m) H) : rMax4 [.int i, .int j, .int k, .int l] H Q := ⟨i, j, k, l, rfl, q⟩
theorem op_inDK {X : Cx} (K : PySem.W.Frag) (hu : X.A.units + 65 < cLine) (h : X.K = K := by rfl) : OpR X (compareOp .In) (rInD K) := by subst h; exact op_inD hu
theorem units65 {k : Nat} {A : Around} (r : Room k A) : A.units + 65 < cLine := by have := r.un; omega
end Ts

/-! Rows of a text read: what is a number, a row, a letter; runs without a blank or a line feed are short. -/
namespace Ts
open PySem PySem.Spec PyProof.Rows L2
/-! ### runs -/
/-- no run of l without a blank or a line feed is longer than B -/
def RunB (B : Nat) (l : List Nat) : Prop := ∀ a w b, l = a ++ w ++ b → (∀ c ∈ w, c ≠ 10 ∧ c ≠ 32) → w.length ≤ B
theorem RunB.len (l : List Nat) : RunB l.length l := fun a w b e _ => by
  rw [e]
  simp
  omega
theorem RunB.le {A B : Nat} {l : List Nat} (h : RunB A l) (hab : A ≤ B) : RunB B l := fun a w b e hw => Nat.le_trans (h a w b e hw) hab
theorem RunB.infix {B : Nat} {l a m b : List Nat} (h : RunB B l) (e : l = a ++ m ++ b) : RunB B m := fun x w y e2 hw => h (a ++ x) w (y ++ b) (by rw [e, e2]; simp) hw
theorem RunB.app {A B : Nat} {l m : List Nat} (h1 : RunB A l) (h2 : RunB B m) : RunB (A + B) (l ++ m) := by
  intro a w b e hw
  rw [List.append_assoc] at e
  rcases List.append_eq_append_iff.mp e with ⟨x, e1, e2⟩ | ⟨x, e1, e2⟩
  · have := h2 x w b (by rw [e2, List.append_assoc]) hw
    omega
  · rcases List.append_eq_append_iff.mp e2 with ⟨y, e3, e4⟩ | ⟨y, e3, e4⟩
    · have := h1 a w y (by rw [e1, e3, List.append_assoc]) hw
      omega
    · have hx : ∀ c ∈ x, c ≠ 10 ∧ c ≠ 32 := fun c hc => hw c (by rw [e3]; exact List.mem_append_left _ hc)
      have hy : ∀ c ∈ y, c ≠ 10 ∧ c ≠ 32 := fun c hc => hw c (by rw [e3]; exact List.mem_append_right _ hc)
      have a1 := h1 a x [] (by rw [e1, List.append_nil]) hx
      have a2 := h2 [] y b (by rw [e4]; rfl) hy
      rw [e3, List.length_append]
      omega
theorem RunB.cut {B c : Nat} {l m : List Nat} (h1 : RunB B l) (h2 : RunB B m) (hc : c = 10 ∨ c = 32) : RunB B (l ++ c :: m) := by
  have one : ∀ (a w b : List Nat), c :: m = a ++ w ++ b → (∀ d ∈ w, d ≠ 10 ∧ d ≠ 32) → w.length ≤ B := by
    intro a w b e hw
    cases a with
    | nil =>
      cases w with
      | nil => exact Nat.zero_le _
      | cons d w =>
        simp at e
        have := hw d List.mem_cons_self
        omega
    | cons d a =>
      simp at e
      exact h2 a w b (by rw [e.2, List.append_assoc]) hw
  intro a w b e hw
  rw [List.append_assoc] at e
  rcases List.append_eq_append_iff.mp e with ⟨x, e1, e2⟩ | ⟨x, e1, e2⟩
  · exact one x w b (by rw [e2, List.append_assoc]) hw
  · rcases List.append_eq_append_iff.mp e2 with ⟨y, e3, e4⟩ | ⟨y, e3, e4⟩
    · exact h1 a w y (by rw [e1, e3, List.append_assoc]) hw
    · have hy : ∀ d ∈ y, d ≠ 10 ∧ d ≠ 32 := fun d hd => hw d (by rw [e3]; exact List.mem_append_right _ hd)
      have hx : ∀ d ∈ x, d ≠ 10 ∧ d ≠ 32 := fun d hd => hw d (by rw [e3]; exact List.mem_append_left _ hd)
      have y0 : y = [] := by
        cases y with
        | nil => rfl
        | cons d y =>
          simp at e4
          have := hy d List.mem_cons_self
          omega
      rw [e3, y0, List.append_nil]
      exact h1 a x [] (by rw [e1, List.append_nil]) hx
/-! ### cuts at one sign -/
theorem spl_sign (s : Nat) : ∀ (l acc : List Nat), s ∉ acc → ∀ p ∈ TL.spl [s] 0 acc l, s ∉ p ∧ ∃ a b, acc ++ l = a ++ p ++ b
  | [], acc, h, p, hp => by
    rw [TL.spl_nil] at hp
    rw [List.mem_singleton.mp hp]
    exact ⟨h, [], [], by simp⟩
  | c :: r, acc, h, p, hp => by
    by_cases hc : c = s
    · subst hc
      have hpre : TL.pre [c] (c :: r) = true := TL.pre_self [c] r
      rw [TL.spl_hit hpre] at hp
      rcases List.mem_cons.mp hp with rfl | hp
      · exact ⟨h, [], c :: r, by simp⟩
      · obtain ⟨h1, a, b, e⟩ := spl_sign c r [] (by simp) p hp
        refine ⟨h1, acc ++ [c] ++ a, b, ?_⟩
        have e : r = a ++ p ++ b := e
        rw [e]
        simp
    · rw [TL.spl_miss (TL.pre_of_head [] r hc)] at hp
      obtain ⟨h1, a, b, e⟩ := spl_sign s r (acc ++ [c]) (by simp [h]; exact fun z => hc z.symm) p hp
      exact ⟨h1, a, b, by rw [← e]; simp⟩
theorem spl_count (s : Nat) : ∀ (l acc : List Nat), (TL.spl [s] 0 acc l).length ≤ l.length + 1 ∧ 1 ≤ (TL.spl [s] 0 acc l).length
  | [], acc => by rw [TL.spl_nil]; exact ⟨by simp, by simp⟩
  | c :: r, acc => by
    by_cases hc : c = s
    · subst hc
      have hpre : TL.pre [c] (c :: r) = true := TL.pre_self [c] r
      rw [TL.spl_hit hpre]
      obtain ⟨h1, h2⟩ := spl_count c r []
      have h1 : (TL.spl [c] ([c].length - 1) [] r).length ≤ r.length + 1 := h1
      simp only [List.length_cons] at h1 ⊢
      omega
    · rw [TL.spl_miss (TL.pre_of_head [] r hc)]
      obtain ⟨h1, h2⟩ := spl_count s r (acc ++ [c])
      rw [List.length_cons]
      omega
/-- parts of a text cut at a sign -/
theorem split_facts {x y : Str} {s : Nat} (ey : y.cps.toList = [s]) (hs : s < 256) : (Txt.split x y).length ≤ x.length + 1 ∧ 1 ≤ (Txt.split x y).length ∧ ∀ p ∈ Txt.split x y, s ∉ p.cps.toList ∧ ∃ a b, x.cps.toList = a ++ p.cps.toList ++ b := by
  have hy : TL.tl y = [s] := ey
  have hk : y.cps.all (· < 256) = true := by
    rw [Array.all_eq_true]
    intro i hi
    have : y.cps[i] ∈ y.cps.toList := by simp
    rw [ey] at this
    rw [List.mem_singleton.mp this]
    exact decide_eq_true hs
  have e := TL.split_spl x y (by rw [hy]; simp) (TL.kind_ok hk)
  rw [hy] at e
  have el := congrArg List.length e
  rw [List.length_map] at el
  obtain ⟨c1, c2⟩ := spl_count s (TL.tl x) []
  have hx := TL.len_tl x
  refine ⟨by omega, by omega, fun p hp => ?_⟩
  have hm : TL.tl p ∈ TL.spl [s] 0 [] (TL.tl x) := by
    rw [← e]
    exact List.mem_map.mpr ⟨p, hp, rfl⟩
  obtain ⟨h1, a, b, h2⟩ := spl_sign s (TL.tl x) [] (by simp) _ hm
  exact ⟨h1, a, b, by simpa using h2⟩
/-- a text that both may read -/
structure TxOk (t : Str) : Prop where
  asc : Asc t
  len : t.length ≤ 20000
  run : RunB 300 t.cps.toList
theorem TxOk.part {t p : Str} {a b : List Nat} (h : TxOk t) (e : t.cps.toList = a ++ p.cps.toList ++ b) : TxOk p := by
  refine ⟨fun c hc => h.asc c (by rw [e]; simp [hc]), ?_, h.run.infix e⟩
  have h1 := h.len
  have h2 := congrArg List.length e
  rw [tl_len] at h1
  rw [tl_len]
  simp only [List.length_append] at h2
  omega
abbrev nlRows (t : Str) : List Str := Txt.split t "\n"
abbrev blWords (r : Str) : List Str := Txt.split r " "
theorem tl_nl : ("\n" : Str).cps.toList = [10] := by decide +kernel
theorem tl_bl : (" " : Str).cps.toList = [32] := by decide +kernel
theorem rows_ok {t : Str} (h : TxOk t) : (nlRows t).length ≤ 20001 ∧ 1 ≤ (nlRows t).length ∧ ∀ r ∈ nlRows t, TxOk r ∧ 10 ∉ r.cps.toList := by
  obtain ⟨h1, h2, h3⟩ := split_facts (x := t) tl_nl (by decide)
  have := h.len
  refine ⟨Nat.le_trans h1 (by omega), h2, fun r hr => ?_⟩
  obtain ⟨q1, a, b, e⟩ := h3 r hr
  exact ⟨h.part e, q1⟩
theorem words_ok {r : Str} (h : TxOk r) (hn : 10 ∉ r.cps.toList) : (blWords r).length ≤ 20001 ∧ ∀ w ∈ blWords r, Asc w ∧ w.length ≤ 300 := by
  obtain ⟨h1, h2, h3⟩ := split_facts (x := r) tl_bl (by decide)
  have := h.len
  refine ⟨Nat.le_trans h1 (by omega), fun w hw => ?_⟩
  obtain ⟨q1, a, b, e⟩ := h3 w hw
  refine ⟨(h.part e).asc, ?_⟩
  rw [tl_len]
  refine h.run a _ b e fun c hc => ⟨fun z => hn ?_, fun z => q1 (z ▸ hc)⟩
  rw [e, ← z]
  simp [hc]
/-! ### numbers, rows, letters -/
def IsNum (w : Str) : Prop := w.cps.toList ≠ [] ∧ (∀ c ∈ w.cps.toList, 48 ≤ c ∧ c ≤ 57) ∧ ¬ (w.cps.toList.head? = some 48 ∧ 1 < w.length)
noncomputable instance (w : Str) : Decidable (IsNum w) := Classical.propDecidable _
def numV (w : Str) : Int := (NumText.digitsVal w.cps.toList : Nat)
theorem numV_nn (w : Str) : 0 ≤ numV w := Int.natCast_nonneg _
theorem num_text {w : Str} (h : IsNum w) (hl : w.length ≤ 300) : intText? w = some (numV w) := PySem.intText_digits h.2.1 h.1 (by omega)
/-- the number that the law reads, or -1 -/
noncomputable def numL (w : Str) : Int := if IsNum w then numV w else -1
abbrev wd (r : Str) (i : Nat) : Str := (blWords r).getD i ""
def IsRow (r : Str) : Prop := (blWords r).length = 9 ∧ wd r 1 = "sent" ∧ wd r 3 = "back" ∧ wd r 5 = "swears" ∧ wd r 7 = "to" ∧ IsNum (wd r 2) ∧ IsNum (wd r 4) ∧ IsNum (wd r 6) ∧ IsNum (wd r 8)
noncomputable instance (r : Str) : Decidable (IsRow r) := Classical.propDecidable _
def rowL (r : Str) : Ltr := ⟨wd r 0, numV (wd r 2), numV (wd r 4), numV (wd r 6), numV (wd r 8)⟩
/-- what is read of a text, by the word that is due -/
def TextOk (t : Str) : Prop := (nlRows t).getLast? = some "" ∧ ∀ r ∈ (nlRows t).dropLast, IsRow r
def ltrsOf (t : Str) : List Ltr := (nlRows t).dropLast.map rowL
def LtGood (L : Ltr) : Prop := IsName L.name ∧ Good L
def ReadW (t : Str) (z : Str) : Prop :=
  (¬ TextOk t ∧ z = "text") ∨
  (TextOk t ∧ ∃ i L, (ltrsOf t)[i]? = some L ∧ (∀ M ∈ (ltrsOf t).take i, LtGood M) ∧ ((¬ IsName L.name ∧ z = "name") ∨ (IsName L.name ∧ ¬ Good L ∧ z = "letter"))) ∨
  (TextOk t ∧ (∀ M ∈ ltrsOf t, LtGood M) ∧ z = "")
theorem first_one {α : Type} {p : α → Prop} {l : List α} {i j : Nat} {x y : α} (hi : l[i]? = some x) (hj : l[j]? = some y) (h1 : ∀ z ∈ l.take i, p z) (h2 : ∀ z ∈ l.take j, p z) (nx : ¬ p x) (ny : ¬ p y) : i = j ∧ x = y := by
  have e : i = j := by
    rcases Nat.lt_trichotomy i j with h | h | h
    · exact absurd (h2 x (List.mem_take_iff_getElem.mpr ⟨i, by have := (List.getElem?_eq_some_iff.mp hi).1; omega, (List.getElem?_eq_some_iff.mp hi).2⟩)) nx
    · exact h
    · exact absurd (h1 y (List.mem_take_iff_getElem.mpr ⟨j, by have := (List.getElem?_eq_some_iff.mp hj).1; omega, (List.getElem?_eq_some_iff.mp hj).2⟩)) ny
  subst e
  rw [hi] at hj
  exact ⟨rfl, Option.some.inj hj⟩
theorem read_one {t z z' : Str} (h : ReadW t z) (h' : ReadW t z') : z = z' := by
  rcases h with ⟨a, rfl⟩ | ⟨a, i, L, b, c, d⟩ | ⟨a, b, rfl⟩ <;> rcases h' with ⟨a', rfl⟩ | ⟨a', i', L', b', c', d'⟩ | ⟨a', b', rfl⟩
  · rfl
  · exact absurd a' a
  · exact absurd a' a
  · exact absurd a a'
  · have nL : ¬ LtGood L := fun q => by
      rcases d with ⟨d, _⟩ | ⟨_, d, _⟩
      · exact d q.1
      · exact d q.2
    have nL' : ¬ LtGood L' := fun q => by
      rcases d' with ⟨d, _⟩ | ⟨_, d, _⟩
      · exact d q.1
      · exact d q.2
    obtain ⟨_, rfl⟩ := first_one b b' c c' nL nL'
    rcases d with ⟨d, rfl⟩ | ⟨d1, d2, rfl⟩ <;> rcases d' with ⟨e, rfl⟩ | ⟨e1, e2, rfl⟩
    · rfl
    · exact absurd e1 d
    · exact absurd d1 e
    · rfl
  · have := b' L (List.mem_of_getElem? b)
    rcases d with ⟨d, _⟩ | ⟨_, d, _⟩
    · exact absurd this.1 d
    · exact absurd this.2 d
  · exact absurd a a'
  · have := b L' (List.mem_of_getElem? b')
    rcases d' with ⟨d, _⟩ | ⟨_, d, _⟩
    · exact absurd this.1 d
    · exact absurd this.2 d
  · rfl
/-! ### texts that are written -/
theorem asc_by {z : Str} (h : z.cps.toList.all (fun c => decide (c < 128)) = true) : Asc z := fun c hc => of_decide_eq_true (List.all_eq_true.mp h c hc)
/-- a row that may be written -/
structure TxR (z : Str) : Prop where
  asc : Asc z
  len : z.length ≤ 250
  run : RunB 60 z.cps.toList
theorem txr_short {z : Str} (ha : Asc z) (hl : z.length ≤ 60) : TxR z := ⟨ha, by omega, (RunB.len _).le (by rw [← tl_len]; exact hl)⟩
structure LtR (L : Ltr) : Prop where
  asc : Asc L.name
  len : L.name.length ≤ 13
  n1 : 0 ≤ L.sent ∧ L.sent < 10 ^ 47
  n2 : 0 ≤ L.back ∧ L.back < 10 ^ 47
  n3 : 0 ≤ L.low ∧ L.low < 10 ^ 47
  n4 : 0 ≤ L.high ∧ L.high < 10 ^ 47
theorem nT_lenR {n : Int} (h : 0 ≤ n ∧ n < 10 ^ 47) : (nT n).length ≤ 47 := PyProof.Rows.toString_length_le h.1 (by decide) h.2
theorem nT_logR {n : Int} (h : 0 ≤ n ∧ n < 10 ^ 47) : n.natAbs.log2 < 1920 := PyProof.Rows.shown (N := 10 ^ 47) (Int.lt_of_lt_of_le (by decide) h.1) h.2 (by decide +kernel)
theorem nT_asc (n : Int) : Asc (nT n) := fun c hc => by
  have e : (nT n).cps.toList = (toString n).toList.map Char.toNat := TL.tl_ofString _
  rw [e] at hc
  obtain ⟨d, hd, rfl⟩ := List.mem_map.mp hc
  exact PySem.int_ascii n d hd
theorem asc_sent : Asc " sent " := asc_by (by decide +kernel)
theorem asc_back : Asc " back " := asc_by (by decide +kernel)
theorem asc_swears : Asc " swears " := asc_by (by decide +kernel)
theorem asc_to : Asc " to " := asc_by (by decide +kernel)
theorem asc_nl : Asc "\n" := asc_by (by decide +kernel)
theorem tl_sent : (" sent " : Str).cps.toList = 32 :: ([115, 101, 110, 116] ++ 32 :: []) := by decide +kernel
theorem tl_back : (" back " : Str).cps.toList = 32 :: ([98, 97, 99, 107] ++ 32 :: []) := by decide +kernel
theorem tl_swears : (" swears " : Str).cps.toList = 32 :: ([115, 119, 101, 97, 114, 115] ++ 32 :: []) := by decide +kernel
theorem tl_to : (" to " : Str).cps.toList = 32 :: ([116, 111] ++ 32 :: []) := by decide +kernel
theorem run_lit {l : List Nat} (h : l.length ≤ 60) : RunB 60 l := (RunB.len l).le h
theorem run_nT {n : Int} (h : 0 ≤ n ∧ n < 10 ^ 47) : RunB 60 (nT n).cps.toList := run_lit (by rw [← tl_len]; have := nT_lenR h; omega)
/-- a word between blanks is put between two texts -/
theorem run_mid {a b w : List Nat} (ha : RunB 60 a) (hb : RunB 60 b) (hw : w.length ≤ 60) : RunB 60 (a ++ (32 :: (w ++ 32 :: [])) ++ b) := by
  have e : a ++ (32 :: (w ++ 32 :: [])) ++ b = a ++ 32 :: (w ++ 32 :: b) := by simp
  rw [e]
  exact ha.cut ((run_lit hw).cut hb (.inr rfl)) (.inr rfl)
theorem row_txr {L : Ltr} (h : LtR L) : TxR (rowS L) := by
  have k1 := nT_lenR h.n1
  have k2 := nT_lenR h.n2
  have k3 := nT_lenR h.n3
  have k4 := nT_lenR h.n4
  have hl := h.len
  refine ⟨?_, ?_, ?_⟩
  · unfold rowS
    exact (((((((h.asc.app asc_sent).app (nT_asc _)).app asc_back).app (nT_asc _)).app asc_swears).app (nT_asc _)).app asc_to).app (nT_asc _)
  · unfold rowS
    simp only [PySem.strLen_append, l_sent, l_back, l_swears, l_to]
    omega
  · unfold rowS
    simp only [tl_app]
    rw [tl_sent, tl_back, tl_swears, tl_to]
    exact run_mid (run_mid (run_mid (run_mid (run_lit (by rw [← tl_len]; omega)) (run_nT h.n1) (by decide)) (run_nT h.n2) (by decide)) (run_nT h.n3) (by decide)) (run_nT h.n4) (by decide)
/-- rows with their line feeds -/
def txRows : List Str → Str
  | [] => ""
  | r :: rs => r ++ "\n" ++ txRows rs
theorem txRows_join : ∀ (rs : List Str), Str.join "" (rs.map fun r => r ++ "\n") = txRows rs
  | [] => by
    show Str.empty = ""
    exact str_ext (by decide +kernel)
  | [r] => by
    show r ++ "\n" = r ++ "\n" ++ ""
    rw [app_emp]
  | r :: q :: rs => by
    show r ++ "\n" ++ "" ++ Str.join "" ((q :: rs).map fun r => r ++ "\n") = r ++ "\n" ++ txRows (q :: rs)
    rw [txRows_join (q :: rs), app_emp]
theorem txRows_ok : ∀ {rs : List Str}, (∀ r ∈ rs, TxR r) → Asc (txRows rs) ∧ (txRows rs).length ≤ 251 * rs.length ∧ RunB 60 (txRows rs).cps.toList
  | [], _ => ⟨low_empty.asc, by decide +kernel, run_lit (by decide +kernel)⟩
  | r :: rs, h => by
    obtain ⟨h1, h2, h3⟩ := txRows_ok (rs := rs) fun q hq => h q (List.mem_cons_of_mem _ hq)
    have hr := h r List.mem_cons_self
    have hl := hr.len
    refine ⟨(hr.asc.app asc_nl).app h1, ?_, ?_⟩
    · show (r ++ "\n" ++ txRows rs).length ≤ _
      rw [PySem.strLen_append, PySem.strLen_append, l_nl, List.length_cons]
      omega
    · show RunB 60 (r ++ "\n" ++ txRows rs).cps.toList
      rw [tl_app, tl_app, tl_nl, List.append_assoc]
      exact hr.run.cut h3 (.inl rfl)
theorem txRows_sum : ∀ {rs : List Str}, (∀ r ∈ rs, TxR r) → ((rs.map fun r : Str => r ++ ("\n" : Str)).map (·.length)).sum ≤ 251 * rs.length
  | [], _ => by simp
  | r :: rs, h => by
    have h1 := txRows_sum (rs := rs) fun q hq => h q (List.mem_cons_of_mem _ hq)
    have hl := (h r List.mem_cons_self).len
    rw [List.map_cons, List.map_cons, List.sum_cons, PySem.strLen_append, l_nl, List.length_cons]
    omega
theorem tx_of {z : Str} (h1 : Asc z) (h2 : z.length ≤ 20000) (h3 : RunB 60 z.cps.toList) : TxOk z := ⟨h1, h2, h3.le (by omega)⟩
/-- a text with one cut filled by a few signs -/
theorem tx_spoil {z y : Str} {k j : Nat} (h1 : Asc z) (h2 : z.length ≤ 9000) (h3 : RunB 60 z.cps.toList) (hy : Asc y) (hl : y.length ≤ 2) : TxOk (cutS z none (some (k : Int)) ++ y ++ cutS z (some (j : Int)) none) := by
  have c1 := cutS_length z none (some (k : Int))
  have c2 := cutS_length z (some (j : Int)) none
  refine ⟨(h1.cut.app hy).app h1.cut, ?_, ?_⟩
  · rw [PySem.strLen_append, PySem.strLen_append]
    omega
  · rw [tl_app, tl_app, cut_hd, cut_tl]
    have r1 : RunB 60 (z.cps.toList.take k) := h3.infix (a := []) (b := z.cps.toList.drop k) (by simp)
    have r2 : RunB 60 (z.cps.toList.drop j) := h3.infix (a := z.cps.toList.take j) (b := []) (by simp)
    have r3 : RunB 2 y.cps.toList := (RunB.len _).le (by rw [← tl_len]; exact hl)
    exact ((r1.app r3).app r2).le (by omega)
theorem tx_head {z : Str} {k : Nat} (h1 : Asc z) (h2 : z.length ≤ 9000) (h3 : RunB 60 z.cps.toList) : TxOk (cutS z none (some (k : Int))) := by
  have c1 := cutS_length z none (some (k : Int))
  refine ⟨h1.cut, by omega, ?_⟩
  rw [cut_hd]
  exact (h3.infix (a := []) (b := z.cps.toList.drop k) (by simp)).le (by omega)
section
variable {H : Hp} {Q : VK} {i : Int} {z : Str}
theorem q_ixAsc (hz : Asc z) (hl : z.length ≤ 1000000) (h0 : 0 ≤ i) (h1 : i < z.length) (q : ∀ c, c < 128 → Q (.str ⟨#[c]⟩) H) : rIxS (.str z) (.int i) H Q := by
  obtain ⟨k, rfl⟩ : ∃ k : Nat, i = (k : Int) := ⟨i.toNat, by omega⟩
  have hk : k < z.cps.toList.length := by rw [← tl_len]; omega
  exact ⟨z, _, z.cps.toList[k], rfl, rfl, size_of hl, atI_nat (List.getElem?_eq_getElem hk), q _ (hz _ (List.getElem_mem hk))⟩
theorem q_addLit {a b : Str} (n : Nat) (h : (a ++ b).length = n ∧ (a ++ b).cps.toList.all (fun c => decide (c < 128)) = true) (hn : n ≤ 1000000) (q : ∀ z, Asc z → z.length = n → Q (.str z) H) : rAddS (.str a) (.str b) H Q :=
  q_addS (by rw [← PySem.strLen_append, h.1]; exact hn) (q _ (asc_by h.2) h.1)
end
end Ts

local macro_rules | `(tactic| walk_at "ts hp") => `(tactic| first | assumption | (apply Ts.same_get; (focus assumption); walk_at "ts hp"))
local macro_rules | `(tactic| walk_at "ts sq") => `(tactic| first | assumption | ((with_reducible apply Ts.sqL_of); walk_at "ts hp") | ((with_reducible apply Ts.sqT_of); walk_at "ts hp") | ((with_reducible apply L2.Same.seq); (focus assumption); walk_at "ts sq") | ((with_reducible apply Ts.Same.sqT); (focus assumption); walk_at "ts sq"))
local macro_rules | `(tactic| walk_at "ts same") => `(tactic| first | assumption | exact L2.Same.refl _ | ((with_reducible apply Ts.same_step); (focus assumption); walk_at "ts same"))
local macro_rules | `(tactic| walk_at "ts call") => `(tactic| fail "no call")
local macro_rules | `(tactic| walk_at "ts 1") => `(tactic| first
  | with_reducible apply Ts.q_seq
  | with_reducible apply Ts.q_set
  | with_reducible apply Ts.q_asg
  | ((with_reducible apply Ts.q_lst2); (focus walk_at "ts sq"))
  | ((with_reducible apply Ts.q_tup2); (focus walk_at "ts sq"))
  | ((with_reducible apply Ts.q_tup5); (focus walk_at "ts sq"))
  | with_reducible apply Ts.q_name
  | with_reducible apply Ts.q_gSub
  | with_reducible apply Ts.q_ret
  | with_reducible apply Ts.q_ifS
  | with_reducible apply Ts.q_next
  | with_reducible apply Ts.q_drop
  | with_reducible apply Ts.q_retN
  | with_reducible apply Ts.q_op
  | with_reducible apply Ts.q_c
  | ((with_reducible apply Ts.q_var); (focus rfl))
  | with_reducible apply Ts.q_I0
  | ((with_reducible apply Ts.q_mod); (focus omega))
  | ((with_reducible apply Ts.q_mulR); (focus omega))
  | ((with_reducible apply Ts.q_mulL); (focus omega))
  | ((with_reducible apply Ts.q_fdiv); (focus omega))
  | with_reducible apply Ts.q_pow12
  | with_reducible apply Ts.q_pow24
  | with_reducible apply Ts.q_pow40
  | with_reducible apply Ts.q_un
  | with_reducible apply Ts.q_rU
  | with_reducible apply Ts.q_test
  | with_reducible apply Ts.q_tB
  | with_reducible apply Ts.q_bl
  | with_reducible apply Ts.q_eqI
  | with_reducible apply Ts.q_neI
  | with_reducible apply Ts.q_eqS
  | with_reducible apply Ts.q_neS
  | with_reducible apply Ts.q_eqB
  | with_reducible apply Ts.q_neB
  | with_reducible apply Ts.q_cons
  | with_reducible apply Ts.q_nil
  | with_reducible apply Ts.q_tup
  | with_reducible apply Ts.q_lst
  | with_reducible apply Ts.q_call
  | with_reducible apply Ts.q_callS
  | with_reducible apply Ts.q_callSD
  | with_reducible apply Ts.q_callSK
  | with_reducible apply Ts.q_CB
  | with_reducible apply Ts.q_bm
  | with_reducible apply Ts.q_bm0
  | with_reducible apply Ts.q_and
  | with_reducible apply Ts.q_or
  | with_reducible apply Ts.q_not
  | with_reducible apply Ts.q_andV
  | with_reducible apply Ts.q_orV
  | with_reducible apply Ts.q_notV
  | with_reducible apply Ts.q_ifE
  | with_reducible apply Ts.q_iteT
  | with_reducible apply Ts.q_iteF
  | with_reducible apply Ts.q_iteNT
  | with_reducible apply Ts.q_iteNF
  | ((with_reducible apply Ts.iteD_yes); (focus decide +kernel))
  | ((with_reducible apply Ts.iteD_no); (focus decide +kernel))
  | ((with_reducible apply Ts.iteN_yes); (focus decide +kernel))
  | ((with_reducible apply Ts.iteN_no); (focus decide +kernel))
  | ((with_reducible apply Ts.iteN_len); (focus rfl))
  | ((with_reducible apply Ts.q_lenL); (focus walk_at "ts sq"))
  | ((with_reducible apply Ts.q_lenT); (focus walk_at "ts sq"))
  | ((with_reducible apply Ts.q_max2); intro z z0 z1 zo)
  | ((with_reducible apply Ts.q_min2); intro z z0 z1 zo)
  | with_reducible apply Ts.q_for
  | with_reducible apply Ts.q_iList
  | with_reducible apply Ts.q_iTup
  | with_reducible apply Ts.q_iStr
  | with_reducible apply Ts.q_iRng1
  | with_reducible apply Ts.q_lc
  | with_reducible apply Ts.q_dget
  | with_reducible apply Ts.q_dget2
  | with_reducible apply Ts.q_dput
  | ((with_reducible apply Ts.q_dnew); intro d H2 hd sm ed)
  | ((with_reducible apply Ts.q_isD); (focus walk_at "ts hp"))
  | ((with_reducible apply Ts.q_tyL); (focus walk_at "ts hp"))
  | with_reducible apply Ts.q_yes
  | with_reducible apply Ts.q_sl
  | with_reducible apply Ts.q_noPart
  | with_reducible apply Ts.q_part
  | with_reducible apply Ts.q_partI
  | with_reducible apply Ts.q_intI
  | ((with_reducible apply Ts.q_intB); intro z z0 z1 zt zf)
  | ((with_reducible apply Ts.q_sort2); (focus walk_at "ts sq"); intro u v p H2 huv hor sm eo)
  | with_reducible apply Ts.q_isNN
  | with_reducible apply Ts.q_isNI
  | with_reducible apply Ts.q_isNR
  | with_reducible apply Ts.q_notNN
  | with_reducible apply Ts.q_notNI
  | with_reducible apply Ts.q_notNR
  | with_reducible apply Ts.q_isi_int_int
  | with_reducible apply Ts.q_isi_int_bool
  | with_reducible apply Ts.q_isi_str_str
  | ((with_reducible apply Ts.q_isi_tup_tup); (focus walk_at "ts hp"))
  | ((with_reducible apply Ts.q_isi_lst_lst); (focus walk_at "ts hp"))
  | walk_at "ts call"
  | walk_at "ts newo"
  | ((with_reducible apply Ts.q_ixL); (focus walk_at "ts sq"); (focus walk_at "ts at"))
  | ((with_reducible apply Ts.q_ixT); (focus walk_at "ts sq"); (focus walk_at "ts at")))
local macro_rules | `(tactic| walk_at "ts") => `(tactic| repeat walk_at "ts 1")
local macro_rules | `(tactic| walk_at "ts newo") => `(tactic| ((with_reducible refine And.intro (Ts.size_of ?hs) ?_); (case hs => exact Nat.le_of_ble_eq_true rfl); intro p hp; (generalize hG : L2.upd _ p _ = H2); have sm := hG ▸ Ts.same_upd hp; have eo := hG ▸ L2.upd_same; clear hG))
local macro_rules | `(tactic| walk_at "ts at") => `(tactic| first | exact Ts.at0 rfl | exact Ts.at1 rfl | exact Ts.at2 rfl | exact Ts.at3 rfl | exact Ts.at4 rfl)
local macro_rules | `(tactic| walk_at "ts allin") => `(tactic| (unfold Ts.AllIn; refine ⟨by omega, by omega, ?_⟩; first | walk_at "ts allin" | (unfold Ts.AllIn; trivial)))
local macro_rules | `(tactic| walk_at "ts if") => `(tactic| first | with_reducible refine Ts.q_iteD (fun h => ?_) (fun h => ?_) | with_reducible refine Ts.q_iteN (fun h => ?_) (fun h => ?_))
local macro_rules | `(tactic| walk_at "ts kill") => `(tactic| try (exfalso; omega; done))
local macro_rules | `(tactic| walk_at "ts all") => `(tactic| repeat' (first | walk_at "ts 1" | (walk_at "ts if" <;> walk_at "ts kill")))
local macro_rules | `(tactic| walk_at "ts ck") => `(tactic| first | assumption | (apply Ts.cks_step; (focus assumption); walk_at "ts ck") | (apply Ts.lts_step; (focus assumption); walk_at "ts ck") | (apply Ts.prs_step; (focus assumption); walk_at "ts ck"))
local macro_rules | `(tactic| walk_at "ts toif") => `(tactic| repeat ((fail_if_success (with_reducible apply Ts.q_ifS)); walk_at "ts 1"))



namespace Law
open PySem PySem.Spec PyProof.Rows L2 Ts
def topS (i : Nat) : Stmt := PySem.Challenge.pw_timestretch_k12_read.main.body.getD i (.Pass ⟨0, 0, 0, 0⟩)
abbrev s_is_name : Stmt := topS 16
abbrev s_checked : Stmt := topS 17
abbrev s_number_of : Stmt := topS 20
abbrev s_letter_of : Stmt := topS 21
abbrev s_read : Stmt := topS 22
abbrev s_l_whole : Stmt := topS 24
abbrev s_l_cell_at : Stmt := topS 25
abbrev s_l_mix : Stmt := topS 26
abbrev s_l_big : Stmt := topS 27
abbrev s_l_kind : Stmt := topS 28
abbrev s_l_word : Stmt := topS 29
abbrev s_l_names : Stmt := topS 30
abbrev s_l_letter : Stmt := topS 31
abbrev s_l_sign : Stmt := topS 32
abbrev s_l_odd : Stmt := topS 33
abbrev s_l_none : Stmt := topS 34
abbrev s_l_row : Stmt := topS 35
abbrev s_l_number : Stmt := topS 36
abbrev s_l_letter_of : Stmt := topS 37
abbrev s_l_due : Stmt := topS 38
abbrev s_l_told : Stmt := topS 39
abbrev s_l_spoilt : Stmt := topS 40
abbrev s_l_kinds : Stmt := topS 41
abbrev s_law : Stmt := topS 42
abbrev N_is_name : List Str := ["word", "sign"]
theorem sc_is_name : FnScope N_is_name ["word"] (defScope s_is_name) := ⟨rfl, rfl, rfl, by decide +kernel, rfl, by decide +kernel, by decide +kernel⟩
abbrev N_checked : List Str := ["letter", "name", "sent", "back", "low", "high", "number"]
theorem sc_checked : FnScope N_checked ["letter"] (defScope s_checked) := ⟨rfl, rfl, rfl, by decide +kernel, rfl, by decide +kernel, by decide +kernel⟩
abbrev N_number_of : List Str := ["word", "sign"]
theorem sc_number_of : FnScope N_number_of ["word"] (defScope s_number_of) := ⟨rfl, rfl, rfl, by decide +kernel, rfl, by decide +kernel, by decide +kernel⟩
abbrev N_letter_of : List Str := ["row", "words"]
theorem sc_letter_of : FnScope N_letter_of ["row"] (defScope s_letter_of) := ⟨rfl, rfl, rfl, by decide +kernel, rfl, by decide +kernel, by decide +kernel⟩
abbrev N_read : List Str := ["text", "rows", "found", "letter", "row"]
theorem sc_read : FnScope N_read ["text"] (defScope s_read) := ⟨rfl, rfl, rfl, by decide +kernel, rfl, by decide +kernel, by decide +kernel⟩
abbrev N_l_whole : List Str := ["_law_found"]
theorem sc_l_whole : FnScope N_l_whole ["_law_found"] (defScope s_l_whole) := ⟨rfl, rfl, rfl, by decide +kernel, rfl, by decide +kernel, by decide +kernel⟩
abbrev N_l_cell_at : List Str := ["_law_script", "_law_k"]
theorem sc_l_cell_at : FnScope N_l_cell_at ["_law_script", "_law_k"] (defScope s_l_cell_at) := ⟨rfl, rfl, rfl, by decide +kernel, rfl, by decide +kernel, by decide +kernel⟩
abbrev N_l_mix : List Str := ["_law_cell", "_law_k", "_law_number_here"]
theorem sc_l_mix : FnScope N_l_mix ["_law_cell", "_law_k"] (defScope s_l_mix) := ⟨rfl, rfl, rfl, by decide +kernel, rfl, by decide +kernel, by decide +kernel⟩
abbrev N_l_big : List Str := ["_law_cell", "_law_k", "_law_number_here"]
theorem sc_l_big : FnScope N_l_big ["_law_cell", "_law_k"] (defScope s_l_big) := ⟨rfl, rfl, rfl, by decide +kernel, rfl, by decide +kernel, by decide +kernel⟩
abbrev N_l_kind : List Str := ["_law_e", "_law_kinds_here", "_law_words"]
theorem sc_l_kind : FnScope N_l_kind ["_law_e"] (defScope s_l_kind) := ⟨rfl, rfl, rfl, by decide +kernel, rfl, by decide +kernel, by decide +kernel⟩
abbrev N_l_word : List Str := ["_law_cell", "_law_size", "_law_word_here", "_law_k"]
theorem sc_l_word : FnScope N_l_word ["_law_cell", "_law_size"] (defScope s_l_word) := ⟨rfl, rfl, rfl, by decide +kernel, rfl, by decide +kernel, by decide +kernel⟩
abbrev N_l_names : List Str := ["_law_cell", "_law_base", "_law_at", "_law_signs", "_law_k"]
theorem sc_l_names : FnScope N_l_names ["_law_cell"] (defScope s_l_names) := ⟨rfl, rfl, rfl, by decide +kernel, rfl, by decide +kernel, by decide +kernel⟩
abbrev N_l_letter : List Str := ["_law_cell", "_law_names_here", "_law_many", "_law_place", "_law_sent", "_law_back", "_law_near", "_law_low", "_law_high"]
theorem sc_l_letter : FnScope N_l_letter ["_law_cell", "_law_names_here", "_law_many"] (defScope s_l_letter) := ⟨rfl, rfl, rfl, by decide +kernel, rfl, by decide +kernel, by decide +kernel⟩
abbrev N_l_sign : List Str := ["_law_cell", "_law_signs"]
theorem sc_l_sign : FnScope N_l_sign ["_law_cell"] (defScope s_l_sign) := ⟨rfl, rfl, rfl, by decide +kernel, rfl, by decide +kernel, by decide +kernel⟩
abbrev N_l_odd : List Str := ["_law_cell", "_law_some"]
theorem sc_l_odd : FnScope N_l_odd ["_law_cell"] (defScope s_l_odd) := ⟨rfl, rfl, rfl, by decide +kernel, rfl, by decide +kernel, by decide +kernel⟩
abbrev N_l_none : List Str := ["_law_cell", "_law_far", "_law_some"]
theorem sc_l_none : FnScope N_l_none ["_law_cell"] (defScope s_l_none) := ⟨rfl, rfl, rfl, by decide +kernel, rfl, by decide +kernel, by decide +kernel⟩
abbrev N_l_row : List Str := ["_law_letter_here", "_law_name", "_law_sent", "_law_back", "_law_low", "_law_high"]
theorem sc_l_row : FnScope N_l_row ["_law_letter_here"] (defScope s_l_row) := ⟨rfl, rfl, rfl, by decide +kernel, rfl, by decide +kernel, by decide +kernel⟩
abbrev N_l_number : List Str := ["_law_word_here", "_law_sign_here"]
theorem sc_l_number : FnScope N_l_number ["_law_word_here"] (defScope s_l_number) := ⟨rfl, rfl, rfl, by decide +kernel, rfl, by decide +kernel, by decide +kernel⟩
abbrev N_l_letter_of : List Str := ["_law_row_here", "_law_words", "_law_numbers", "_law_k"]
theorem sc_l_letter_of : FnScope N_l_letter_of ["_law_row_here"] (defScope s_l_letter_of) := ⟨rfl, rfl, rfl, by decide +kernel, rfl, by decide +kernel, by decide +kernel⟩
abbrev N_l_due : List Str := ["_law_text", "_law_rows", "_law_letters", "_law_name", "_law_sent", "_law_back", "_law_low", "_law_high", "_law_wrong", "_law_row_here", "_law_sign_here"]
theorem sc_l_due : FnScope N_l_due ["_law_text"] (defScope s_l_due) := ⟨rfl, rfl, rfl, by decide +kernel, rfl, by decide +kernel, by decide +kernel⟩
abbrev N_l_told : List Str := ["_law_text", "_law_e"]
theorem sc_l_told : FnScope N_l_told ["_law_text"] (defScope s_l_told) := ⟨rfl, rfl, rfl, by decide +kernel, rfl, by decide +kernel, by decide +kernel⟩
abbrev N_l_spoilt : List Str := ["_law_rows", "_law_cell", "_law_text", "_law_at", "_law_odd_here", "_law_sign_here", "_law_row_here"]
theorem sc_l_spoilt : FnScope N_l_spoilt ["_law_rows", "_law_cell"] (defScope s_l_spoilt) := ⟨rfl, rfl, rfl, by decide +kernel, rfl, by decide +kernel, by decide +kernel⟩
abbrev N_l_kinds : List Str := ["_law_found", "_law_letter_here", "_law_number_here"]
theorem sc_l_kinds : FnScope N_l_kinds ["_law_found"] (defScope s_l_kinds) := ⟨rfl, rfl, rfl, by decide +kernel, rfl, by decide +kernel, by decide +kernel⟩
abbrev N_law : List Str := ["_law_script", "_law_names_here", "_law_rows", "_law_text", "_law_letters", "_law_word_here", "_law_found", "_law_refused", "_law_again", "_law_cell"]
theorem sc_law : FnScope N_law ["_law_script"] (defScope s_law) := ⟨rfl, rfl, rfl, by decide +kernel, rfl, by decide +kernel, by decide +kernel⟩
structure Lw (K : PySem.W.Frag) (mg : Str → Option Value) where
  f_is_name : Addr
  fd_is_name : FuncData
  d_is_name : Def K "is_name" "is_name" s_is_name ["word"] f_is_name fd_is_name
  m_is_name : mg "is_name" = some (.ref f_is_name)
  f_checked : Addr
  fd_checked : FuncData
  d_checked : Def K "checked" "checked" s_checked ["letter"] f_checked fd_checked
  m_checked : mg "checked" = some (.ref f_checked)
  f_number_of : Addr
  fd_number_of : FuncData
  d_number_of : Def K "number_of" "number_of" s_number_of ["word"] f_number_of fd_number_of
  m_number_of : mg "number_of" = some (.ref f_number_of)
  f_letter_of : Addr
  fd_letter_of : FuncData
  d_letter_of : Def K "letter_of" "letter_of" s_letter_of ["row"] f_letter_of fd_letter_of
  m_letter_of : mg "letter_of" = some (.ref f_letter_of)
  f_read : Addr
  fd_read : FuncData
  d_read : Def K "read" "read" s_read ["text"] f_read fd_read
  m_read : mg "read" = some (.ref f_read)
  f_l_whole : Addr
  fd_l_whole : FuncData
  d_l_whole : Def K "_law_whole" "_law_whole" s_l_whole ["_law_found"] f_l_whole fd_l_whole
  m_l_whole : mg "_law_whole" = some (.ref f_l_whole)
  f_l_cell_at : Addr
  fd_l_cell_at : FuncData
  d_l_cell_at : Def K "_law_cell_at" "_law_cell_at" s_l_cell_at ["_law_script", "_law_k"] f_l_cell_at fd_l_cell_at
  m_l_cell_at : mg "_law_cell_at" = some (.ref f_l_cell_at)
  f_l_mix : Addr
  fd_l_mix : FuncData
  d_l_mix : Def K "_law_mix" "_law_mix" s_l_mix ["_law_cell", "_law_k"] f_l_mix fd_l_mix
  m_l_mix : mg "_law_mix" = some (.ref f_l_mix)
  f_l_big : Addr
  fd_l_big : FuncData
  d_l_big : Def K "_law_big" "_law_big" s_l_big ["_law_cell", "_law_k"] f_l_big fd_l_big
  m_l_big : mg "_law_big" = some (.ref f_l_big)
  f_l_kind : Addr
  fd_l_kind : FuncData
  d_l_kind : Def K "_law_kind" "_law_kind" s_l_kind ["_law_e"] f_l_kind fd_l_kind
  m_l_kind : mg "_law_kind" = some (.ref f_l_kind)
  f_l_word : Addr
  fd_l_word : FuncData
  d_l_word : Def K "_law_word" "_law_word" s_l_word ["_law_cell", "_law_size"] f_l_word fd_l_word
  m_l_word : mg "_law_word" = some (.ref f_l_word)
  f_l_names : Addr
  fd_l_names : FuncData
  d_l_names : Def K "_law_names" "_law_names" s_l_names ["_law_cell"] f_l_names fd_l_names
  m_l_names : mg "_law_names" = some (.ref f_l_names)
  f_l_letter : Addr
  fd_l_letter : FuncData
  d_l_letter : Def K "_law_letter" "_law_letter" s_l_letter ["_law_cell", "_law_names_here", "_law_many"] f_l_letter fd_l_letter
  m_l_letter : mg "_law_letter" = some (.ref f_l_letter)
  f_l_sign : Addr
  fd_l_sign : FuncData
  d_l_sign : Def K "_law_sign" "_law_sign" s_l_sign ["_law_cell"] f_l_sign fd_l_sign
  m_l_sign : mg "_law_sign" = some (.ref f_l_sign)
  f_l_odd : Addr
  fd_l_odd : FuncData
  d_l_odd : Def K "_law_odd" "_law_odd" s_l_odd ["_law_cell"] f_l_odd fd_l_odd
  m_l_odd : mg "_law_odd" = some (.ref f_l_odd)
  f_l_none : Addr
  fd_l_none : FuncData
  d_l_none : Def K "_law_none" "_law_none" s_l_none ["_law_cell"] f_l_none fd_l_none
  m_l_none : mg "_law_none" = some (.ref f_l_none)
  f_l_row : Addr
  fd_l_row : FuncData
  d_l_row : Def K "_law_row" "_law_row" s_l_row ["_law_letter_here"] f_l_row fd_l_row
  m_l_row : mg "_law_row" = some (.ref f_l_row)
  f_l_number : Addr
  fd_l_number : FuncData
  d_l_number : Def K "_law_number" "_law_number" s_l_number ["_law_word_here"] f_l_number fd_l_number
  m_l_number : mg "_law_number" = some (.ref f_l_number)
  f_l_letter_of : Addr
  fd_l_letter_of : FuncData
  d_l_letter_of : Def K "_law_letter_of" "_law_letter_of" s_l_letter_of ["_law_row_here"] f_l_letter_of fd_l_letter_of
  m_l_letter_of : mg "_law_letter_of" = some (.ref f_l_letter_of)
  f_l_due : Addr
  fd_l_due : FuncData
  d_l_due : Def K "_law_due" "_law_due" s_l_due ["_law_text"] f_l_due fd_l_due
  m_l_due : mg "_law_due" = some (.ref f_l_due)
  f_l_told : Addr
  fd_l_told : FuncData
  d_l_told : Def K "_law_told" "_law_told" s_l_told ["_law_text"] f_l_told fd_l_told
  m_l_told : mg "_law_told" = some (.ref f_l_told)
  f_l_spoilt : Addr
  fd_l_spoilt : FuncData
  d_l_spoilt : Def K "_law_spoilt" "_law_spoilt" s_l_spoilt ["_law_rows", "_law_cell"] f_l_spoilt fd_l_spoilt
  m_l_spoilt : mg "_law_spoilt" = some (.ref f_l_spoilt)
  f_l_kinds : Addr
  fd_l_kinds : FuncData
  d_l_kinds : Def K "_law_kinds" "_law_kinds" s_l_kinds ["_law_found"] f_l_kinds fd_l_kinds
  m_l_kinds : mg "_law_kinds" = some (.ref f_l_kinds)
  f_law : Addr
  fd_law : FuncData
  d_law : Def K "law" "law" s_law ["_law_script"] f_law fd_law
  m_law : mg "law" = some (.ref f_law)
  c_SIGNS : ∃ t, mg "SIGNS" = some (.str "abcdefghijklmnopqrstuvwxyz" t)
  c_MOST_SIGNS : ∃ t, mg "MOST_SIGNS" = some (.int 12 t)
  c_GREATEST : ∃ t, mg "GREATEST" = some (.int 1000000000000 t)
  c_FIGURES : ∃ t, mg "FIGURES" = some (.str "0123456789" t)
  n_ValueError : mg "ValueError" = none
  n_int : mg "int" = none
  n_range : mg "range" = none
  n_sorted : mg "sorted" = none
  n_isinstance : mg "isinstance" = none
  n_len : mg "len" = none
  n_max : mg "max" = none
  n_bool : mg "bool" = none
  n_min : mg "min" = none
  n_list : mg "list" = none
  n_tuple : mg "tuple" = none
  n_str : mg "str" = none
  C_StretchError : Addr
  m_StretchError : mg "StretchError" = some (.ref C_StretchError)
  C_BadName : Addr
  m_BadName : mg "BadName" = some (.ref C_BadName)
  C_BadLetter : Addr
  m_BadLetter : mg "BadLetter" = some (.ref C_BadLetter)
  C_BadOff : Addr
  m_BadOff : mg "BadOff" = some (.ref C_BadOff)
  C_TooEarly : Addr
  m_TooEarly : mg "TooEarly" = some (.ref C_TooEarly)
  C_BadCount : Addr
  m_BadCount : mg "BadCount" = some (.ref C_BadCount)
  C_NoAgreement : Addr
  m_NoAgreement : mg "NoAgreement" = some (.ref C_NoAgreement)
  C_TooWide : Addr
  m_TooWide : mg "TooWide" = some (.ref C_TooWide)
  C_TooMany : Addr
  m_TooMany : mg "TooMany" = some (.ref C_TooMany)
  C_NoClock : Addr
  m_NoClock : mg "NoClock" = some (.ref C_NoClock)
  C_NoText : Addr
  m_NoText : mg "NoText" = some (.ref C_NoText)
  x_BadName : ExK K C_BadName
  x_BadLetter : ExK K C_BadLetter
  x_NoText : ExK K C_NoText
  t_BadName : PySem.W.exmOne K (.ref C_BadName) (.ref C_StretchError) = some true
  i_BadName_BadName : PySem.W.kitOne K (.ref C_BadName) (.ref C_BadName) = some true
  i_BadName_BadLetter : PySem.W.kitOne K (.ref C_BadName) (.ref C_BadLetter) = some false
  i_BadName_BadOff : PySem.W.kitOne K (.ref C_BadName) (.ref C_BadOff) = some false
  i_BadName_TooEarly : PySem.W.kitOne K (.ref C_BadName) (.ref C_TooEarly) = some false
  i_BadName_BadCount : PySem.W.kitOne K (.ref C_BadName) (.ref C_BadCount) = some false
  i_BadName_NoAgreement : PySem.W.kitOne K (.ref C_BadName) (.ref C_NoAgreement) = some false
  i_BadName_TooWide : PySem.W.kitOne K (.ref C_BadName) (.ref C_TooWide) = some false
  i_BadName_TooMany : PySem.W.kitOne K (.ref C_BadName) (.ref C_TooMany) = some false
  i_BadName_NoClock : PySem.W.kitOne K (.ref C_BadName) (.ref C_NoClock) = some false
  i_BadName_NoText : PySem.W.kitOne K (.ref C_BadName) (.ref C_NoText) = some false
  i_BadName_ValueError : PySem.W.kitOne K (.ref C_BadName) (.type "ValueError") = some true
  t_BadLetter : PySem.W.exmOne K (.ref C_BadLetter) (.ref C_StretchError) = some true
  i_BadLetter_BadName : PySem.W.kitOne K (.ref C_BadLetter) (.ref C_BadName) = some false
  i_BadLetter_BadLetter : PySem.W.kitOne K (.ref C_BadLetter) (.ref C_BadLetter) = some true
  i_BadLetter_BadOff : PySem.W.kitOne K (.ref C_BadLetter) (.ref C_BadOff) = some false
  i_BadLetter_TooEarly : PySem.W.kitOne K (.ref C_BadLetter) (.ref C_TooEarly) = some false
  i_BadLetter_BadCount : PySem.W.kitOne K (.ref C_BadLetter) (.ref C_BadCount) = some false
  i_BadLetter_NoAgreement : PySem.W.kitOne K (.ref C_BadLetter) (.ref C_NoAgreement) = some false
  i_BadLetter_TooWide : PySem.W.kitOne K (.ref C_BadLetter) (.ref C_TooWide) = some false
  i_BadLetter_TooMany : PySem.W.kitOne K (.ref C_BadLetter) (.ref C_TooMany) = some false
  i_BadLetter_NoClock : PySem.W.kitOne K (.ref C_BadLetter) (.ref C_NoClock) = some false
  i_BadLetter_NoText : PySem.W.kitOne K (.ref C_BadLetter) (.ref C_NoText) = some false
  i_BadLetter_ValueError : PySem.W.kitOne K (.ref C_BadLetter) (.type "ValueError") = some true
  t_NoText : PySem.W.exmOne K (.ref C_NoText) (.ref C_StretchError) = some true
  i_NoText_BadName : PySem.W.kitOne K (.ref C_NoText) (.ref C_BadName) = some false
  i_NoText_BadLetter : PySem.W.kitOne K (.ref C_NoText) (.ref C_BadLetter) = some false
  i_NoText_BadOff : PySem.W.kitOne K (.ref C_NoText) (.ref C_BadOff) = some false
  i_NoText_TooEarly : PySem.W.kitOne K (.ref C_NoText) (.ref C_TooEarly) = some false
  i_NoText_BadCount : PySem.W.kitOne K (.ref C_NoText) (.ref C_BadCount) = some false
  i_NoText_NoAgreement : PySem.W.kitOne K (.ref C_NoText) (.ref C_NoAgreement) = some false
  i_NoText_TooWide : PySem.W.kitOne K (.ref C_NoText) (.ref C_TooWide) = some false
  i_NoText_TooMany : PySem.W.kitOne K (.ref C_NoText) (.ref C_TooMany) = some false
  i_NoText_NoClock : PySem.W.kitOne K (.ref C_NoText) (.ref C_NoClock) = some false
  i_NoText_NoText : PySem.W.kitOne K (.ref C_NoText) (.ref C_NoText) = some true
  i_NoText_ValueError : PySem.W.kitOne K (.ref C_NoText) (.type "ValueError") = some true

end Law


namespace Law
open PySem PySem.Spec PyProof.Rows L2 Ts
variable {P : Program} {w : World} {K : PySem.W.Frag} {mg : Str → Option Value} {base : Heap}

/-! ### a cell of the script -/
def cellAt (ns : List Int) (k : Int) : Int := if k < ns.length then ns.getD k.toNat 0 else 0
def sp_l_cell_at (K : PySem.W.Frag) : Sp := fun vs H Q _ => ∃ (a : Addr) (ns : List Int) (k : Int), vs = [.ref a, .int k] ∧ SqL K H a (ns.map V.int) ∧ 0 ≤ k ∧ Q (.int (cellAt ns k)) H
theorem c_l_cell_at {a : Addr} {ns : List Int} {k : Int} {H : Hp} {Q : VK} {E : XK} (h : SqL K H a (ns.map V.int)) (h0 : 0 ≤ k) (q : ∀ z, z = cellAt ns k → Q (.int z) H) : sp_l_cell_at K ([.ref a, .int k] ++ []) H Q E := ⟨a, ns, k, rfl, h, h0, q _ rfl⟩
theorem ok_l_cell_at (T : Lw K mg) : FnOk P w K mg base CX0 1 T.f_l_cell_at T.fd_l_cell_at ["_law_script", "_law_k"] (sp_l_cell_at K) := by
  refine T.d_l_cell_at.F.ok sc_l_cell_at (fun vs H Q E h => ?_) (fun cdv A outer s H vs Q E hr h => ?_)
  · obtain ⟨a, ns, k, rfl, _⟩ := h
    rfl
  · obtain ⟨a, ns, k, rfl, hs, h0, q⟩ := h
    refine ⟨_, (pss_cons (ps_if (pt_cmpR op_lt (pv 1) (pe_callB (Ts.call_lenK K) (by rfl) T.n_len (by decide +kernel) (pa_cons (pv 0) pa_nil)) (nomark _)) (pss_one (ps_ret (pe_ix (Ts.ix_listK K) (pv 0) (pv 1) (fun _ _ => rfl)))) pss_nil) (pss_one (ps_ret pe_int))), ?_⟩
    walk_at "ts"
    refine Ts.q_iteD (fun hk => ?_) (fun hk => ?_)
    · rw [List.length_map] at hk
      walk_at "ts"
      obtain ⟨j, rfl⟩ : ∃ j : Nat, k = (j : Int) := ⟨k.toNat, by omega⟩
      have hj : j < ns.length := by omega
      refine Ts.q_ixL hs (v := .int ns[j]) (atI_nat (by rw [List.getElem?_map, List.getElem?_eq_getElem hj]; rfl)) ?_
      have e : cellAt ns (j : Int) = ns[j] := by
        unfold cellAt
        rw [if_pos hk]
        simp [hj]
      rw [e] at q
      exact q
    · rw [List.length_map] at hk
      walk_at "ts"
      have e : cellAt ns k = 0 := by
        unfold cellAt
        rw [if_neg hk]
      rw [e] at q
      exact q
local macro_rules | `(tactic| walk_at "ts call") => `(tactic| ((with_reducible apply c_l_cell_at); (focus walk_at "ts sq"); (focus omega); intro z ez))

/-! ### a drawn number -/
def mixv (c k : Int) : Int := (c + 7919 * k + 1) * 48271 % 1000003 * ((c + 7919 * k + 1) * 48271 % 1000003) % 999983
def sp_l_mix : Sp := fun vs H Q _ => ∃ (c k : Int), vs = [.int c, .int k] ∧ Q (.int (mixv c k)) H
theorem c_l_mix {c k : Int} {H : Hp} {Q : VK} {E : XK} (q : ∀ z, z = mixv c k → 0 ≤ z → z < 999983 → Q (.int z) H) : sp_l_mix ([.int c, .int k] ++ []) H Q E :=
  ⟨c, k, rfl, q _ rfl (Int.emod_nonneg _ (by decide)) (Int.emod_lt_of_pos _ (by decide))⟩
theorem ok_l_mix (T : Lw K mg) : FnOk P w K mg base CX0 1 T.f_l_mix T.fd_l_mix ["_law_cell", "_law_k"] sp_l_mix := by
  refine T.d_l_mix.F.ok sc_l_mix (fun vs H Q E h => ?_) (fun cdv A outer s H vs Q E hr h => ?_)
  · obtain ⟨c, k, rfl, _⟩ := h
    rfl
  · obtain ⟨c, k, rfl, q⟩ := h
    refine ⟨_, (pss_cons (ps_asg (pe_op op_mod (pe_op op_mul (pe_op op_add (pe_op op_add (pv 0) (pe_op op_mul pe_int (pv 1))) pe_int) pe_int) pe_int) (pg_name (i := 2) sc_l_mix.nd rfl (by first | exact Or.inl rfl | exact Or.inr rfl))) (pss_one (ps_ret (pe_op op_mod (pe_op op_mul (pv 2) (pv 2)) pe_int)))), ?_⟩
    walk_at "ts"
    exact q
local macro_rules | `(tactic| walk_at "ts call") => `(tactic| ((with_reducible apply c_l_mix); intro z ez z0 z1))

/-! ### a drawn number to 10 ** 12 -/
def sp_l_big : Sp := fun vs H Q _ => ∃ (c k : Int), vs = [.int c, .int k] ∧ ∀ (z : Int) (H' : Hp), 0 ≤ z → z ≤ 1000000000000 → Same H H' → Q (.int z) H'
theorem c_l_big {c k : Int} {H : Hp} {Q : VK} {E : XK} (q : ∀ (z : Int) (H' : Hp), 0 ≤ z → z ≤ 1000000000000 → Same H H' → Q (.int z) H') : sp_l_big ([.int c, .int k] ++ []) H Q E := ⟨c, k, rfl, q⟩
theorem ok_l_big (T : Lw K mg) : FnOk P w K mg base CX0 2 T.f_l_big T.fd_l_big ["_law_cell", "_law_k"] sp_l_big := by
  refine T.d_l_big.F.ok sc_l_big (fun vs H Q E h => ?_) (fun cdv A outer s H vs Q E hr h => ?_)
  · obtain ⟨c, k, rfl, _⟩ := h
    rfl
  · obtain ⟨c, k, rfl, q⟩ := h
    refine ⟨_, (pss_cons (ps_asg (pe_call ((ok_l_mix T).mono (by decide)) hr rfl T.m_l_mix T.d_l_mix.F.kp T.d_l_mix.b .nil pass0 (pa_cons (pv 0) (pa_cons (pv 1) pa_nil))) (pg_name (i := 2) sc_l_big.nd rfl (by first | exact Or.inl rfl | exact Or.inr rfl))) (pss_cons (ps_if (pt_cmpR op_eq (pe_op op_mod (pe_call ((ok_l_mix T).mono (by decide)) hr rfl T.m_l_mix T.d_l_mix.F.kp T.d_l_mix.b .nil pass0 (pa_cons (pv 0) (pa_cons (pe_op op_add (pv 1) pe_int) pa_nil))) pe_int) pe_int (nomark _)) (pss_one (ps_ret (pe_op op_mod (pv 2) pe_int))) pss_nil) (pss_cons (ps_if (pt_cmpR op_eq (pe_op op_mod (pe_call ((ok_l_mix T).mono (by decide)) hr rfl T.m_l_mix T.d_l_mix.F.kp T.d_l_mix.b .nil pass0 (pa_cons (pv 0) (pa_cons (pe_op op_add (pv 1) pe_int) pa_nil))) pe_int) pe_int (nomark _)) (pss_one (ps_ret (pe_op op_mod (pv 2) pe_int))) pss_nil) (pss_cons (ps_if (pt_cmpR op_eq (pe_op op_mod (pe_call ((ok_l_mix T).mono (by decide)) hr rfl T.m_l_mix T.d_l_mix.F.kp T.d_l_mix.b .nil pass0 (pa_cons (pv 0) (pa_cons (pe_op op_add (pv 1) pe_int) pa_nil))) pe_int) pe_int (nomark _)) (pss_one (ps_ret (pe_ix (Ts.ix_listK K) (pe_lst (pa_cons pe_int (pa_cons pe_int (pa_cons (pe_op op_pow pe_int pe_int) (pa_cons (pe_op op_sub (pe_op op_pow pe_int pe_int) pe_int) pa_nil))))) (pe_op op_mod (pv 2) pe_int) (fun _ _ => rfl)))) pss_nil) (pss_one (ps_ret (pe_op op_mod (pe_op op_add (pe_op op_mul (pv 2) pe_int) (pe_call ((ok_l_mix T).mono (by decide)) hr rfl T.m_l_mix T.d_l_mix.F.kp T.d_l_mix.b .nil pass0 (pa_cons (pv 0) (pa_cons (pe_op op_add (pv 1) pe_int) pa_nil)))) (pe_op op_add (pe_op op_pow pe_int pe_int) pe_int)))))))), ?_⟩
    walk_at "ts"
    refine Ts.q_iteD (fun h1 => ?_) (fun h1 => ?_)
    · walk_at "ts"
      exact q _ _ (by omega) (by omega) (by walk_at "ts same")
    walk_at "ts"
    refine Ts.q_iteD (fun h1 => ?_) (fun h1 => ?_)
    · walk_at "ts"
      exact q _ _ (by omega) (by omega) (by walk_at "ts same")
    walk_at "ts"
    refine Ts.q_iteD (fun h1 => ?_) (fun h1 => ?_)
    · walk_at "ts"
      refine Ts.q_ixAny (by walk_at "ts sq") (by omega) (by simp; omega) fun v hv => ?_
      simp at hv
      rcases hv with rfl | rfl | rfl | rfl
      all_goals exact q _ _ (by omega) (by omega) (by walk_at "ts same")
    · walk_at "ts"
      exact q _ _ (by omega) (by omega) (by walk_at "ts same")
local macro_rules | `(tactic| walk_at "ts call") => `(tactic| ((with_reducible apply c_l_big); intro z H2 z0 z1 sz))

/-! ### whether a value is a whole number -/
def sp_l_whole : Sp := fun vs H Q _ => ∃ (z : Int), vs = [.int z] ∧ Q (.bl true) H
theorem c_l_whole {z : Int} {H : Hp} {Q : VK} {E : XK} (q : Q (.bl true) H) : sp_l_whole ([.int z] ++ []) H Q E := ⟨z, rfl, q⟩
theorem ok_l_whole (T : Lw K mg) : FnOk P w K mg base CX0 1 T.f_l_whole T.fd_l_whole ["_law_found"] sp_l_whole := by
  refine T.d_l_whole.F.ok sc_l_whole (fun vs H Q E h => ?_) (fun cdv A outer s H vs Q E hr h => ?_)
  · obtain ⟨z, rfl, _⟩ := h
    rfl
  · obtain ⟨z, rfl, q⟩ := h
    refine ⟨_, (pss_one (ps_ret (pe_and (pe_callB (Ts.call_isiK' K) (by rfl) T.n_isinstance (by decide +kernel) (pa_cons (pv 0) (pa_cons (pe_bltn (v := .ty "int") (by rfl) T.n_int (by decide +kernel) rfl) pa_nil))) (pe_one (pe_not (pe_callB (Ts.call_isiK' K) (by rfl) T.n_isinstance (by decide +kernel) (pa_cons (pv 0) (pa_cons (pe_bltn (v := .ty "bool") (by rfl) T.n_bool (by decide +kernel) rfl) pa_nil)))))))), ?_⟩
    walk_at "ts"
    exact q
local macro_rules | `(tactic| walk_at "ts call") => `(tactic| with_reducible apply c_l_whole)

/-! ### a drawn word -/
def sp_l_word : Sp := fun vs H Q _ => ∃ (c n : Int), vs = [.int c, .int n] ∧ 0 ≤ n ∧ n ≤ 1000 ∧ ∀ z : Str, (z.length : Int) = n → Low z → Q (.str z) H
theorem c_l_word {c n : Int} {H : Hp} {Q : VK} {E : XK} (h0 : 0 ≤ n) (h1 : n ≤ 1000) (q : ∀ z : Str, (z.length : Int) = n → Low z → Q (.str z) H) : sp_l_word ([.int c, .int n] ++ []) H Q E := ⟨c, n, rfl, h0, h1, q⟩
theorem ok_l_word (T : Lw K mg) : FnOk P w K mg base CX0 2 T.f_l_word T.fd_l_word ["_law_cell", "_law_size"] sp_l_word := by
  refine T.d_l_word.F.ok sc_l_word (fun vs H Q E h => ?_) (fun cdv A outer s H vs Q E hr h => ?_)
  · obtain ⟨c, n, rfl, _⟩ := h
    rfl
  · obtain ⟨c, n, rfl, h0, h1, q⟩ := h
    refine ⟨_, (pss_cons (ps_asg pe_str (pg_name (i := 2) sc_l_word.nd rfl (by first | exact Or.inl rfl | exact Or.inr rfl))) (pss_cons (ps_for PassesOwn.never rfl (pi_range1 (by rfl) T.n_range (pa_cons (pv 1) pa_nil)) (pg_name (i := 3) sc_l_word.nd rfl (by first | exact Or.inl rfl | exact Or.inr rfl)) (pss_one (ps_asg (pe_op Ts.op_addS (pv 2) (pe_ix ix_str pe_str (pe_op op_mod (pe_call ((ok_l_mix T).mono (by decide)) hr rfl T.m_l_mix T.d_l_mix.F.kp T.d_l_mix.b .nil pass0 (pa_cons (pv 0) (pa_cons (pe_op op_add (pv 3) pe_int) pa_nil))) pe_int) (fun _ _ => rfl))) (pg_name (i := 2) sc_l_word.nd rfl (by first | exact Or.inl rfl | exact Or.inr rfl))))) (pss_one (ps_ret (pv 2))))), ?_⟩
    walk_at "ts"
    refine Ts.q_forR h0 (by omega) (fun i σ' H' => H' = H ∧ ∃ (z : Str) (v : Option V), σ' = [some (.int c), some (.int n), some (.str z), v] ∧ z.length = i ∧ Low z) ⟨rfl, _, none, rfl, by decide +kernel, low_empty⟩ ?_ ?_
    · rintro i σ' H' hi ⟨rfl, z, v, rfl, hz, lz⟩
      walk_at "ts"
      refine Ts.q_ixAbc (by omega) (by omega) fun ch hch => ?_
      have l1 : (⟨#[ch]⟩ : Str).length = 1 := rfl
      refine Ts.q_addS (by omega) ?_
      refine ⟨rfl, _, _, rfl, ?_, lz.app (low_one (by omega) (by omega))⟩
      rw [PySem.strLen_append, l1, hz]
    · rintro σ' H' ⟨rfl, z, v, rfl, hz, lz⟩
      walk_at "ts"
      exact q z (by omega) lz
local macro_rules | `(tactic| walk_at "ts call") => `(tactic| ((with_reducible apply c_l_word); (focus omega); (focus omega); intro z hz lz))

/-! ### forty-two names -/
/-- the i-th name about a word and a place -/
def nameAt (b : Str) (k i : Nat) : Str := cutS b none (some (k : Int)) ++ ⟨#[97 + i % 26]⟩ ++ (if i < 26 then "" else "z") ++ cutS b (some (k : Int)) none
def nmList (b : Str) (k : Nat) : List Str := (List.range 42).map (nameAt b k)
theorem nameAt_low {b : Str} {k i : Nat} (h : Low b) : Low (nameAt b k i) := by
  unfold nameAt
  refine (((low_cut h).1.app (low_one (by omega) (by omega))).app ?_).app (low_cut h).2
  split
  · exact low_empty
  · exact low_z
theorem nameAt_tl (b : Str) (k i : Nat) : (nameAt b k i).cps.toList = b.cps.toList.take k ++ [97 + i % 26] ++ (if i < 26 then [] else [122]) ++ b.cps.toList.drop k := by
  unfold nameAt
  rw [tl_app, tl_app, tl_app, cut_hd, cut_tl]
  congr 2
  split
  · decide +kernel
  · decide +kernel
theorem nameAt_len (b : Str) (k i : Nat) : (nameAt b k i).length = b.length + (if i < 26 then 1 else 2) := by
  rw [tl_len, nameAt_tl, tl_len]
  have e := List.take_append_drop k b.cps.toList
  have e2 : (b.cps.toList.take k).length + (b.cps.toList.drop k).length = b.cps.toList.length := by rw [← List.length_append, e]
  simp only [List.length_append, List.length_cons, List.length_nil]
  split
  · simp only [List.length_nil]; omega
  · simp only [List.length_cons, List.length_nil]; omega
def sp_l_names : Sp := fun vs H Q _ => ∃ (c : Int), vs = [.int c] ∧ ∀ (b : Str) (k : Nat) (p : Addr) (H' : Hp), Low b → b.length ≤ 10 → Same H H' → H' p = some (.lst ((nmList b k).map V.str)) → Q (.ref p) H'
theorem c_l_names {c : Int} {H : Hp} {Q : VK} {E : XK} (q : ∀ (b : Str) (k : Nat) (p : Addr) (H' : Hp), Low b → b.length ≤ 10 → Same H H' → H' p = some (.lst ((nmList b k).map V.str)) → Q (.ref p) H') : sp_l_names ([.int c] ++ []) H Q E := ⟨c, rfl, q⟩
theorem ok_l_names (T : Lw K mg) : FnOk P w K mg base CX0 3 T.f_l_names T.fd_l_names ["_law_cell"] sp_l_names := by
  refine T.d_l_names.F.ok sc_l_names (fun vs H Q E h => ?_) (fun cdv A outer s H vs Q E hr h => ?_)
  · obtain ⟨c, rfl, _⟩ := h
    rfl
  · obtain ⟨c, rfl, q⟩ := h
    refine ⟨_, (pss_cons (ps_asg (pe_call ((ok_l_word T).mono (by decide)) hr rfl T.m_l_word T.d_l_word.F.kp T.d_l_word.b .nil pass0 (pa_cons (pv 0) (pa_cons (pe_op op_mod (pv 0) pe_int) pa_nil))) (pg_name (i := 1) sc_l_names.nd rfl (by first | exact Or.inl rfl | exact Or.inr rfl))) (pss_cons (ps_asg (pe_op op_mod (pe_call ((ok_l_mix T).mono (by decide)) hr rfl T.m_l_mix T.d_l_mix.F.kp T.d_l_mix.b .nil pass0 (pa_cons (pv 0) (pa_cons pe_int pa_nil))) pe_int) (pg_name (i := 2) sc_l_names.nd rfl (by first | exact Or.inl rfl | exact Or.inr rfl))) (pss_cons (ps_asg pe_str (pg_name (i := 3) sc_l_names.nd rfl (by first | exact Or.inl rfl | exact Or.inr rfl))) (pss_one (ps_ret (pe_lc (own := [("_law_k", 4)]) rfl sc_l_names.nd (pi_range1 (by rfl) T.n_range (pa_cons pe_int pa_nil)) (blkOk_by (own := [("_law_k", 4)]) (N := N_l_names) (sc := defScope s_l_names) (by decide +kernel)) (fun _ _ _ _ _ => pg_name (i := 4) sc_l_names.nd rfl (Or.inl rfl)) (fun _ _ _ _ _ => pts_nil) (fun _ _ _ _ _ => (pe_op Ts.op_addS (pe_op Ts.op_addS (pe_op Ts.op_addS (pe_slice (sl_str) (pv 1) po_none (po_some (pv 2))) (pe_ix ix_str (pv 3) (pe_op op_mod (pv 4) pe_int) (fun _ _ => rfl))) (pe_ix (Ts.ix_listK K) (pe_lst (pa_cons pe_str (pa_cons pe_str pa_nil))) (pe_op op_fdiv (pv 4) pe_int) (fun _ _ => rfl))) (pe_slice (sl_str) (pv 1) (po_some (pv 2)) po_none))))))))), ?_⟩
    walk_at "ts"
    rename_i b hb lb y ey y0 y1
    obtain ⟨k, hk⟩ : ∃ k : Nat, y % 11 = (k : Int) := ⟨(y % 11).toNat, by omega⟩
    rw [hk]
    refine Ts.q_lcR (by omega) (by omega) (fun _ => true) (fun i _ v => v = .str (nameAt b k i)) (fun _ _ _ _ _ h => h) ?_ ?_
    · intro i H' QB QV hi s1 _ qv
      walk_at "ts"
      refine ⟨rfl, ?_⟩
      walk_at "ts"
      refine Ts.q_slS (by omega) ?_
      walk_at "ts"
      refine Ts.q_ixAbc (by omega) (by omega) fun ch hch => ?_
      have l1 : (⟨#[ch]⟩ : Str).length = 1 := rfl
      have l2 := cutS_length b none (some (k : Int))
      have l3 := cutS_length b (some (k : Int)) none
      refine Ts.q_addS (by omega) ?_
      walk_at "ts"
      have ei : (i : Int) / 26 = ((i / 26 : Nat) : Int) := by omega
      have l4 := PySem.strLen_append (cutS b none (some (k : Int))) ⟨#[ch]⟩
      have l5 : ("z" : Str).length = 1 := by decide +kernel
      have l6 : ("" : Str).length = 0 := by decide +kernel
      have hch' : ch = 97 + i % 26 := by omega
      subst hch'
      by_cases hlt : i < 26
      · have e0 : i / 26 = 0 := by omega
        refine Ts.q_ixL (v := .str "") (by walk_at "ts sq") (by rw [ei, e0]; exact Ts.at0 rfl) ?_
        refine Ts.q_addS (by omega) ?_
        walk_at "ts"
        refine Ts.q_slS (by omega) ?_
        refine Ts.q_addS (by rw [PySem.strLen_append]; omega) ?_
        refine qv _ _ rfl (by walk_at "ts same") ?_
        unfold nameAt
        rw [if_pos hlt]
      · have e0 : i / 26 = 1 := by omega
        refine Ts.q_ixL (v := .str "z") (by walk_at "ts sq") (by rw [ei, e0]; exact Ts.at1 rfl) ?_
        refine Ts.q_addS (by omega) ?_
        walk_at "ts"
        refine Ts.q_slS (by omega) ?_
        refine Ts.q_addS (by rw [PySem.strLen_append]; omega) ?_
        refine qv _ _ rfl (by walk_at "ts same") ?_
        unfold nameAt
        rw [if_neg hlt]
    · intro ys D H' s1 hD hys pr
      rw [filt_all] at pr
      have e := paired_eq pr
      refine q b k D H' lb (by omega) s1 ?_
      rw [hys, e]
      unfold nmList
      rw [List.map_map]
      rfl
local macro_rules | `(tactic| walk_at "ts call") => `(tactic| ((with_reducible apply c_l_names); intro b k p H2 lb lb2 s2 hp))

/-! ### is_name -/
def sp_is_name : Sp := fun vs H Q _ => ∃ z : Str, vs = [.str z] ∧ z.length ≤ 1000 ∧ (IsName z → Q (.bl true) H) ∧ (¬ IsName z → Q (.bl false) H)
theorem c_is_name {z : Str} {H : Hp} {Q : VK} {E : XK} (hz : z.length ≤ 1000) (q1 : IsName z → Q (.bl true) H) (q0 : ¬ IsName z → Q (.bl false) H) : sp_is_name ([.str z] ++ []) H Q E := ⟨z, rfl, hz, q1, q0⟩
theorem ok_is_name (T : Lw K mg) : FnOk P w K mg base CX0 1 T.f_is_name T.fd_is_name ["word"] sp_is_name := by
  refine T.d_is_name.F.ok sc_is_name (fun vs H Q E h => ?_) (fun cdv A outer s H vs Q E hr h => ?_)
  · obtain ⟨z, rfl, _⟩ := h
    rfl
  · obtain ⟨z, rfl, hz, q1, q0⟩ := h
    refine ⟨_, (pss_cons (ps_if (PW.pt (pw_or (pt_cmpR op_lt (pe_callB (Ts.call_lenK K) (by rfl) T.n_len (by decide +kernel) (pa_cons (pv 0) pa_nil)) pe_int (nomark _)) (pw_or1 (pt_cmpR op_gt (pe_callB (Ts.call_lenK K) (by rfl) T.n_len (by decide +kernel) (pa_cons (pv 0) pa_nil)) (pe_glob (v := .int 12) rfl T.c_MOST_SIGNS.choose_spec ⟨_, rfl⟩) (nomark _))))) (pss_one (ps_ret pe_bl)) pss_nil) (pss_cons (ps_for PassesOwn.never rfl (pi_str (pv 0)) (pg_name (i := 1) sc_is_name.nd rfl (by first | exact Or.inl rfl | exact Or.inr rfl)) (pss_one (ps_if (pt_cmpR op_notInS (pv 1) (pe_glob (v := .str "abcdefghijklmnopqrstuvwxyz") rfl T.c_SIGNS.choose_spec ⟨_, rfl⟩) rfl) (pss_one (ps_ret pe_bl)) pss_nil))) (pss_one (ps_ret pe_bl)))), ?_⟩
    walk_at "ts"
    refine Ts.q_lenS (Ts.size_of (by omega)) ?_
    walk_at "ts"
    refine Ts.q_iteD (fun h1 => ?_) (fun h1 => ?_)
    · walk_at "ts"
      exact q0 fun h => by have := h.1; omega
    walk_at "ts"
    refine Ts.q_lenS (Ts.size_of (by omega)) ?_
    walk_at "ts"
    refine Ts.q_iteD (fun h2 => ?_) (fun h2 => ?_)
    · walk_at "ts"
      exact q0 fun h => by have := h.2.1; omega
    walk_at "ts"
    refine Ts.q_forS (fun i σ' H' => H' = H ∧ ∃ v : Option V, σ' = [some (.str z), v] ∧ ∀ c ∈ z.cps.toList.take i, 97 ≤ c ∧ c ≤ 122) ⟨rfl, none, rfl, by simp⟩ ?_ ?_
    · rintro i c σ' H' hc ⟨rfl, v, rfl, hl⟩
      walk_at "ts"
      refine Ts.q_notInS ?_
      walk_at "ts"
      refine Ts.q_iteN (fun h3 => ?_) (fun h3 => ?_)
      · walk_at "ts"
        exact q0 fun h => h3 (mem_abc.mpr (h.2.2 c (List.mem_of_getElem? hc)))
      · walk_at "ts"
        exact ⟨rfl, _, rfl, take_all hc (mem_abc.mp h3) hl⟩
    · rintro σ' H' ⟨rfl, v, rfl, hl⟩
      walk_at "ts"
      exact q1 ⟨by omega, by omega, fun c hc => hl c (by rw [List.take_length]; exact hc)⟩

end Law


namespace Law
open PySem PySem.Spec PyProof.Rows L2 Ts
variable {P : Program} {w : World} {K : PySem.W.Frag} {mg : Str → Option Value} {base : Heap}
local macro_rules | `(tactic| walk_at "ts call") => `(tactic| ((with_reducible apply c_l_cell_at); (focus walk_at "ts sq"); (focus omega); intro z ez))
local macro_rules | `(tactic| walk_at "ts call") => `(tactic| ((with_reducible apply c_l_mix); intro z ez z0 z1))
local macro_rules | `(tactic| walk_at "ts call") => `(tactic| ((with_reducible apply c_l_big); intro z H2 z0 z1 sz))
local macro_rules | `(tactic| walk_at "ts call") => `(tactic| with_reducible apply c_l_whole)
local macro_rules | `(tactic| walk_at "ts call") => `(tactic| ((with_reducible apply c_l_word); (focus omega); (focus omega); intro z hz lz))
local macro_rules | `(tactic| walk_at "ts call") => `(tactic| ((with_reducible apply c_l_names); intro b k p H2 lb lb2 s2 hp))

/-! ### a drawn letter, all that it keeps -/
def sp_l_letter (K : PySem.W.Frag) : Sp := fun vs H Q _ => ∃ (c : Int) (a : Addr) (nm : List Str) (m : Int), vs = [.int c, .ref a, .int m] ∧ SqL K H a (nm.map V.str) ∧ m ≤ nm.length ∧ (∀ z ∈ nm, IsName z) ∧ 1 ≤ m ∧ ∀ L b H', Same H H' → LtAt H' b L → L.name ∈ nm → Good L → Q (.ref b) H'
theorem c_l_letter {c : Int} {a : Addr} {nm : List Str} {m : Int} {H : Hp} {Q : VK} {E : XK} (h : SqL K H a (nm.map V.str)) (h1 : m ≤ nm.length) (h2 : ∀ z ∈ nm, IsName z) (h3 : 1 ≤ m) (q : ∀ L b H', Same H H' → LtAt H' b L → L.name ∈ nm → Good L → Q (.ref b) H') : sp_l_letter K ([.int c, .ref a, .int m] ++ []) H Q E := ⟨c, a, nm, m, rfl, h, h1, h2, h3, q⟩
theorem ok_l_letter (T : Lw K mg) : FnOk P w K mg base CX0 3 T.f_l_letter T.fd_l_letter ["_law_cell", "_law_names_here", "_law_many"] (sp_l_letter K) := by
  refine T.d_l_letter.F.ok sc_l_letter (fun vs H Q E h => ?_) (fun cdv A outer s H vs Q E hr h => ?_)
  · obtain ⟨c, a, nm, m, rfl, _⟩ := h
    rfl
  · obtain ⟨c, a, nm, m, rfl, hs, h1, h2, h3, q⟩ := h
    refine ⟨_, (pss_cons (ps_asg (pe_op op_mod (pe_call ((ok_l_mix T).mono (by decide)) hr rfl T.m_l_mix T.d_l_mix.F.kp T.d_l_mix.b .nil pass0 (pa_cons (pv 0) (pa_cons pe_int pa_nil))) (pv 2)) (pg_name (i := 3) sc_l_letter.nd rfl (by first | exact Or.inl rfl | exact Or.inr rfl))) (pss_cons (ps_asg (pe_op op_mod (pe_call ((ok_l_mix T).mono (by decide)) hr rfl T.m_l_mix T.d_l_mix.F.kp T.d_l_mix.b .nil pass0 (pa_cons (pv 0) (pa_cons pe_int pa_nil))) pe_int) (pg_name (i := 4) sc_l_letter.nd rfl (by first | exact Or.inl rfl | exact Or.inr rfl))) (pss_cons (ps_asg (pe_op op_add (pv 4) (pe_op op_mod (pe_call ((ok_l_mix T).mono (by decide)) hr rfl T.m_l_mix T.d_l_mix.F.kp T.d_l_mix.b .nil pass0 (pa_cons (pv 0) (pa_cons pe_int pa_nil))) (pe_ix (Ts.ix_listK K) (pe_lst (pa_cons pe_int (pa_cons pe_int (pa_cons pe_int pa_nil)))) (pe_op op_mod (pe_call ((ok_l_mix T).mono (by decide)) hr rfl T.m_l_mix T.d_l_mix.F.kp T.d_l_mix.b .nil pass0 (pa_cons (pv 0) (pa_cons pe_int pa_nil))) pe_int) (fun _ _ => rfl)))) (pg_name (i := 5) sc_l_letter.nd rfl (by first | exact Or.inl rfl | exact Or.inr rfl))) (pss_cons (ps_asg (pe_op op_add (pe_op op_add pe_int (pv 4)) (pe_ix (Ts.ix_listK K) (pe_lst (pa_cons pe_int (pa_cons pe_int (pa_cons pe_int (pa_cons pe_int (pa_cons pe_int (pa_cons pe_int (pa_cons pe_int pa_nil)))))))) (pe_op op_mod (pv 3) pe_int) (fun _ _ => rfl))) (pg_name (i := 6) sc_l_letter.nd rfl (by first | exact Or.inl rfl | exact Or.inr rfl))) (pss_cons (ps_asg (pe_op op_sub (pe_op op_add (pv 6) (pe_op op_mod (pe_call ((ok_l_mix T).mono (by decide)) hr rfl T.m_l_mix T.d_l_mix.F.kp T.d_l_mix.b .nil pass0 (pa_cons (pv 0) (pa_cons pe_int pa_nil))) pe_int)) pe_int) (pg_name (i := 7) sc_l_letter.nd rfl (by first | exact Or.inl rfl | exact Or.inr rfl))) (pss_cons (ps_asg (pe_op op_add (pv 6) (pe_op op_mod (pe_call ((ok_l_mix T).mono (by decide)) hr rfl T.m_l_mix T.d_l_mix.F.kp T.d_l_mix.b .nil pass0 (pa_cons (pv 0) (pa_cons pe_int pa_nil))) pe_int)) (pg_name (i := 8) sc_l_letter.nd rfl (by first | exact Or.inl rfl | exact Or.inr rfl))) (pss_cons (ps_if (pt_cmpR op_eq (pe_op op_mod (pe_call ((ok_l_mix T).mono (by decide)) hr rfl T.m_l_mix T.d_l_mix.F.kp T.d_l_mix.b .nil pass0 (pa_cons (pv 0) (pa_cons pe_int pa_nil))) pe_int) pe_int (nomark _)) (pss_cons (ps_asg (pv 4) (pg_name (i := 5) sc_l_letter.nd rfl (by first | exact Or.inl rfl | exact Or.inr rfl))) (pss_cons (ps_asg (pe_op op_add (pv 6) (pe_op op_mul (pe_op op_mod (pe_call ((ok_l_mix T).mono (by decide)) hr rfl T.m_l_mix T.d_l_mix.F.kp T.d_l_mix.b .nil pass0 (pa_cons (pv 0) (pa_cons pe_int pa_nil))) pe_int) pe_int)) (pg_name (i := 7) sc_l_letter.nd rfl (by first | exact Or.inl rfl | exact Or.inr rfl))) (pss_one (ps_asg (pe_op op_add (pv 7) (pe_op op_mul (pe_op op_mod (pe_call ((ok_l_mix T).mono (by decide)) hr rfl T.m_l_mix T.d_l_mix.F.kp T.d_l_mix.b .nil pass0 (pa_cons (pv 0) (pa_cons pe_int pa_nil))) pe_int) pe_int)) (pg_name (i := 8) sc_l_letter.nd rfl (by first | exact Or.inl rfl | exact Or.inr rfl)))))) pss_nil) (pss_cons (ps_asg (pe_callB (Ts.cr_sortedK K) (by rfl) T.n_sorted (by decide +kernel) (pa_cons (pe_lst (pa_cons (pv 7) (pa_cons (pv 8) pa_nil))) pa_nil)) (Ts.pg_lstK K 2 rfl (pgs_cons (pg_name (i := 7) sc_l_letter.nd rfl (by first | exact Or.inl rfl | exact Or.inr rfl)) (pgs_cons (pg_name (i := 8) sc_l_letter.nd rfl (by first | exact Or.inl rfl | exact Or.inr rfl)) pgs_nil)))) (pss_cons (ps_if (pt_cmpR op_eq (pe_op op_mod (pe_call ((ok_l_mix T).mono (by decide)) hr rfl T.m_l_mix T.d_l_mix.F.kp T.d_l_mix.b .nil pass0 (pa_cons (pv 0) (pa_cons pe_int pa_nil))) pe_int) pe_int (nomark _)) (pss_one (ps_asg (pe_callB (Ts.cr_sortedK K) (by rfl) T.n_sorted (by decide +kernel) (pa_cons (pe_lst (pa_cons (pe_call ((ok_l_big T).mono (by decide)) hr rfl T.m_l_big T.d_l_big.F.kp T.d_l_big.b .nil pass0 (pa_cons (pv 0) (pa_cons pe_int pa_nil))) (pa_cons (pe_call ((ok_l_big T).mono (by decide)) hr rfl T.m_l_big T.d_l_big.F.kp T.d_l_big.b .nil pass0 (pa_cons (pv 0) (pa_cons pe_int pa_nil))) pa_nil))) pa_nil)) (Ts.pg_lstK K 2 rfl (pgs_cons (pg_name (i := 7) sc_l_letter.nd rfl (by first | exact Or.inl rfl | exact Or.inr rfl)) (pgs_cons (pg_name (i := 8) sc_l_letter.nd rfl (by first | exact Or.inl rfl | exact Or.inr rfl)) pgs_nil))))) pss_nil) (pss_cons (ps_if (pt_cmpR op_eq (pe_op op_mod (pe_call ((ok_l_mix T).mono (by decide)) hr rfl T.m_l_mix T.d_l_mix.F.kp T.d_l_mix.b .nil pass0 (pa_cons (pv 0) (pa_cons pe_int pa_nil))) pe_int) pe_int (nomark _)) (pss_one (ps_asg (pe_callB (Ts.cr_sortedK K) (by rfl) T.n_sorted (by decide +kernel) (pa_cons (pe_lst (pa_cons (pe_call ((ok_l_big T).mono (by decide)) hr rfl T.m_l_big T.d_l_big.F.kp T.d_l_big.b .nil pass0 (pa_cons (pv 0) (pa_cons pe_int pa_nil))) (pa_cons (pe_call ((ok_l_big T).mono (by decide)) hr rfl T.m_l_big T.d_l_big.F.kp T.d_l_big.b .nil pass0 (pa_cons (pv 0) (pa_cons pe_int pa_nil))) pa_nil))) pa_nil)) (Ts.pg_lstK K 2 rfl (pgs_cons (pg_name (i := 4) sc_l_letter.nd rfl (by first | exact Or.inl rfl | exact Or.inr rfl)) (pgs_cons (pg_name (i := 5) sc_l_letter.nd rfl (by first | exact Or.inl rfl | exact Or.inr rfl)) pgs_nil))))) pss_nil) (pss_one (ps_ret (pe_tup (pa_cons (pe_ix (Ts.ix_listK K) (pv 1) (pv 3) (fun _ _ => rfl)) (pa_cons (pv 4) (pa_cons (pv 5) (pa_cons (pv 7) (pa_cons (pv 8) pa_nil)))))))))))))))))), ?_⟩
    walk_at "ts"
    refine Ts.q_ixB 1 60 (by walk_at "ts sq") (by omega) (by simp; omega) (by walk_at "ts allin") fun wd w0 w1 => ?_
    walk_at "ts"
    refine Ts.q_ixB 0 600 (by walk_at "ts sq") (by omega) (by simp; omega) (by walk_at "ts allin") fun nr n0 n1 => ?_
    rename_i pz epz pz0 pz1 sz esz sz0 sz1 bz ebz bz0 bz1 _ _ _ _ _ _ _ _ _ _ _ _ _ _
    have hp0 : 0 ≤ pz % m := Int.emod_nonneg _ (by omega)
    have hp1 : pz % m < m := Int.emod_lt_of_pos pz (by omega)
    have hb0 : 0 ≤ bz % wd := Int.emod_nonneg _ (by omega)
    have hb1 : bz % wd < wd := Int.emod_lt_of_pos _ (by omega)
    walk_at "ts"
    refine Ts.q_join (fun σ' H' => ∃ s b nr l h : Int, σ' = [some (.int c), some (.ref a), some (.int m), some (.int (pz % m)), some (.int s), some (.int b), some (.int nr), some (.int l), some (.int h)] ∧ Same H H' ∧ s ≤ b ∧ 0 ≤ s ∧ b ≤ 1000000000000 ∧ 0 ≤ l ∧ l ≤ 1000000000000 ∧ 0 ≤ h ∧ h ≤ 1000000000000) ?_ ?_
    rotate_left
    · intro nx' hnx
      refine Ts.q_iteD (fun h5 => ?_) (fun h5 => ?_)
      · walk_at "ts"
        exact hnx _ _ ⟨_, _, _, _, _, rfl, by walk_at "ts same", by omega, by omega, by omega, by omega, by omega, by omega, by omega⟩
      · walk_at "ts"
        exact hnx _ _ ⟨_, _, _, _, _, rfl, by walk_at "ts same", by omega, by omega, by omega, by omega, by omega, by omega, by omega⟩
    rintro σ' H' ⟨s', b, nr, l, h, rfl, sH, hsb, hs0, hb1, hl0, hl1, hh0, hh1⟩
    walk_at "ts"
    refine Ts.q_join (fun σ' H' => ∃ l h : Int, σ' = [some (.int c), some (.ref a), some (.int m), some (.int (pz % m)), some (.int s'), some (.int b), some (.int nr), some (.int l), some (.int h)] ∧ Same H H' ∧ l ≤ h ∧ 0 ≤ l ∧ h ≤ 1000000000000) ?_ ?_
    rotate_left
    · intro nx' hnx
      refine Ts.q_iteD (fun h5 => ?_) (fun h5 => ?_)
      · walk_at "ts"
        exact hnx _ _ ⟨_, _, rfl, by walk_at "ts same", by omega, by omega, by omega⟩
      · walk_at "ts"
        exact hnx _ _ ⟨_, _, rfl, by walk_at "ts same", by omega, by omega, by omega⟩
    rintro σ' H' ⟨l, h, rfl, sH, hlh, hl0, hh1⟩
    walk_at "ts"
    refine Ts.q_join (fun σ' H' => ∃ s b : Int, σ' = [some (.int c), some (.ref a), some (.int m), some (.int (pz % m)), some (.int s), some (.int b), some (.int nr), some (.int l), some (.int h)] ∧ Same H H' ∧ s ≤ b ∧ 0 ≤ s ∧ b ≤ 1000000000000) ?_ ?_
    rotate_left
    · intro nx' hnx
      refine Ts.q_iteD (fun h5 => ?_) (fun h5 => ?_)
      · walk_at "ts"
        exact hnx _ _ ⟨_, _, rfl, by walk_at "ts same", by omega, by omega, by omega⟩
      · walk_at "ts"
        exact hnx _ _ ⟨_, _, rfl, by walk_at "ts same", by omega, by omega, by omega⟩
    rintro σ' H' ⟨s', b, rfl, sH, hsb, hs0, hb1⟩
    walk_at "ts"
    refine Ts.q_ixAny (by walk_at "ts sq") (by omega) (by rw [List.length_map]; omega) fun v hv => ?_
    obtain ⟨z, hz, rfl⟩ := List.mem_map.mp hv
    walk_at "ts"
    exact q ⟨z, _, _, _, _⟩ _ _ (by walk_at "ts same") (by unfold LtAt; assumption) hz ⟨⟨hs0, by dsimp only; omega⟩, ⟨by dsimp only; omega, hb1⟩, ⟨hl0, by dsimp only; omega⟩, ⟨by dsimp only; omega, hh1⟩, hsb, hlh⟩
local macro_rules | `(tactic| walk_at "ts call") => `(tactic| ((with_reducible apply c_l_letter); (focus walk_at "ts sq"); (focus first | assumption | omega | (simp; omega)); (focus assumption); (focus omega); intro L b H2 s2 hL nL okL))

end Law


namespace Law
open PySem PySem.Spec PyProof.Rows L2 Ts
variable {P : Program} {w : World} {K : PySem.W.Frag} {mg : Str → Option Value} {base : Heap}
local macro_rules | `(tactic| walk_at "ts call") => `(tactic| ((with_reducible apply c_l_cell_at); (focus walk_at "ts sq"); (focus omega); intro z ez))
local macro_rules | `(tactic| walk_at "ts call") => `(tactic| ((with_reducible apply c_l_mix); intro z ez z0 z1))
local macro_rules | `(tactic| walk_at "ts call") => `(tactic| ((with_reducible apply c_l_big); intro z H2 z0 z1 sz))
local macro_rules | `(tactic| walk_at "ts call") => `(tactic| with_reducible apply c_l_whole)
local macro_rules | `(tactic| walk_at "ts call") => `(tactic| ((with_reducible apply c_l_word); (focus omega); (focus omega); intro z hz lz))
local macro_rules | `(tactic| walk_at "ts call") => `(tactic| ((with_reducible apply c_l_names); intro b k p H2 lb lb2 s2 hp))
local macro_rules | `(tactic| walk_at "ts call") => `(tactic| ((with_reducible apply c_l_letter); (focus walk_at "ts sq"); (focus first | assumption | omega | (simp; omega)); (focus assumption); (focus omega); intro L b H2 s2 hL nL okL))

/-! ### checked -/
def sp_checked (CN CL : Addr) : Sp := fun vs H Q E => ∃ (a : Addr) (L : Ltr), vs = [.ref a] ∧ LtAt H a L ∧ L.name.length ≤ 1000 ∧
  (IsName L.name → Good L → ∀ H', Same H H' → Q (.ref a) H') ∧ (¬ IsName L.name → E (.ref CN) none H) ∧ (IsName L.name → ¬ Good L → ∀ H', Same H H' → E (.ref CL) none H')
theorem ok_checked (T : Lw K mg) : FnOk P w K mg base (L2.CX P w) 2 T.f_checked T.fd_checked ["letter"] (sp_checked T.C_BadName T.C_BadLetter) := by
  refine T.d_checked.F.okX sc_checked (fun vs H Q E h => ?_) (fun cdv A outer s H vs Q E hr h => ?_)
  · obtain ⟨a, L, rfl, _⟩ := h
    rfl
  · obtain ⟨a, L, rfl, ha, hlen, q, e1, e2⟩ := h
    have ha' : H a = some (.tup [.str L.name, .int L.sent, .int L.back, .int L.low, .int L.high]) := ha
    refine ⟨_, (pss_cons (ps_asg (pv 0) (Ts.pg_tupK K 5 (by rfl) (pgs_cons (pg_name (i := 1) sc_checked.nd rfl (by first | exact Or.inl rfl | exact Or.inr rfl)) (pgs_cons (pg_name (i := 2) sc_checked.nd rfl (by first | exact Or.inl rfl | exact Or.inr rfl)) (pgs_cons (pg_name (i := 3) sc_checked.nd rfl (by first | exact Or.inl rfl | exact Or.inr rfl)) (pgs_cons (pg_name (i := 4) sc_checked.nd rfl (by first | exact Or.inl rfl | exact Or.inr rfl)) (pgs_cons (pg_name (i := 5) sc_checked.nd rfl (by first | exact Or.inl rfl | exact Or.inr rfl)) pgs_nil))))))) (pss_cons (ps_if (pt_not (pt_val (pe_call ((ok_is_name T).mono (by decide)) hr rfl T.m_is_name T.d_is_name.F.kp T.d_is_name.b .nil pass0 (pa_cons (pv 1) pa_nil)))) (pss_one (ps_raise rfl (takes_of rfl rfl rfl rfl) (T.x_BadName.mk' T.m_BadName rfl))) pss_nil) (pss_cons (ps_for (passes_of rfl) rfl (Ts.pi_tupK K (pe_tup (pa_cons (pv 2) (pa_cons (pv 3) (pa_cons (pv 4) (pa_cons (pv 5) pa_nil)))))) (pg_name (i := 6) sc_checked.nd rfl (by first | exact Or.inl rfl | exact Or.inr rfl)) (pss_one (ps_if (PW.pt (pw_or (pt_cmpR op_lt (pv 6) pe_int (nomark _)) (pw_or1 (pt_cmpR op_gt (pv 6) (pe_glob (v := .int 1000000000000) rfl T.c_GREATEST.choose_spec ⟨_, rfl⟩) (nomark _))))) (pss_one (ps_raise rfl (takes_of rfl rfl rfl rfl) (T.x_BadLetter.mk' T.m_BadLetter rfl))) pss_nil))) (pss_cons (ps_if (PW.pt (pw_or (pt_cmpR op_gt (pv 2) (pv 3) (nomark _)) (pw_or1 (pt_cmpR op_gt (pv 4) (pv 5) (nomark _))))) (pss_one (ps_raise rfl (takes_of rfl rfl rfl rfl) (T.x_BadLetter.mk' T.m_BadLetter rfl))) pss_nil) (pss_one (ps_ret (pv 0))))))), ?_⟩
    walk_at "ts"
    refine c_is_name hlen (fun hn => ?_) (fun hn => ?_)
    · walk_at "ts"
      rename_i pt hpt Ht st et
      refine Ts.q_forT ([L.sent, L.back, L.low, L.high].map V.int) (sqT_of et) (fun i σ' H' => H' = Ht ∧ ∃ v : Option V, σ' = [some (.ref a), some (.str L.name), some (.int L.sent), some (.int L.back), some (.int L.low), some (.int L.high), v] ∧ ∀ x ∈ [L.sent, L.back, L.low, L.high].take i, NumOk x)
        ⟨rfl, none, rfl, by simp⟩ (fun i σ' H' ⟨e, _⟩ => by rw [e]; exact sqT_of et) ?_ ?_
      · rintro i x σ' H' hx ⟨rfl, v, rfl, hl⟩
        obtain ⟨t, ht, rfl⟩ := map_at hx
        walk_at "ts"
        refine Ts.q_iteD (fun h1 => ?_) (fun h1 => ?_)
        · walk_at "ts"
          exact e2 hn (fun g => by have := (g.mem t (List.mem_of_getElem? ht)).1; omega) _ st
        walk_at "ts"
        refine Ts.q_iteD (fun h2 => ?_) (fun h2 => ?_)
        · walk_at "ts"
          exact e2 hn (fun g => by have := (g.mem t (List.mem_of_getElem? ht)).2; omega) _ st
        · walk_at "ts"
          exact ⟨rfl, _, rfl, take_all ht ⟨by omega, by omega⟩ hl⟩
      · rintro σ' H' ⟨rfl, v, rfl, hl⟩
        have hl : ∀ x ∈ [L.sent, L.back, L.low, L.high], NumOk x := hl
        walk_at "ts"
        refine Ts.q_iteD (fun h1 => ?_) (fun h1 => ?_)
        · walk_at "ts"
          exact e2 hn (fun g => by have := g.2.2.2.2.1; omega) _ st
        walk_at "ts"
        refine Ts.q_iteD (fun h2 => ?_) (fun h2 => ?_)
        · walk_at "ts"
          exact e2 hn (fun g => by have := g.2.2.2.2.2; omega) _ st
        · walk_at "ts"
          exact q hn (Good.of hl (by omega) (by omega)) _ st
    · walk_at "ts"
      exact e1 hn

/-! ### number_of -/
theorem figs : ("0123456789" : Str).cps.toList = [48, 49, 50, 51, 52, 53, 54, 55, 56, 57] := by decide +kernel
theorem mem_figs {c : Nat} : c ∈ ("0123456789" : Str).cps.toList ↔ 48 ≤ c ∧ c ≤ 57 := by
  rw [figs]
  simp
  omega
theorem one_sign {c : Nat} {z : Str} {d : Nat} (h : z.cps.toList = [d]) : ((⟨#[c]⟩ : Str) = z) ↔ c = d := by
  constructor
  · intro e
    rw [← e] at h
    simpa using h
  · intro e
    exact str_ext (by rw [h, e])
theorem zero_sign : ("0" : Str).cps.toList = [48] := by decide +kernel
theorem emp_tl {z : Str} : z = "" ↔ z.cps.toList = [] := by
  have e : ("" : Str).cps.toList = [] := by decide +kernel
  constructor
  · intro h; rw [h, e]
  · intro h; exact str_ext (by rw [h, e])
theorem q_ixS0 {z : Str} {H : Hp} {Q : VK} (hl : z.length ≤ 1000000) (hz : z ≠ "") (q : ∀ c, z.cps.toList.head? = some c → Q (.str ⟨#[c]⟩) H) : rIxS (.str z) (.int 0) H Q := by
  cases e : z.cps.toList with
  | nil => exact absurd (emp_tl.mpr e) hz
  | cons c r => exact ⟨z, 0, c, rfl, rfl, Ts.size_of hl, by rw [e]; exact atI_nat (j := 0) rfl, q c (by rw [e]; rfl)⟩
theorem q_intStr {z : Str} {H : Hp} {Q : VK} (h : IsNum z) (hl : z.length ≤ 300) (q : Q (.int (numV z)) H) : (fun xs H Q => ∃ a n, xs = [V.str a] ∧ PySem.intText? a = some n ∧ a.length ≤ 640 ∧ Q (.int n) H : List V → Hp → VK → Prop) [.str z] H Q := ⟨z, numV z, rfl, num_text h hl, by omega, q⟩
def sp_number_of (CT : Addr) : Sp := fun vs H Q E => ∃ z : Str, vs = [.str z] ∧ z.length ≤ 300 ∧ (IsNum z → Q (.int (numV z)) H) ∧ (¬ IsNum z → E (.ref CT) none H)
theorem ok_number_of (T : Lw K mg) : FnOk P w K mg base (L2.CX P w) 1 T.f_number_of T.fd_number_of ["word"] (sp_number_of T.C_NoText) := by
  refine T.d_number_of.F.okX sc_number_of (fun vs H Q E h => ?_) (fun cdv A outer s H vs Q E hr h => ?_)
  · obtain ⟨z, rfl, _⟩ := h
    rfl
  · obtain ⟨z, rfl, hz, q, e⟩ := h
    refine ⟨_, (pss_cons (ps_for (passes_of rfl) rfl (pi_str (pv 0)) (pg_name (i := 1) sc_number_of.nd rfl (by first | exact Or.inl rfl | exact Or.inr rfl)) (pss_one (ps_if (pt_cmpR op_notInS (pv 1) (pe_glob (v := .str "0123456789") rfl T.c_FIGURES.choose_spec ⟨_, rfl⟩) rfl) (pss_one (ps_raise rfl (takes_of rfl rfl rfl rfl) (T.x_NoText.mk' T.m_NoText rfl))) pss_nil))) (pss_cons (ps_if (PW.pt (pw_or (pt_cmpR op_eq (pv 0) pe_str (nomark _)) (pw_or1 (PW.pt (pw_and (pt_cmpR op_eq (pe_ix ix_str (pv 0) pe_int (fun _ _ => rfl)) pe_str (nomark _)) (pw_and1 (pt_cmpR op_gt (pe_callB (Ts.call_lenK K) (by rfl) T.n_len (by decide +kernel) (pa_cons (pv 0) pa_nil)) pe_int (nomark _)))))))) (pss_one (ps_raise rfl (takes_of rfl rfl rfl rfl) (T.x_NoText.mk' T.m_NoText rfl))) pss_nil) (pss_one (ps_ret (pe_callTy call_int_str (by rfl) T.n_int (by decide +kernel) (pa_cons (pv 0) pa_nil)))))), ?_⟩
    walk_at "ts"
    refine Ts.q_forS (fun i σ' H' => H' = H ∧ ∃ v : Option V, σ' = [some (.str z), v] ∧ ∀ c ∈ z.cps.toList.take i, 48 ≤ c ∧ c ≤ 57) ⟨rfl, none, rfl, by simp⟩ ?_ ?_
    · rintro i c σ' H' hc ⟨rfl, v, rfl, hl⟩
      walk_at "ts"
      refine Ts.q_notInS ?_
      walk_at "ts"
      refine Ts.q_iteN (fun h3 => ?_) (fun h3 => ?_)
      · walk_at "ts"
        exact e fun h => h3 (mem_figs.mpr (h.2.1 c (List.mem_of_getElem? hc)))
      · walk_at "ts"
        exact ⟨rfl, _, rfl, take_all hc (mem_figs.mp h3) hl⟩
    · rintro σ' H' ⟨rfl, v, rfl, hl⟩
      rw [List.take_length] at hl
      walk_at "ts"
      refine Ts.q_iteD (fun h0 => ?_) (fun h0 => ?_)
      · walk_at "ts"
        exact e fun h => h.1 (emp_tl.mp h0)
      walk_at "ts"
      refine q_ixS0 (by omega) h0 fun c hc => ?_
      walk_at "ts"
      have hne : z.cps.toList ≠ [] := fun h => h0 (emp_tl.mpr h)
      refine Ts.q_iteD (fun h1 => ?_) (fun h1 => ?_)
      · have h1 := (one_sign zero_sign).mp h1
        subst h1
        walk_at "ts"
        refine Ts.q_lenS (Ts.size_of (by omega)) ?_
        walk_at "ts"
        refine Ts.q_iteD (fun h2 => ?_) (fun h2 => ?_)
        · walk_at "ts"
          exact e fun h => h.2.2 ⟨hc, by omega⟩
        · walk_at "ts"
          have hn : IsNum z := ⟨hne, hl, fun h => by have := h.2; omega⟩
          exact q_intStr hn hz (q hn)
      · walk_at "ts"
        have hn : IsNum z := ⟨hne, hl, fun h => by
          rw [hc] at h
          exact h1 ((one_sign zero_sign).mpr (Option.some.inj h.1))⟩
        exact q_intStr hn hz (q hn)

end Law


namespace Law
open PySem PySem.Spec PyProof.Rows L2 Ts
variable {P : Program} {w : World} {K : PySem.W.Frag} {mg : Str → Option Value} {base : Heap}
local macro_rules | `(tactic| walk_at "ts call") => `(tactic| ((with_reducible apply c_l_cell_at); (focus walk_at "ts sq"); (focus omega); intro z ez))
local macro_rules | `(tactic| walk_at "ts call") => `(tactic| ((with_reducible apply c_l_mix); intro z ez z0 z1))
local macro_rules | `(tactic| walk_at "ts call") => `(tactic| ((with_reducible apply c_l_big); intro z H2 z0 z1 sz))
local macro_rules | `(tactic| walk_at "ts call") => `(tactic| with_reducible apply c_l_whole)
local macro_rules | `(tactic| walk_at "ts call") => `(tactic| ((with_reducible apply c_l_word); (focus omega); (focus omega); intro z hz lz))
local macro_rules | `(tactic| walk_at "ts call") => `(tactic| ((with_reducible apply c_l_names); intro b k p H2 lb lb2 s2 hp))
local macro_rules | `(tactic| walk_at "ts call") => `(tactic| ((with_reducible apply c_l_letter); (focus walk_at "ts sq"); (focus first | assumption | omega | (simp; omega)); (focus assumption); (focus omega); intro L b H2 s2 hL nL okL))

/-! ### letter_of -/
theorem wd_at {r : Str} {i : Nat} (h : i < (blWords r).length) : atI ((blWords r).map V.str) (i : Int) = some (.str (wd r i)) := atI_nat (by
  rw [List.getElem?_map, List.getElem?_eq_getElem h]
  simp [h])
theorem wd_mem {r : Str} {i : Nat} (h : i < (blWords r).length) : wd r i ∈ blWords r := by
  have e : wd r i = (blWords r)[i] := by simp [h]
  rw [e]
  exact List.getElem_mem h
theorem q_splitR {z y : Str} {s : Nat} {H : Hp} {Q : VK} (ey : y.cps.toList = [s]) (hz : z.length ≤ 100000) (q : ∀ p H', Same H H' → H' p = some (.lst ((Txt.split z y).map V.str)) → Q (.ref p) H') : (fun x xs H Q => ∃ a b, x = V.str a ∧ xs = [V.str b] ∧ (b.length == 0) = false ∧ a.length + 2 ≤ sizeLine ∧ rNewStrs (Txt.split a b) H Q : V → List V → Hp → VK → Prop) (.str z) [.str y] H Q :=
  ⟨z, y, rfl, rfl, by rw [tl_len, ey]; rfl, by have := Ts.size_of (n := 1000000) (Nat.le_refl _); omega, fun p hp => q p _ (same_upd hp) upd_same⟩
def sp_letter_of (CT : Addr) : Sp := fun vs H Q E => ∃ r : Str, vs = [.str r] ∧ TxOk r ∧ 10 ∉ r.cps.toList ∧ (IsRow r → ∀ a H', Same H H' → LtAt H' a (rowL r) → Q (.ref a) H') ∧ (¬ IsRow r → ∀ H', Same H H' → E (.ref CT) none H')
theorem ok_letter_of (T : Lw K mg) : FnOk P w K mg base (L2.CX P w) 2 T.f_letter_of T.fd_letter_of ["row"] (sp_letter_of T.C_NoText) := by
  refine T.d_letter_of.F.okX sc_letter_of (fun vs H Q E h => ?_) (fun cdv A outer s H vs Q E hr h => ?_)
  · obtain ⟨r, rfl, _⟩ := h
    rfl
  · obtain ⟨r, rfl, hr1, hr2, q, e⟩ := h
    obtain ⟨hwl, hws⟩ := words_ok hr1 hr2
    have hlen := hr1.len
    refine ⟨_, (pss_cons (ps_asg (pe_split (pv 0) pe_str) (pg_name (i := 1) sc_letter_of.nd rfl (by first | exact Or.inl rfl | exact Or.inr rfl))) (pss_cons (ps_if (PW.pt (pw_or (pt_cmpR op_ne (pe_callB (Ts.call_lenK K) (by rfl) T.n_len (by decide +kernel) (pa_cons (pv 1) pa_nil)) pe_int (nomark _)) (pw_or (pt_cmpR op_ne (pe_ix (Ts.ix_listK K) (pv 1) pe_int (fun _ _ => rfl)) pe_str (nomark _)) (pw_or (pt_cmpR op_ne (pe_ix (Ts.ix_listK K) (pv 1) pe_int (fun _ _ => rfl)) pe_str (nomark _)) (pw_or (pt_cmpR op_ne (pe_ix (Ts.ix_listK K) (pv 1) pe_int (fun _ _ => rfl)) pe_str (nomark _)) (pw_or1 (pt_cmpR op_ne (pe_ix (Ts.ix_listK K) (pv 1) pe_int (fun _ _ => rfl)) pe_str (nomark _)))))))) (pss_one (ps_raise rfl (takes_of rfl rfl rfl rfl) (T.x_NoText.mk' T.m_NoText rfl))) pss_nil) (pss_one (ps_ret (pe_tup (pa_cons (pe_ix (Ts.ix_listK K) (pv 1) pe_int (fun _ _ => rfl)) (pa_cons (pe_call ((ok_number_of T).mono (by decide)) hr rfl T.m_number_of T.d_number_of.F.kp T.d_number_of.b .nil (passes_call (takes_of rfl rfl rfl rfl) (fun _ _ _ _ h => h)) (pa_cons (pe_ix (Ts.ix_listK K) (pv 1) pe_int (fun _ _ => rfl)) pa_nil)) (pa_cons (pe_call ((ok_number_of T).mono (by decide)) hr rfl T.m_number_of T.d_number_of.F.kp T.d_number_of.b .nil (passes_call (takes_of rfl rfl rfl rfl) (fun _ _ _ _ h => h)) (pa_cons (pe_ix (Ts.ix_listK K) (pv 1) pe_int (fun _ _ => rfl)) pa_nil)) (pa_cons (pe_call ((ok_number_of T).mono (by decide)) hr rfl T.m_number_of T.d_number_of.F.kp T.d_number_of.b .nil (passes_call (takes_of rfl rfl rfl rfl) (fun _ _ _ _ h => h)) (pa_cons (pe_ix (Ts.ix_listK K) (pv 1) pe_int (fun _ _ => rfl)) pa_nil)) (pa_cons (pe_call ((ok_number_of T).mono (by decide)) hr rfl T.m_number_of T.d_number_of.F.kp T.d_number_of.b .nil (passes_call (takes_of rfl rfl rfl rfl) (fun _ _ _ _ h => h)) (pa_cons (pe_ix (Ts.ix_listK K) (pv 1) pe_int (fun _ _ => rfl)) pa_nil)) pa_nil)))))))))), ?_⟩
    walk_at "ts"
    refine Ts.q_tM1 ?_
    walk_at "ts"
    refine Ts.q_isTxt ?_
    walk_at "ts"
    refine q_splitR tl_bl (by omega) fun pw H1 s1 e1 => ?_
    walk_at "ts"
    rw [List.length_map]
    refine Ts.q_iteN (fun h9 => ?_) (fun h9 => ?_)
    · walk_at "ts"
      exact e (fun h => h9 (by rw [h.1]; rfl)) _ s1
    have h9 : ((blWords r).length : Int) = 9 := h9
    have h9 : (blWords r).length = 9 := by omega
    have wat : ∀ i : Nat, i < 9 → atI ((blWords r).map V.str) (i : Int) = some (.str (wd r i)) := fun i hi => wd_at (by omega)
    have wln : ∀ i : Nat, i < 9 → (wd r i).length ≤ 300 := fun i hi => (hws _ (wd_mem (by omega))).2
    walk_at "ts"
    refine Ts.q_ixL (sqL_of e1) (wat 1 (by omega)) ?_
    walk_at "ts"
    refine Ts.q_iteN (fun h1 => ?_) (fun h1 => ?_)
    · walk_at "ts"
      exact e (fun h => h1 h.2.1) _ s1
    walk_at "ts"
    refine Ts.q_ixL (sqL_of e1) (wat 3 (by omega)) ?_
    walk_at "ts"
    refine Ts.q_iteN (fun h3 => ?_) (fun h3 => ?_)
    · walk_at "ts"
      exact e (fun h => h3 h.2.2.1) _ s1
    walk_at "ts"
    refine Ts.q_ixL (sqL_of e1) (wat 5 (by omega)) ?_
    walk_at "ts"
    refine Ts.q_iteN (fun h5 => ?_) (fun h5 => ?_)
    · walk_at "ts"
      exact e (fun h => h5 h.2.2.2.1) _ s1
    walk_at "ts"
    refine Ts.q_ixL (sqL_of e1) (wat 7 (by omega)) ?_
    walk_at "ts"
    refine Ts.q_iteN (fun h7 => ?_) (fun h7 => ?_)
    · walk_at "ts"
      exact e (fun h => h7 h.2.2.2.2.1) _ s1
    walk_at "ts"
    refine Ts.q_ixL (sqL_of e1) (wat 0 (by omega)) ?_
    walk_at "ts"
    refine Ts.q_ixL (sqL_of e1) (wat 2 (by omega)) ?_
    walk_at "ts"
    refine ⟨_, rfl, wln 2 (by omega), fun g2 => ?_, fun g => e (fun h => g h.2.2.2.2.2.1) _ s1⟩
    walk_at "ts"
    refine Ts.q_ixL (sqL_of e1) (wat 4 (by omega)) ?_
    walk_at "ts"
    refine ⟨_, rfl, wln 4 (by omega), fun g4 => ?_, fun g => e (fun h => g h.2.2.2.2.2.2.1) _ s1⟩
    walk_at "ts"
    refine Ts.q_ixL (sqL_of e1) (wat 6 (by omega)) ?_
    walk_at "ts"
    refine ⟨_, rfl, wln 6 (by omega), fun g6 => ?_, fun g => e (fun h => g h.2.2.2.2.2.2.2.1) _ s1⟩
    walk_at "ts"
    refine Ts.q_ixL (sqL_of e1) (wat 8 (by omega)) ?_
    walk_at "ts"
    refine ⟨_, rfl, wln 8 (by omega), fun g8 => ?_, fun g => e (fun h => g h.2.2.2.2.2.2.2.2) _ s1⟩
    walk_at "ts"
    rename_i pt hpt H2 s2 e2
    exact q ⟨h9, h1, h3, h5, h7, g2, g4, g6, g8⟩ pt H2 (s1.trans s2) e2

end Law


namespace Law
open PySem PySem.Spec PyProof.Rows L2 Ts
variable {P : Program} {w : World} {K : PySem.W.Frag} {mg : Str → Option Value} {base : Heap}
local macro_rules | `(tactic| walk_at "ts call") => `(tactic| ((with_reducible apply c_l_cell_at); (focus walk_at "ts sq"); (focus omega); intro z ez))
local macro_rules | `(tactic| walk_at "ts call") => `(tactic| ((with_reducible apply c_l_mix); intro z ez z0 z1))
local macro_rules | `(tactic| walk_at "ts call") => `(tactic| ((with_reducible apply c_l_big); intro z H2 z0 z1 sz))
local macro_rules | `(tactic| walk_at "ts call") => `(tactic| with_reducible apply c_l_whole)
local macro_rules | `(tactic| walk_at "ts call") => `(tactic| ((with_reducible apply c_l_word); (focus omega); (focus omega); intro z hz lz))
local macro_rules | `(tactic| walk_at "ts call") => `(tactic| ((with_reducible apply c_l_names); intro b k p H2 lb lb2 s2 hp))
local macro_rules | `(tactic| walk_at "ts call") => `(tactic| ((with_reducible apply c_l_letter); (focus walk_at "ts sq"); (focus first | assumption | omega | (simp; omega)); (focus assumption); (focus omega); intro L b H2 s2 hL nL okL))

/-! ### read -/
theorem cut_last {xs : List V} (h : 1 ≤ xs.length) : cutV xs none (some (-1)) = xs.dropLast := by
  have e : HT.sIx xs.length xs.length (some (-1)) = xs.length - 1 := by
    have := HT.clip_eq (-1) xs.length xs.length
    rw [if_pos (by decide)] at this
    omega
  unfold cutV
  rw [e, HT.sIx_none, List.drop_zero, Nat.sub_zero, List.dropLast_eq_take]
theorem last_row {t : Str} (h : 1 ≤ (nlRows t).length) : ∃ z, (nlRows t).getLast? = some z ∧ atI ((nlRows t).map V.str) (-1) = some (.str z) := by
  have e : (nlRows t)[(nlRows t).length - 1]? = some (nlRows t)[(nlRows t).length - 1] := List.getElem?_eq_getElem (by omega)
  refine ⟨(nlRows t)[(nlRows t).length - 1], ?_, ?_⟩
  · rw [List.getLast?_eq_getElem?]
    exact e
  · unfold atI ixN
    rw [List.length_map, if_neg (by omega), if_pos (by omega)]
    have : ((-1 : Int) + ((nlRows t).length : Int)).toNat = (nlRows t).length - 1 := by omega
    rw [this]
    show (List.map V.str (nlRows t))[(nlRows t).length - 1]? = _
    rw [List.getElem?_map, e]
    rfl
theorem pair_rows {H : Hp} : ∀ {rs : List Str} {ys : List V}, Paired (fun v (r : Str) => IsRow r ∧ IsLt H v (rowL r)) ys rs → (∀ r ∈ rs, IsRow r) ∧ Lts H ys (rs.map rowL)
  | _, _, .nil => ⟨(fun _ h => nomatch h), .nil⟩
  | _, _, .cons h t => by
    obtain ⟨h1, h2⟩ := pair_rows t
    refine ⟨fun r hr => ?_, .cons h.2 h2⟩
    rcases List.mem_cons.mp hr with rfl | hr
    · exact h.1
    · exact h1 r hr
theorem row_of {t : Str} (h : TxOk t) {r : Str} (hr : r ∈ (nlRows t).dropLast) : TxOk r ∧ 10 ∉ r.cps.toList := (rows_ok h).2.2 r (List.dropLast_subset _ hr)
/-- the names of letters read are of few signs -/
theorem ltr_name {t : Str} (h : TxOk t) (hrow : ∀ r ∈ (nlRows t).dropLast, IsRow r) : ∀ L ∈ ltrsOf t, Asc L.name ∧ L.name.length ≤ 300 := fun L hL => by
  obtain ⟨r, hr, rfl⟩ := List.mem_map.mp hL
  obtain ⟨q1, q2⟩ := row_of h hr
  refine (words_ok q1 q2).2 _ (wd_mem (i := 0) ?_)
  rw [(hrow r hr).1]
  decide
def sp_read (CN CL CT : Addr) : Sp := fun vs H Q E => ∃ t : Str, vs = [.str t] ∧ TxOk t ∧
  (TextOk t → (∀ L ∈ ltrsOf t, LtGood L) → ∀ ys p H', Same H H' → H p = none → H' p = some (.lst ys) → Lts H' ys (ltrsOf t) → Q (.ref p) H') ∧
  (ReadW t "text" → ∀ H', Same H H' → E (.ref CT) none H') ∧ (ReadW t "name" → ∀ H', Same H H' → E (.ref CN) none H') ∧ (ReadW t "letter" → ∀ H', Same H H' → E (.ref CL) none H')
theorem ok_read (T : Lw K mg) : FnOk P w K mg base (L2.CX P w) 3 T.f_read T.fd_read ["text"] (sp_read T.C_BadName T.C_BadLetter T.C_NoText) := by
  refine T.d_read.F.okX sc_read (fun vs H Q E h => ?_) (fun cdv A outer s H vs Q E hr h => ?_)
  · obtain ⟨t, rfl, _⟩ := h
    rfl
  · obtain ⟨t, rfl, ht, q, eT, eN, eL⟩ := h
    obtain ⟨hrl, hr1, hrs⟩ := rows_ok ht
    have hlen := ht.len
    refine ⟨_, (pss_cons (ps_asg (pe_split (pv 0) pe_str) (pg_name (i := 1) sc_read.nd rfl (by first | exact Or.inl rfl | exact Or.inr rfl))) (pss_cons (ps_if (pt_cmpR op_ne (pe_ix (Ts.ix_listK K) (pv 1) (pe_un un_neg pe_int) (fun _ _ => rfl)) pe_str (nomark _)) (pss_one (ps_raise rfl (takes_of rfl rfl rfl rfl) (T.x_NoText.mk' T.m_NoText rfl))) pss_nil) (pss_cons (Ts.ps_setLcX (i := 2) (own := [("row", 4)]) rfl sc_read.nd rfl rfl (sw_true rfl rfl rfl (by decide +kernel)) (Ts.pi_listK K (pe_slice (Ts.sl_listK K) (pv 1) po_none (po_some (pe_un un_neg pe_int)))) (blkOk_by (own := [("row", 4)]) (N := N_read) (sc := defScope s_read) (by decide +kernel)) (fun _ _ _ _ _ => pg_name (i := 4) sc_read.nd rfl (Or.inl rfl)) (fun _ _ _ _ _ => pts_nil) (fun _ _ _ _ _ _ _ I0 f0 hC0 => (pe_callS ((ok_letter_of T).mono (by decide)) hr rfl T.m_letter_of T.d_letter_of.F.kp T.d_letter_of.b (fun z => Ts.passBlk (takes_of rfl rfl rfl rfl) rfl rfl I0 f0 hC0 z) (pa_cons (pv 4) pa_nil)))) (pss_cons (ps_for (passes_of rfl) rfl (Ts.pi_listK K (pv 2)) (pg_name (i := 3) sc_read.nd rfl (by first | exact Or.inl rfl | exact Or.inr rfl)) (pss_one (ps_expr (pe_call ((ok_checked T).mono (by decide)) hr rfl T.m_checked T.d_checked.F.kp T.d_checked.b .nil (passes_call (takes_of rfl rfl rfl rfl) (fun _ _ _ _ h => h)) (pa_cons (pv 3) pa_nil))))) (pss_one (ps_ret (pv 2))))))), ?_⟩
    walk_at "ts"
    refine Ts.q_tM1 ?_
    walk_at "ts"
    refine Ts.q_isTxt ?_
    walk_at "ts"
    refine q_splitR tl_nl (by omega) fun pr H1 s1 e1 => ?_
    obtain ⟨z, hz1, hz2⟩ := last_row hr1
    walk_at "ts"
    refine Ts.q_ixL (sqL_of e1) hz2 ?_
    walk_at "ts"
    refine Ts.q_iteN (fun h1 => ?_) (fun h1 => ?_)
    · walk_at "ts"
      refine eT (.inl ⟨fun h => h1 ?_, rfl⟩) _ s1
      have := h.1
      rw [hz1] at this
      exact Option.some.inj this
    subst h1
    walk_at "ts"
    refine Ts.q_slLst (sqL_of e1) fun pc H2 s2 _ e2 => ?_
    rw [cut_last (by rw [List.length_map]; exact hr1)] at e2
    have e2 : H2 pc = some (.lst (((nlRows t).dropLast).map V.str)) := by rw [e2, List.map_dropLast]
    have hdl : ((nlRows t).dropLast).length ≤ 20001 := by rw [List.length_dropLast]; omega
    refine Ts.q_lcL (sqL_of e2) (by rw [List.length_map]; omega) (fun _ => true) (fun i H v => ∃ r, ((nlRows t).dropLast)[i]? = some r ∧ IsRow r ∧ IsLt H v (rowL r)) (fun _ _ _ _ s ⟨r, h1, h2, h3⟩ => ⟨r, h1, h2, h3.mono s⟩) ?_ ?_
    · intro i x H3 QB QV hx s3 _ qv
      obtain ⟨r, hri, rfl⟩ := map_at hx
      obtain ⟨q1, q2⟩ := row_of ht (List.mem_of_getElem? hri)
      walk_at "ts"
      refine ⟨rfl, ?_⟩
      walk_at "ts"
      refine ⟨r, rfl, q1, q2, fun hrow a H4 s4 ha => ?_, fun hno H4 s4 => ?_⟩
      · exact qv _ _ rfl s4 ⟨r, hri, hrow, a, rfl, ha⟩
      · exact eT (.inl ⟨fun h => hno (h.2 r (List.mem_of_getElem? hri)), rfl⟩) _ (((s1.trans s2).trans s3).trans s4)
    intro ys pf H3 s3 hfr hpf prd
    rw [filt_all, List.length_map] at prd
    have pr2 := Ts.paired_range (R := fun v (r : Str) => IsRow r ∧ IsLt H3 v (rowL r)) (Ts.Paired.imp (fun _ _ ⟨r, h1, h2, h3⟩ => ⟨r, h1, h2, h3⟩) prd)
    obtain ⟨hrow, hls⟩ := pair_rows pr2
    have hok : TextOk t := ⟨hz1, hrow⟩
    have hls : Lts H3 ys (ltrsOf t) := hls
    have hly := Paired.len hls
    have hnm := ltr_name ht hrow
    have s13 := (s1.trans s2).trans s3
    have hfr0 : H pf = none := Same.free (s1.trans s2) hfr
    walk_at "ts"
    refine Ts.q_forL ys (sqL_of hpf) (fun i σ' H' => ∃ v3 : Option V, σ' = [some (.str t), some (.ref pr), some (.ref pf), v3, none] ∧ Same H3 H' ∧ ∀ L ∈ (ltrsOf t).take i, LtGood L)
      ⟨none, rfl, Same.refl _, by simp⟩ (fun i σ' H' ⟨_, _, s, _⟩ => sqL_of (s _ _ hpf)) ?_ ?_
    · rintro i x σ' H' hx ⟨v3, rfl, sH, hgood⟩
      obtain ⟨L, hLi, a, rfl, hL⟩ := Paired.at_ (hls.mono (tsame_of sH)) hx
      have hm := List.mem_of_getElem? hLi
      walk_at "ts"
      refine ⟨a, L, rfl, hL, by have := (hnm L hm).2; omega, fun g1 g2 H4 s4 => ?_, fun g => ?_, fun g1 g2 H4 s4 => ?_⟩
      · exact ⟨_, rfl, sH.trans s4, take_all hLi ⟨g1, g2⟩ hgood⟩
      · exact eN (.inr (.inl ⟨hok, i, L, hLi, hgood, .inl ⟨g, rfl⟩⟩)) _ (s13.trans sH)
      · exact eL (.inr (.inl ⟨hok, i, L, hLi, hgood, .inr ⟨g1, g2, rfl⟩⟩)) _ ((s13.trans sH).trans s4)
    · rintro σ' H' ⟨v3, rfl, sH, hgood⟩
      rw [hly, List.take_length] at hgood
      walk_at "ts"
      exact q hok hgood ys pf H' (s13.trans sH) hfr0 (sH _ _ hpf) (hls.mono (tsame_of sH))

end Law


namespace Law
open PySem PySem.Spec PyProof.Rows L2 Ts
variable {P : Program} {w : World} {K : PySem.W.Frag} {mg : Str → Option Value} {base : Heap}
local macro_rules | `(tactic| walk_at "ts call") => `(tactic| ((with_reducible apply c_l_cell_at); (focus walk_at "ts sq"); (focus omega); intro z ez))
local macro_rules | `(tactic| walk_at "ts call") => `(tactic| ((with_reducible apply c_l_mix); intro z ez z0 z1))
local macro_rules | `(tactic| walk_at "ts call") => `(tactic| ((with_reducible apply c_l_big); intro z H2 z0 z1 sz))
local macro_rules | `(tactic| walk_at "ts call") => `(tactic| with_reducible apply c_l_whole)
local macro_rules | `(tactic| walk_at "ts call") => `(tactic| ((with_reducible apply c_l_word); (focus omega); (focus omega); intro z hz lz))
local macro_rules | `(tactic| walk_at "ts call") => `(tactic| ((with_reducible apply c_l_names); intro b k p H2 lb lb2 s2 hp))
local macro_rules | `(tactic| walk_at "ts call") => `(tactic| ((with_reducible apply c_l_letter); (focus walk_at "ts sq"); (focus first | assumption | omega | (simp; omega)); (focus assumption); (focus omega); intro L b H2 s2 hL nL okL))

/-! ### the law's own number -/
def sp_l_number : Sp := fun vs H Q _ => ∃ z : Str, vs = [.str z] ∧ z.length ≤ 300 ∧ Q (.int (numL z)) H
theorem c_l_number {z : Str} {H : Hp} {Q : VK} {E : XK} (h : z.length ≤ 300) (q : Q (.int (numL z)) H) : sp_l_number ([.str z] ++ []) H Q E := ⟨z, rfl, h, q⟩
theorem numL_no {z : Str} (h : ¬ IsNum z) : numL z = -1 := if_neg h
theorem numL_yes {z : Str} (h : IsNum z) : numL z = numV z := if_pos h
theorem ok_l_number (T : Lw K mg) : FnOk P w K mg base CX0 1 T.f_l_number T.fd_l_number ["_law_word_here"] sp_l_number := by
  refine T.d_l_number.F.ok sc_l_number (fun vs H Q E h => ?_) (fun cdv A outer s H vs Q E hr h => ?_)
  · obtain ⟨z, rfl, _⟩ := h
    rfl
  · obtain ⟨z, rfl, hz, q⟩ := h
    have no : ¬ IsNum z → Q (.int (-1)) H := fun h => by
      rw [numL_no h] at q
      exact q
    refine ⟨_, (pss_cons (ps_if (PW.pt (pw_or (pt_cmpR op_eq (pv 0) pe_str (nomark _)) (pw_or1 (PW.pt (pw_and (pt_cmpR op_gt (pe_callB (Ts.call_lenK K) (by rfl) T.n_len (by decide +kernel) (pa_cons (pv 0) pa_nil)) pe_int (nomark _)) (pw_and1 (pt_cmpR op_eq (pe_ix ix_str (pv 0) pe_int (fun _ _ => rfl)) pe_str (nomark _)))))))) (pss_one (ps_ret (pe_un un_neg pe_int))) pss_nil) (pss_cons (ps_for PassesOwn.never rfl (pi_str (pv 0)) (pg_name (i := 1) sc_l_number.nd rfl (by first | exact Or.inl rfl | exact Or.inr rfl)) (pss_one (ps_if (pt_cmpR op_notInS (pv 1) pe_str rfl) (pss_one (ps_ret (pe_un un_neg pe_int))) pss_nil))) (pss_one (ps_ret (pe_callTy call_int_str (by rfl) T.n_int (by decide +kernel) (pa_cons (pv 0) pa_nil)))))), ?_⟩
    walk_at "ts toif"
    refine Ts.q_joinS (fun σ' H' => σ' = [some (.str z), none] ∧ H' = H ∧ z ≠ "" ∧ ¬ (z.cps.toList.head? = some 48 ∧ 1 < z.length)) ?_ ?_
    rotate_left
    · intro nx' hnx
      walk_at "ts"
      refine Ts.q_iteD (fun h0 => ?_) (fun h0 => ?_)
      · walk_at "ts"
        exact no fun h => h.1 (emp_tl.mp h0)
      walk_at "ts"
      refine Ts.q_lenS (Ts.size_of (by omega)) ?_
      walk_at "ts"
      refine Ts.q_iteD (fun h1 => ?_) (fun h1 => ?_)
      · walk_at "ts"
        refine q_ixS0 (by omega) h0 fun c hc => ?_
        walk_at "ts"
        refine Ts.q_iteD (fun h2 => ?_) (fun h2 => ?_)
        · have h2 := (one_sign zero_sign).mp h2
          subst h2
          walk_at "ts"
          exact no fun h => h.2.2 ⟨hc, by omega⟩
        · walk_at "ts"
          exact hnx _ _ ⟨rfl, rfl, h0, fun h => by
            rw [hc] at h
            exact h2 ((one_sign zero_sign).mpr (Option.some.inj h.1))⟩
      · walk_at "ts"
        exact hnx _ _ ⟨rfl, rfl, h0, fun h => by have := h.2; omega⟩
    rintro σ' H' ⟨rfl, rfl, h0, h1⟩
    walk_at "ts"
    refine Ts.q_forS (fun i σ' H2 => H2 = H' ∧ ∃ v : Option V, σ' = [some (.str z), v] ∧ ∀ c ∈ z.cps.toList.take i, 48 ≤ c ∧ c ≤ 57) ⟨rfl, none, rfl, by simp⟩ ?_ ?_
    · rintro i c σ' H2 hc ⟨rfl, v, rfl, hl⟩
      walk_at "ts"
      refine Ts.q_notInS ?_
      walk_at "ts"
      refine Ts.q_iteN (fun h3 => ?_) (fun h3 => ?_)
      · walk_at "ts"
        exact no fun h => h3 (mem_figs.mpr (h.2.1 c (List.mem_of_getElem? hc)))
      · walk_at "ts"
        exact ⟨rfl, _, rfl, take_all hc (mem_figs.mp h3) hl⟩
    · rintro σ' H2 ⟨rfl, v, rfl, hl⟩
      rw [List.take_length] at hl
      walk_at "ts"
      have hn : IsNum z := ⟨fun h => h0 (emp_tl.mpr h), hl, h1⟩
      rw [numL_yes hn] at q
      exact q_intStr hn hz q

/-! ### the law's own letter of a row -/
theorem cat_to {a b c d : Str} (h : a ++ b ++ c ++ d = "sentbackswearsto") (ha : a = "sent") (hb : b = "back") (hc : c = "swears") : d = "to" := by
  subst ha hb hc
  have e := congrArg (fun z : Str => z.cps.toList) h
  simp only [tl_app] at e
  have e2 : ("sentbackswearsto" : Str).cps.toList = ("sent" : Str).cps.toList ++ ("back" : Str).cps.toList ++ ("swears" : Str).cps.toList ++ ("to" : Str).cps.toList := by decide +kernel
  rw [e2] at e
  exact str_ext (List.append_cancel_left e)
theorem cat_yes {a b c d : Str} (ha : a = "sent") (hb : b = "back") (hc : c = "swears") (hd : d = "to") : a ++ b ++ c ++ d = "sentbackswearsto" := by
  subst ha hb hc hd
  exact str_ext (by simp only [tl_app]; decide +kernel)
def sp_l_letter_of : Sp := fun vs H Q _ => ∃ r : Str, vs = [.str r] ∧ TxOk r ∧ 10 ∉ r.cps.toList ∧ (IsRow r → ∀ a H', Same H H' → LtAt H' a (rowL r) → Q (.ref a) H') ∧ (¬ IsRow r → ∀ H', Same H H' → Q .non H')
theorem ok_l_letter_of (T : Lw K mg) : FnOk P w K mg base CX0 2 T.f_l_letter_of T.fd_l_letter_of ["_law_row_here"] sp_l_letter_of := by
  refine T.d_l_letter_of.F.ok sc_l_letter_of (fun vs H Q E h => ?_) (fun cdv A outer s H vs Q E hr h => ?_)
  · obtain ⟨r, rfl, _⟩ := h
    rfl
  · obtain ⟨r, rfl, hr1, hr2, q, e⟩ := h
    obtain ⟨hwl, hws⟩ := words_ok hr1 hr2
    have hlen := hr1.len
    refine ⟨_, (pss_cons (ps_asg (pe_split (pv 0) pe_str) (pg_name (i := 1) sc_l_letter_of.nd rfl (by first | exact Or.inl rfl | exact Or.inr rfl))) (pss_cons (ps_if (PW.pt (pw_or (pt_cmpR op_ne (pe_callB (Ts.call_lenK K) (by rfl) T.n_len (by decide +kernel) (pa_cons (pv 1) pa_nil)) pe_int (nomark _)) (pw_or1 (pt_cmpR op_ne (pe_op Ts.op_addS (pe_op Ts.op_addS (pe_op Ts.op_addS (pe_ix (Ts.ix_listK K) (pv 1) pe_int (fun _ _ => rfl)) (pe_ix (Ts.ix_listK K) (pv 1) pe_int (fun _ _ => rfl))) (pe_ix (Ts.ix_listK K) (pv 1) pe_int (fun _ _ => rfl))) (pe_ix (Ts.ix_listK K) (pv 1) pe_int (fun _ _ => rfl))) pe_str (nomark _))))) (pss_one (ps_ret pe_non)) pss_nil) (pss_cons (ps_setLc (i := 2) (own := [("_law_k", 3)]) rfl sc_l_letter_of.nd rfl rfl (sw_true rfl rfl rfl (by decide +kernel)) (Ts.pi_tupK K (pe_tup (pa_cons pe_int (pa_cons pe_int (pa_cons pe_int (pa_cons pe_int pa_nil)))))) (blkOk_by (own := [("_law_k", 3)]) (N := N_l_letter_of) (sc := defScope s_l_letter_of) (by decide +kernel)) (fun _ _ _ _ _ => pg_name (i := 3) sc_l_letter_of.nd rfl (Or.inl rfl)) (fun _ _ _ _ _ => pts_nil) (fun _ _ _ _ _ => (pe_call ((ok_l_number T).mono (by decide)) hr rfl T.m_l_number T.d_l_number.F.kp T.d_l_number.b .nil pass0 (pa_cons (pe_ix (Ts.ix_listK K) (pv 1) (pv 3) (fun _ _ => rfl)) pa_nil)))) (pss_cons (ps_if (PW.pt (pw_or (pt_cmpR op_lt (pe_callB (Ts.cr_minK K rfl) (by rfl) T.n_min (by decide +kernel) (pa_cons (pv 2) pa_nil)) pe_int (nomark _)) (pw_or (pt_cmpR op_ne (pe_ix (Ts.ix_listK K) (pv 1) pe_int (fun _ _ => rfl)) pe_str (nomark _)) (pw_or (pt_cmpR op_ne (pe_ix (Ts.ix_listK K) (pv 1) pe_int (fun _ _ => rfl)) pe_str (nomark _)) (pw_or1 (pt_cmpR op_ne (pe_ix (Ts.ix_listK K) (pv 1) pe_int (fun _ _ => rfl)) pe_str (nomark _))))))) (pss_one (ps_ret pe_non)) pss_nil) (pss_one (ps_ret (pe_tup (pa_cons (pe_ix (Ts.ix_listK K) (pv 1) pe_int (fun _ _ => rfl)) (pa_cons (pe_ix (Ts.ix_listK K) (pv 2) pe_int (fun _ _ => rfl)) (pa_cons (pe_ix (Ts.ix_listK K) (pv 2) pe_int (fun _ _ => rfl)) (pa_cons (pe_ix (Ts.ix_listK K) (pv 2) pe_int (fun _ _ => rfl)) (pa_cons (pe_ix (Ts.ix_listK K) (pv 2) pe_int (fun _ _ => rfl)) pa_nil)))))))))))), ?_⟩
    walk_at "ts"
    refine Ts.q_tM1 ?_
    walk_at "ts"
    refine Ts.q_isTxt ?_
    walk_at "ts"
    refine q_splitR tl_bl (by omega) fun pw H1 s1 e1 => ?_
    walk_at "ts"
    rw [List.length_map]
    refine Ts.q_iteN (fun h9 => ?_) (fun h9 => ?_)
    · walk_at "ts"
      exact e (fun h => h9 (by rw [h.1]; rfl)) _ s1
    have h9 : ((blWords r).length : Int) = 9 := h9
    have h9 : (blWords r).length = 9 := by omega
    have wat : ∀ i : Nat, i < 9 → atI ((blWords r).map V.str) (i : Int) = some (.str (wd r i)) := fun i hi => wd_at (by omega)
    have wln : ∀ i : Nat, i < 9 → (wd r i).length ≤ 300 := fun i hi => (hws _ (wd_mem (by omega))).2
    have l1 := wln 1 (by omega)
    have l3 := wln 3 (by omega)
    have l5 := wln 5 (by omega)
    have l7 := wln 7 (by omega)
    walk_at "ts"
    refine Ts.q_ixL (sqL_of e1) (wat 1 (by omega)) ?_
    walk_at "ts"
    refine Ts.q_ixL (sqL_of e1) (wat 3 (by omega)) ?_
    refine Ts.q_addS (by omega) ?_
    walk_at "ts"
    refine Ts.q_ixL (sqL_of e1) (wat 5 (by omega)) ?_
    refine Ts.q_addS (by rw [PySem.strLen_append]; omega) ?_
    walk_at "ts"
    refine Ts.q_ixL (sqL_of e1) (wat 7 (by omega)) ?_
    refine Ts.q_addS (by rw [PySem.strLen_append, PySem.strLen_append]; omega) ?_
    walk_at "ts"
    refine Ts.q_iteN (fun hc => ?_) (fun hc => ?_)
    · walk_at "ts"
      exact e (fun h => hc (cat_yes h.2.1 h.2.2.1 h.2.2.2.1 h.2.2.2.2.1)) _ s1
    walk_at "ts"
    rename_i pt hpt H2 s2 e2
    have e2w : H2 pw = some (.lst ((blWords r).map V.str)) := s2 _ _ e1
    refine Ts.q_lcT (xs := [V.int 2, V.int 4, V.int 6, V.int 8]) (sqT_of e2) (by decide) (fun _ => true) (fun i _ v => v = .int (numL (wd r (2 * i + 2)))) (fun _ _ _ _ _ h => h) ?_ ?_
    · intro i x H3 QB QV hx s3 _ qv
      obtain ⟨hi, rfl⟩ : i < 4 ∧ x = V.int ((2 * i + 2 : Nat) : Int) := by
        rcases i with _ | _ | _ | _ | i
        · exact ⟨by omega, by simpa using hx.symm⟩
        · exact ⟨by omega, by simpa using hx.symm⟩
        · exact ⟨by omega, by simpa using hx.symm⟩
        · exact ⟨by omega, by simpa using hx.symm⟩
        · simp at hx
      walk_at "ts"
      refine ⟨rfl, ?_⟩
      walk_at "ts"
      refine Ts.q_ixL (sqL_of (s3 _ _ e2w)) (wat (2 * i + 2) (by omega)) ?_
      walk_at "ts"
      refine c_l_number (wln _ (by omega)) ?_
      exact qv _ _ rfl (Same.refl _) rfl
    intro ys pn H3 s3 _ hpn pr
    have hys : ys = [numL (wd r 2), numL (wd r 4), numL (wd r 6), numL (wd r 8)].map V.int := by
      have e4 : (List.range [V.int 2, V.int 4, V.int 6, V.int 8].length).filter (fun _ => true) = [0, 1, 2, 3] := rfl
      rw [e4] at pr
      exact Ts.paired_eq (f := fun i => V.int (numL (wd r (2 * i + 2)))) pr
    subst hys
    have e3w : H3 pw = some (.lst ((blWords r).map V.str)) := s3 _ _ e2w
    have sH3 := (s1.trans s2).trans s3
    walk_at "ts"
    refine ⟨pn, _, rfl, sqL_of hpn, by simp, fun m hm hle => ?_⟩
    walk_at "ts"
    refine Ts.q_iteD (fun hneg => ?_) (fun hneg => ?_)
    · walk_at "ts"
      refine e (fun h => ?_) _ sH3
      obtain ⟨_, _, _, _, _, g2, g4, g6, g8⟩ := h
      simp only [List.mem_cons, List.not_mem_nil, or_false] at hm
      rw [numL_yes g2, numL_yes g4, numL_yes g6, numL_yes g8] at hm
      have k2 := numV_nn (wd r 2)
      have k4 := numV_nn (wd r 4)
      have k6 := numV_nn (wd r 6)
      have k8 := numV_nn (wd r 8)
      omega
    have yes : ∀ i, i < 4 → IsNum (wd r (2 * i + 2)) := fun i hi => Classical.byContradiction fun hno => by
      have h1 := numL_no hno
      have h2 := hle (numL (wd r (2 * i + 2))) (by
        rcases i with _ | _ | _ | _ | i
        · simp
        · simp
        · simp
        · simp
        · omega)
      omega
    have g2 := yes 0 (by omega)
    have g4 := yes 1 (by omega)
    have g6 := yes 2 (by omega)
    have g8 := yes 3 (by omega)
    simp only [Nat.mul_zero, Nat.zero_add, Nat.mul_one, Nat.reduceAdd, Nat.reduceMul] at g2 g4 g6 g8
    walk_at "ts"
    refine Ts.q_ixL (sqL_of e3w) (wat 1 (by omega)) ?_
    walk_at "ts"
    refine Ts.q_iteN (fun h1 => ?_) (fun h1 => ?_)
    · walk_at "ts"
      exact e (fun h => h1 h.2.1) _ sH3
    walk_at "ts"
    refine Ts.q_ixL (sqL_of e3w) (wat 3 (by omega)) ?_
    walk_at "ts"
    refine Ts.q_iteN (fun h3 => ?_) (fun h3 => ?_)
    · walk_at "ts"
      exact e (fun h => h3 h.2.2.1) _ sH3
    walk_at "ts"
    refine Ts.q_ixL (sqL_of e3w) (wat 5 (by omega)) ?_
    walk_at "ts"
    refine Ts.q_iteN (fun h5 => ?_) (fun h5 => ?_)
    · walk_at "ts"
      exact e (fun h => h5 h.2.2.2.1) _ sH3
    have hrow : IsRow r := ⟨h9, h1, h3, h5, cat_to hc h1 h3 h5, g2, g4, g6, g8⟩
    walk_at "ts"
    refine Ts.q_ixL (sqL_of e3w) (wat 0 (by omega)) ?_
    walk_at "ts"
    rename_i pr hpr H4 s4 e4
    refine q hrow pr H4 (sH3.trans s4) ?_
    rw [numL_yes g2, numL_yes g4, numL_yes g6, numL_yes g8] at e4
    exact e4

end Law


namespace Law
open PySem PySem.Spec PyProof.Rows L2 Ts
variable {P : Program} {w : World} {K : PySem.W.Frag} {mg : Str → Option Value} {base : Heap}
local macro_rules | `(tactic| walk_at "ts call") => `(tactic| ((with_reducible apply c_l_cell_at); (focus walk_at "ts sq"); (focus omega); intro z ez))
local macro_rules | `(tactic| walk_at "ts call") => `(tactic| ((with_reducible apply c_l_mix); intro z ez z0 z1))
local macro_rules | `(tactic| walk_at "ts call") => `(tactic| ((with_reducible apply c_l_big); intro z H2 z0 z1 sz))
local macro_rules | `(tactic| walk_at "ts call") => `(tactic| with_reducible apply c_l_whole)
local macro_rules | `(tactic| walk_at "ts call") => `(tactic| ((with_reducible apply c_l_word); (focus omega); (focus omega); intro z hz lz))
local macro_rules | `(tactic| walk_at "ts call") => `(tactic| ((with_reducible apply c_l_names); intro b k p H2 lb lb2 s2 hp))
local macro_rules | `(tactic| walk_at "ts call") => `(tactic| ((with_reducible apply c_l_letter); (focus walk_at "ts sq"); (focus first | assumption | omega | (simp; omega)); (focus assumption); (focus omega); intro L b H2 s2 hL nL okL))

/-! ### what is due of a text -/
theorem eqv_nl (L : Ltr) : PyData.eqv (dLt L) .none = false := rfl
theorem eqv_nn : PyData.eqv .none .none = true := rfl
/-- a row's letter as data, or none -/
noncomputable def dRow (r : Str) : PyData := if IsRow r then dLt (rowL r) else .none
theorem dRow_yes {r : Str} (h : IsRow r) : dRow r = dLt (rowL r) := if_pos h
theorem dRow_no {r : Str} (h : ¬ IsRow r) : dRow r = .none := if_neg h
def IsRw (H : Hp) (v : V) (r : Str) : Prop := (IsRow r ∧ IsLt H v (rowL r)) ∨ (¬ IsRow r ∧ v = .non)
theorem IsRw.mono {H H' : Hp} {v : V} {r : Str} (s : TSame H H') (h : IsRw H v r) : IsRw H' v r := by
  rcases h with ⟨a, b⟩ | h
  · exact .inl ⟨a, b.mono s⟩
  · exact .inr h
theorem dp_rw {H : Hp} {v : V} {r : Str} (h : IsRw H v r) : Dp K H v (dRow r) := by
  rcases h with ⟨a, b⟩ | ⟨a, b⟩
  · rw [dRow_yes a]
    exact dp_lt b
  · rw [dRow_no a, b]
    exact .non
theorem rows_all {H : Hp} : ∀ {rs : List Str} {ys : List V}, Paired (IsRw H) ys rs → (∀ r ∈ rs, IsRow r) → Lts H ys (rs.map rowL)
  | _, _, .nil, _ => .nil
  | _, _, .cons h t, hr => by
    refine .cons ?_ (rows_all t fun r q => hr r (List.mem_cons_of_mem _ q))
    rcases h with ⟨_, b⟩ | ⟨a, _⟩
    · exact b
    · exact absurd (hr _ List.mem_cons_self) a
theorem q_inNone {p : Addr} {ys : List V} {rs : List Str} {H : Hp} {Q : VK} (h : H p = some (.lst ys)) (hp : Paired (IsRw H) ys rs) (hok : ∀ r ∈ rs, IsRow r → PyData.strOk (rowL r).name = true) (q0 : (∀ r ∈ rs, IsRow r) → Q (.bl false) H) (q1 : ¬ (∀ r ∈ rs, IsRow r) → Q (.bl true) H) : rInD K .non (.ref p) H Q := by
  refine ⟨.none, rs.map dRow, .non, dp_lst (fun _ _ h => dp_rw h) h hp, rfl, shaped_list rs fun r hr => ?_, ?_⟩
  · by_cases hrow : IsRow r
    · rw [dRow_yes hrow]
      exact ok_dLt _ (hok r hr hrow)
    · rw [dRow_no hrow]
      exact ⟨rfl, by decide⟩
  · by_cases hall : ∀ r ∈ rs, IsRow r
    · have e : ((rs.map dRow).any fun z => PyData.eqv z .none) = false := by
        rw [List.any_eq_false]
        intro d hd
        obtain ⟨r, hr, rfl⟩ := List.mem_map.mp hd
        rw [dRow_yes (hall r hr), eqv_nl]
        decide
      rw [e]
      exact q0 hall
    · have e : ((rs.map dRow).any fun z => PyData.eqv z .none) = true := by
        rw [List.any_eq_true]
        refine Classical.byContradiction fun q => hall fun r hr => Classical.byContradiction fun hno => q ⟨dRow r, List.mem_map.mpr ⟨r, hr, rfl⟩, ?_⟩
        rw [dRow_no hno]
        rfl
      rw [e]
      exact q1 hall
/-- a list of texts of one sign against the empty one -/
def sp_l_due (K : PySem.W.Frag) : Sp := fun vs H Q _ => ∃ t : Str, vs = [.str t] ∧ TxOk t ∧ ∀ (z : Str) (ls : List Ltr) (xs : List V) (p pl : Addr) (H' : Hp), Same H H' → ReadW t z → H' p = some (.tup [.ref pl, .str z]) → H' pl = some (.lst xs) → Lts H' xs ls → (z = "" → ls = ltrsOf t) → Q (.ref p) H'
theorem c_l_due {t : Str} {H : Hp} {Q : VK} {E : XK} (h : TxOk t) (q : ∀ (z : Str) (ls : List Ltr) (xs : List V) (p pl : Addr) (H' : Hp), Same H H' → ReadW t z → H' p = some (.tup [.ref pl, .str z]) → H' pl = some (.lst xs) → Lts H' xs ls → (z = "" → ls = ltrsOf t) → Q (.ref p) H') : sp_l_due K ([.str t] ++ []) H Q E := ⟨t, rfl, h, q⟩
theorem ok_l_due (T : Lw K mg) : FnOk P w K mg base CX0 3 T.f_l_due T.fd_l_due ["_law_text"] (sp_l_due K) := by
  refine T.d_l_due.F.ok sc_l_due (fun vs H Q E h => ?_) (fun cdv A outer s H vs Q E hr h => ?_)
  · obtain ⟨t, rfl, _⟩ := h
    rfl
  · obtain ⟨t, rfl, ht, q⟩ := h
    obtain ⟨hrl, hr1, hrs⟩ := rows_ok ht
    have hlen := ht.len
    refine ⟨_, (pss_cons (ps_asg (pe_split (pv 0) pe_str) (pg_name (i := 1) sc_l_due.nd rfl (by first | exact Or.inl rfl | exact Or.inr rfl))) (pss_cons (ps_setLc (i := 2) (own := [("_law_row_here", 9)]) rfl sc_l_due.nd rfl rfl (sw_true rfl rfl rfl (by decide +kernel)) (Ts.pi_listK K (pe_slice (Ts.sl_listK K) (pv 1) po_none (po_some (pe_un un_neg pe_int)))) (blkOk_by (own := [("_law_row_here", 9)]) (N := N_l_due) (sc := defScope s_l_due) (by decide +kernel)) (fun _ _ _ _ _ => pg_name (i := 9) sc_l_due.nd rfl (Or.inl rfl)) (fun _ _ _ _ _ => pts_nil) (fun _ _ _ _ _ => (pe_call ((ok_l_letter_of T).mono (by decide)) hr rfl T.m_l_letter_of T.d_l_letter_of.F.kp T.d_l_letter_of.b .nil pass0 (pa_cons (pv 9) pa_nil)))) (pss_cons (ps_if (PW.pt (pw_or (pt_cmpR op_ne (pe_ix (Ts.ix_listK K) (pv 1) (pe_un un_neg pe_int) (fun _ _ => rfl)) pe_str (nomark _)) (pw_or1 (pt_cmpR (Ts.op_inDK K (Ts.units65 hr)) pe_non (pv 2) rfl)))) (pss_one (ps_ret (pe_tup (pa_cons (pe_lst pa_nil) (pa_cons pe_str pa_nil))))) pss_nil) (pss_cons (ps_for PassesOwn.never rfl (Ts.pi_listK K (pv 2)) (Ts.pg_tupK K 5 (by rfl) (pgs_cons (pg_name (i := 3) sc_l_due.nd rfl (by first | exact Or.inl rfl | exact Or.inr rfl)) (pgs_cons (pg_name (i := 4) sc_l_due.nd rfl (by first | exact Or.inl rfl | exact Or.inr rfl)) (pgs_cons (pg_name (i := 5) sc_l_due.nd rfl (by first | exact Or.inl rfl | exact Or.inr rfl)) (pgs_cons (pg_name (i := 6) sc_l_due.nd rfl (by first | exact Or.inl rfl | exact Or.inr rfl)) (pgs_cons (pg_name (i := 7) sc_l_due.nd rfl (by first | exact Or.inl rfl | exact Or.inr rfl)) pgs_nil)))))) (pss_cons (ps_setLc (i := 8) (own := [("_law_sign_here", 10)]) rfl sc_l_due.nd rfl rfl (sw_true rfl rfl rfl (by decide +kernel)) (pi_str (pv 3)) (blkOk_by (own := [("_law_sign_here", 10)]) (N := N_l_due) (sc := defScope s_l_due) (by decide +kernel)) (fun _ _ _ _ _ => pg_name (i := 10) sc_l_due.nd rfl (Or.inl rfl)) (fun _ _ _ _ _ => pts_one (pt_cmpR op_notInS (pv 10) pe_str rfl)) (fun _ _ _ _ _ => (pv 10))) (pss_cons (ps_if (PW.pt (pw_or (pt_cmpR op_lt (pe_callB (Ts.call_lenK K) (by rfl) T.n_len (by decide +kernel) (pa_cons (pv 3) pa_nil)) pe_int (nomark _)) (pw_or (pt_cmpR op_gt (pe_callB (Ts.call_lenK K) (by rfl) T.n_len (by decide +kernel) (pa_cons (pv 3) pa_nil)) pe_int (nomark _)) (pw_or1 (pt_cmpR (Ts.op_neK K hr.units) (pv 8) (pe_lst pa_nil) (nomark _)))))) (pss_one (ps_ret (pe_tup (pa_cons (pe_lst pa_nil) (pa_cons pe_str pa_nil))))) pss_nil) (pss_one (ps_if (PW.pt (pw_or (pt_cmpR op_gt (pe_callB (Ts.call_max4 rfl) (by rfl) T.n_max (by decide +kernel) (pa_cons (pv 4) (pa_cons (pv 5) (pa_cons (pv 6) (pa_cons (pv 7) pa_nil))))) (pe_op op_pow pe_int pe_int) (nomark _)) (pw_or (pt_cmpR op_gt (pv 4) (pv 5) (nomark _)) (pw_or1 (pt_cmpR op_gt (pv 6) (pv 7) (nomark _)))))) (pss_one (ps_ret (pe_tup (pa_cons (pe_lst pa_nil) (pa_cons pe_str pa_nil))))) pss_nil))))) (pss_one (ps_ret (pe_tup (pa_cons (pv 2) (pa_cons pe_str pa_nil))))))))), ?_⟩
    walk_at "ts"
    refine Ts.q_tM1 ?_
    walk_at "ts"
    refine Ts.q_isTxt ?_
    walk_at "ts"
    refine q_splitR tl_nl (by omega) fun pr H1 s1 e1 => ?_
    obtain ⟨z, hz1, hz2⟩ := last_row hr1
    walk_at "ts"
    refine Ts.q_slLst (sqL_of e1) fun pc H2 s2 _ e2 => ?_
    rw [cut_last (by rw [List.length_map]; exact hr1)] at e2
    have e2 : H2 pc = some (.lst (((nlRows t).dropLast).map V.str)) := by rw [e2, List.map_dropLast]
    have hdl : ((nlRows t).dropLast).length ≤ 20001 := by rw [List.length_dropLast]; omega
    refine Ts.q_lcL (sqL_of e2) (by rw [List.length_map]; omega) (fun _ => true) (fun i H v => ∃ r, ((nlRows t).dropLast)[i]? = some r ∧ IsRw H v r) (fun _ _ _ _ s ⟨r, h1, h2⟩ => ⟨r, h1, h2.mono s⟩) ?_ ?_
    · intro i x H3 QB QV hx s3 _ qv
      obtain ⟨r, hri, rfl⟩ := map_at hx
      obtain ⟨q1, q2⟩ := row_of ht (List.mem_of_getElem? hri)
      walk_at "ts"
      refine ⟨rfl, ?_⟩
      walk_at "ts"
      refine ⟨r, rfl, q1, q2, fun hrow a H4 s4 ha => ?_, fun hno H4 s4 => ?_⟩
      · exact qv _ _ rfl s4 ⟨r, hri, .inl ⟨hrow, a, rfl, ha⟩⟩
      · exact qv _ _ rfl s4 ⟨r, hri, .inr ⟨hno, rfl⟩⟩
    intro ys pf H3 s3 hfr hpf prd
    rw [filt_all, List.length_map] at prd
    have pr2 := Ts.paired_range (R := IsRw H3) prd
    have s13 := (s1.trans s2).trans s3
    have e13 : H3 pr = some (.lst ((nlRows t).map V.str)) := s3 _ _ (s2 _ _ e1)
    walk_at "ts"
    refine Ts.q_ixL (sqL_of e13) hz2 ?_
    walk_at "ts"
    refine Ts.q_iteN (fun h1 => ?_) (fun h1 => ?_)
    · walk_at "ts"
      rename_i p0 hp0 H4 s4 e4 p5 hp5 H5 s5 e5
      refine q "text" [] [] p5 p0 H5 ((s13.trans s4).trans s5) (.inl ⟨fun h => h1 ?_, rfl⟩) e5 (s5 _ _ e4) .nil (fun h => absurd h (by decide +kernel))
      have := h.1
      rw [hz1] at this
      exact Option.some.inj this
    subst h1
    walk_at "ts"
    refine q_inNone hpf pr2 (fun r hr hrow => ?_) (fun hall => ?_) (fun hno => ?_)
    · obtain ⟨q1, q2⟩ := row_of ht hr
      exact ((words_ok q1 q2).2 _ (wd_mem (i := 0) (by rw [hrow.1]; decide))).1.ok
    rotate_left
    · walk_at "ts"
      rename_i p0 hp0 H4 s4 e4 p5 hp5 H5 s5 e5
      exact q "text" [] [] p5 p0 H5 ((s13.trans s4).trans s5) (.inl ⟨fun h => hno h.2, rfl⟩) e5 (s5 _ _ e4) .nil (fun h => absurd h (by decide +kernel))
    have hls : Lts H3 ys (ltrsOf t) := rows_all pr2 hall
    have hly := Paired.len hls
    have hnm := ltr_name ht hall
    have hok : TextOk t := ⟨hz1, hall⟩
    walk_at "ts"
    have hnn : ∀ L ∈ ltrsOf t, 0 ≤ L.sent ∧ 0 ≤ L.back ∧ 0 ≤ L.low ∧ 0 ≤ L.high := fun L hL => by
      obtain ⟨r, _, rfl⟩ := List.mem_map.mp hL
      exact ⟨numV_nn _, numV_nn _, numV_nn _, numV_nn _⟩
    refine Ts.q_forL ys (sqL_of hpf) (fun i σ' H' => ∃ v3 v4 v5 v6 v7 v8 : Option V, σ' = [some (.str t), some (.ref pr), some (.ref pf), v3, v4, v5, v6, v7, v8, none, none] ∧ Same H3 H' ∧ ∀ L ∈ (ltrsOf t).take i, LtGood L)
      ⟨none, none, none, none, none, none, rfl, Same.refl _, by simp⟩ (fun i σ' H' ⟨_, _, _, _, _, _, _, s, _⟩ => sqL_of (s _ _ hpf)) ?_ ?_
    · rintro i x σ' H' hx ⟨v3, v4, v5, v6, v7, v8, rfl, sH, hgood⟩
      obtain ⟨L, hLi, a, rfl, hL⟩ := Paired.at_ (hls.mono (tsame_of sH)) hx
      have hL' : H' a = some (.tup [.str L.name, .int L.sent, .int L.back, .int L.low, .int L.high]) := hL
      have hm := List.mem_of_getElem? hLi
      obtain ⟨hasc, hnl⟩ := hnm L hm
      obtain ⟨n1, n2, n3, n4⟩ := hnn L hm
      have hnl2 : L.name.cps.toList.length ≤ 300 := by rw [← tl_len]; exact hnl
      have bad : ∀ (z : Str) (H4 : Hp), Same H3 H4 → (z = "name" ∧ ¬ IsName L.name) ∨ (z = "letter" ∧ IsName L.name ∧ ¬ Good L) → ∀ p0 p5 H5, Same H4 H5 → H5 p0 = some (.lst []) → H5 p5 = some (.tup [.ref p0, .str z]) → Q (.ref p5) H5 := fun z H4 s4 hz p0 p5 H5 s5 e4 e5 => by
        refine q z [] [] p5 p0 H5 ((s13.trans s4).trans s5) (.inr (.inl ⟨hok, i, L, hLi, hgood, ?_⟩)) e5 e4 .nil (fun h => ?_)
        · rcases hz with ⟨a, b⟩ | ⟨a, b, c⟩
          · exact .inl ⟨b, a⟩
          · exact .inr ⟨b, c, a⟩
        · rcases hz with ⟨a, _⟩ | ⟨a, _⟩
          · rw [a] at h; exact absurd h (by decide +kernel)
          · rw [a] at h; exact absurd h (by decide +kernel)
      walk_at "ts"
      refine Ts.q_lcS (by omega) (fun i => (L.name.cps.toList[i]?).elim false fun c => !decide (97 ≤ c ∧ c ≤ 122)) (fun i _ v => ∃ c, L.name.cps.toList[i]? = some c ∧ v = .str ⟨#[c]⟩) (fun _ _ _ _ _ h => h) ?_ ?_
      · intro j c H4 QB QV hc s4 qb qv
        rw [hc] at qb qv
        walk_at "ts"
        refine ⟨rfl, ?_⟩
        walk_at "ts"
        refine Ts.q_notInS ?_
        walk_at "ts"
        refine Ts.q_iteN (fun h3 => ?_) (fun h3 => ?_)
        · walk_at "ts"
          exact qv _ _ (by show (!decide (97 ≤ c ∧ c ≤ 122)) = true; rw [decide_eq_false (fun z => h3 (mem_abc.mpr z))]; rfl) (Same.refl _) ⟨c, rfl, rfl⟩
        · exact qb (by show (!decide (97 ≤ c ∧ c ≤ 122)) = false; rw [decide_eq_true (mem_abc.mp h3)]; rfl) _ (Same.refl _)
      intro zs pw H4 s4 _ hpw prz
      have pz := Ts.paired_filter (R := fun (c : Nat) v => v = V.str ⟨#[c]⟩) L.name.cps.toList (fun c => !decide (97 ≤ c ∧ c ≤ 122)) L.name.cps.toList.length (Nat.le_refl _) zs prz
      rw [List.take_length] at pz
      have ez : zs = ((L.name.cps.toList.filter fun c => !decide (97 ≤ c ∧ c ≤ 122)).map fun c => (⟨#[c]⟩ : Str)).map V.str := by rw [Ts.paired_eq pz, List.map_map]; rfl
      rw [ez] at hpw
      walk_at "ts"
      refine Ts.q_lenS (Ts.size_of (by omega)) ?_
      walk_at "ts"
      refine Ts.q_iteD (fun h1 => ?_) (fun h1 => ?_)
      · walk_at "ts"
        rename_i p0 hp0 H5 s5 e5 p6 hp6 H6 s6 e6
        exact bad "name" H4 (sH.trans s4) (.inl ⟨rfl, fun h => by have := h.1; omega⟩) p0 p6 H6 (s5.trans s6) (s6 _ _ e5) e6
      walk_at "ts"
      refine Ts.q_lenS (Ts.size_of (by omega)) ?_
      walk_at "ts"
      refine Ts.q_iteD (fun h2 => ?_) (fun h2 => ?_)
      · walk_at "ts"
        rename_i p0 hp0 H5 s5 e5 p6 hp6 H6 s6 e6
        exact bad "name" H4 (sH.trans s4) (.inl ⟨rfl, fun h => by have := h.2.1; omega⟩) p0 p6 H6 (s5.trans s6) (s6 _ _ e5) e6
      walk_at "ts"
      rename_i pe hpe H5 s5 e5
      refine Ts.q_neNilS (s5 _ _ hpw) e5 (fun z hz => ?_) ?_
      · obtain ⟨c, hc, rfl⟩ := List.mem_map.mp hz
        have := hasc c (List.mem_filter.mp hc).1
        exact (asc_one this).ok
      have nameOk : ((L.name.cps.toList.filter fun c => !decide (97 ≤ c ∧ c ≤ 122)).map fun c => (⟨#[c]⟩ : Str)).isEmpty = true ↔ IsName L.name := by
        rw [List.isEmpty_iff, List.map_eq_nil_iff, List.filter_eq_nil_iff]
        constructor
        · intro h
          refine ⟨by omega, by omega, fun c hc => ?_⟩
          have := h c hc
          simpa using this
        · intro h c hc
          have := h.2.2 c hc
          simpa using this
      walk_at "ts"
      cases hem : ((L.name.cps.toList.filter fun c => !decide (97 ≤ c ∧ c ≤ 122)).map fun c => (⟨#[c]⟩ : Str)).isEmpty with
      | false =>
        walk_at "ts"
        rename_i p0 hp0 H6 s6 e6 p7 hp7 H7 s7 e7
        refine bad "name" H5 ((sH.trans s4).trans s5) (.inl ⟨rfl, fun h => ?_⟩) p0 p7 H7 (s6.trans s7) (s7 _ _ e6) e7
        rw [nameOk.mpr h] at hem
        cases hem
      | true =>
        have hname := nameOk.mp hem
        walk_at "ts"
        refine Ts.q_max4 fun mx m1 m2 m3 m4 mo => ?_
        walk_at "ts"
        refine Ts.q_iteD (fun h3 => ?_) (fun h3 => ?_)
        · walk_at "ts"
          rename_i p0 hp0 H6 s6 e6 p7 hp7 H7 s7 e7
          exact bad "letter" H5 ((sH.trans s4).trans s5) (.inr ⟨rfl, hname, fun h => by have := h.1.2; have := h.2.1.2; have := h.2.2.1.2; have := h.2.2.2.1.2; omega⟩) p0 p7 H7 (s6.trans s7) (s7 _ _ e6) e7
        walk_at "ts"
        refine Ts.q_iteD (fun h4 => ?_) (fun h4 => ?_)
        · walk_at "ts"
          rename_i p0 hp0 H6 s6 e6 p7 hp7 H7 s7 e7
          exact bad "letter" H5 ((sH.trans s4).trans s5) (.inr ⟨rfl, hname, fun h => by have := h.2.2.2.2.1; omega⟩) p0 p7 H7 (s6.trans s7) (s7 _ _ e6) e7
        walk_at "ts"
        refine Ts.q_iteD (fun h5 => ?_) (fun h5 => ?_)
        · walk_at "ts"
          rename_i p0 hp0 H6 s6 e6 p7 hp7 H7 s7 e7
          exact bad "letter" H5 ((sH.trans s4).trans s5) (.inr ⟨rfl, hname, fun h => by have := h.2.2.2.2.2; omega⟩) p0 p7 H7 (s6.trans s7) (s7 _ _ e6) e7
        · walk_at "ts"
          exact ⟨_, _, _, _, _, _, rfl, (sH.trans s4).trans s5, take_all hLi ⟨hname, ⟨n1, by omega⟩, ⟨n2, by omega⟩, ⟨n3, by omega⟩, ⟨n4, by omega⟩, by omega, by omega⟩ hgood⟩
    · rintro σ' H' ⟨v3, v4, v5, v6, v7, v8, rfl, sH, hgood⟩
      rw [hly, List.take_length] at hgood
      walk_at "ts"
      rename_i p5 hp5 H5 s5 e5
      exact q "" (ltrsOf t) ys p5 pf H5 ((s13.trans sH).trans s5) (.inr (.inr ⟨hok, hgood, rfl⟩)) e5 (s5 _ _ (sH _ _ hpf)) (hls.mono (tsame_of (sH.trans s5))) (fun _ => rfl)

end Law


namespace Law
open PySem PySem.Spec PyProof.Rows L2 Ts
variable {P : Program} {w : World} {K : PySem.W.Frag} {mg : Str → Option Value} {base : Heap}
local macro_rules | `(tactic| walk_at "ts call") => `(tactic| ((with_reducible apply c_l_cell_at); (focus walk_at "ts sq"); (focus omega); intro z ez))
local macro_rules | `(tactic| walk_at "ts call") => `(tactic| ((with_reducible apply c_l_mix); intro z ez z0 z1))
local macro_rules | `(tactic| walk_at "ts call") => `(tactic| ((with_reducible apply c_l_big); intro z H2 z0 z1 sz))
local macro_rules | `(tactic| walk_at "ts call") => `(tactic| with_reducible apply c_l_whole)
local macro_rules | `(tactic| walk_at "ts call") => `(tactic| ((with_reducible apply c_l_word); (focus omega); (focus omega); intro z hz lz))
local macro_rules | `(tactic| walk_at "ts call") => `(tactic| ((with_reducible apply c_l_names); intro b k p H2 lb lb2 s2 hp))
local macro_rules | `(tactic| walk_at "ts call") => `(tactic| ((with_reducible apply c_l_letter); (focus walk_at "ts sq"); (focus first | assumption | omega | (simp; omega)); (focus assumption); (focus omega); intro L b H2 s2 hL nL okL))

/-! ### a drawn sign -/
def sp_l_sign : Sp := fun vs H Q _ => ∃ c : Int, vs = [.int c] ∧ ∀ z, Asc z → z.length = 1 → Q (.str z) H
theorem c_l_sign {c : Int} {H : Hp} {Q : VK} {E : XK} (q : ∀ z, Asc z → z.length = 1 → Q (.str z) H) : sp_l_sign ([.int c] ++ []) H Q E := ⟨c, rfl, q⟩
theorem ok_l_sign (T : Lw K mg) : FnOk P w K mg base CX0 1 T.f_l_sign T.fd_l_sign ["_law_cell"] sp_l_sign := by
  refine T.d_l_sign.F.ok sc_l_sign (fun vs H Q E h => ?_) (fun cdv A outer s H vs Q E hr h => ?_)
  · obtain ⟨c, rfl, _⟩ := h
    rfl
  · obtain ⟨c, rfl, q⟩ := h
    refine ⟨_, (pss_cons (ps_asg pe_str (pg_name (i := 1) sc_l_sign.nd rfl (by first | exact Or.inl rfl | exact Or.inr rfl))) (pss_cons (ps_asg (pe_op Ts.op_addS (pv 1) pe_str) (pg_name (i := 1) sc_l_sign.nd rfl (by first | exact Or.inl rfl | exact Or.inr rfl))) (pss_one (ps_ret (pe_ix ix_str (pv 1) (pe_op op_mod (pv 0) (pe_callB (Ts.call_lenK K) (by rfl) T.n_len (by decide +kernel) (pa_cons (pv 1) pa_nil))) (fun _ _ => rfl)))))), ?_⟩
    walk_at "ts"
    refine q_addLit 96 (by decide +kernel) (by omega) fun z hz hl => ?_
    walk_at "ts"
    refine Ts.q_lenS (Ts.size_of (by omega)) ?_
    walk_at "ts"
    rw [hl]
    have h0 := Int.emod_nonneg c (show ((96 : Nat) : Int) ≠ 0 by omega)
    have h1 := Int.emod_lt_of_pos c (show (0 : Int) < ((96 : Nat) : Int) by omega)
    refine q_ixAsc hz (by omega) h0 (by rw [hl]; exact h1) fun d hd => ?_
    exact q _ (asc_one hd) rfl
local macro_rules | `(tactic| walk_at "ts call") => `(tactic| ((with_reducible apply c_l_sign); intro z az lz))

/-! ### a drawn row that is none -/
def oddV : V → Bool
  | .str z => z.cps.toList.all (fun c => decide (c < 128)) && decide (z.length ≤ 60)
  | _ => false
theorem odd_of {xs : List V} (h : xs.all oddV = true) {v : V} (hv : v ∈ xs) : ∃ z, v = .str z ∧ TxR z := by
  have := List.all_eq_true.mp h v hv
  cases v with
  | str z =>
    have e : (z.cps.toList.all (fun c => decide (c < 128)) && decide (z.length ≤ 60)) = true := this
    rw [Bool.and_eq_true] at e
    exact ⟨z, rfl, txr_short (asc_by e.1) (of_decide_eq_true e.2)⟩
  | _ => cases this
def sp_l_odd : Sp := fun vs H Q _ => ∃ c : Int, vs = [.int c] ∧ ∀ z H', Same H H' → TxR z → Q (.str z) H'
theorem c_l_odd {c : Int} {H : Hp} {Q : VK} {E : XK} (q : ∀ z H', Same H H' → TxR z → Q (.str z) H') : sp_l_odd ([.int c] ++ []) H Q E := ⟨c, rfl, q⟩
theorem ok_l_odd (T : Lw K mg) : FnOk P w K mg base CX0 1 T.f_l_odd T.fd_l_odd ["_law_cell"] sp_l_odd := by
  refine T.d_l_odd.F.ok sc_l_odd (fun vs H Q E h => ?_) (fun cdv A outer s H vs Q E hr h => ?_)
  · obtain ⟨c, rfl, _⟩ := h
    rfl
  · obtain ⟨c, rfl, q⟩ := h
    refine ⟨_, (pss_cons (ps_asg (pe_lst (pa_cons pe_str (pa_cons pe_str (pa_cons pe_str (pa_cons pe_str (pa_cons pe_str pa_nil)))))) (pg_name (i := 1) sc_l_odd.nd rfl (by first | exact Or.inl rfl | exact Or.inr rfl))) (pss_cons (ps_asg (pe_op op_cat (pv 1) (pe_lst (pa_cons pe_str (pa_cons pe_str pa_nil)))) (pg_name (i := 1) sc_l_odd.nd rfl (by first | exact Or.inl rfl | exact Or.inr rfl))) (pss_cons (ps_asg (pe_op op_cat (pv 1) (pe_lst (pa_cons pe_str (pa_cons pe_str pa_nil)))) (pg_name (i := 1) sc_l_odd.nd rfl (by first | exact Or.inl rfl | exact Or.inr rfl))) (pss_cons (ps_asg (pe_op op_cat (pv 1) (pe_lst (pa_cons pe_str (pa_cons pe_str (pa_cons pe_str pa_nil))))) (pg_name (i := 1) sc_l_odd.nd rfl (by first | exact Or.inl rfl | exact Or.inr rfl))) (pss_cons (ps_asg (pe_op op_cat (pv 1) (pe_lst (pa_cons pe_str (pa_cons pe_str pa_nil)))) (pg_name (i := 1) sc_l_odd.nd rfl (by first | exact Or.inl rfl | exact Or.inr rfl))) (pss_cons (ps_asg (pe_op op_cat (pv 1) (pe_lst (pa_cons pe_str (pa_cons pe_str pa_nil)))) (pg_name (i := 1) sc_l_odd.nd rfl (by first | exact Or.inl rfl | exact Or.inr rfl))) (pss_cons (ps_asg (pe_op op_cat (pv 1) (pe_lst (pa_cons pe_str (pa_cons pe_str pa_nil)))) (pg_name (i := 1) sc_l_odd.nd rfl (by first | exact Or.inl rfl | exact Or.inr rfl))) (pss_cons (ps_asg (pe_op op_cat (pv 1) (pe_lst (pa_cons pe_str (pa_cons pe_str pa_nil)))) (pg_name (i := 1) sc_l_odd.nd rfl (by first | exact Or.inl rfl | exact Or.inr rfl))) (pss_one (ps_ret (pe_ix (Ts.ix_listK K) (pv 1) (pe_op op_mod (pv 0) pe_int) (fun _ _ => rfl)))))))))))), ?_⟩
    walk_at "ts"
    iterate 7
      refine Ts.q_cat (by walk_at "ts hp") (by walk_at "ts hp") (Ts.size_of (by decide)) fun p' H' s' e' => ?_
      walk_at "ts"
    rename_i e'
    refine Ts.q_ixAny (sqL_of e') (by omega) (by show c % 20 < ((20 : Nat) : Int); omega) fun v hv => ?_
    obtain ⟨z, rfl, hz⟩ := odd_of (by decide +kernel) hv
    exact q z _ (by walk_at "ts same") hz
local macro_rules | `(tactic| walk_at "ts call") => `(tactic| ((with_reducible apply c_l_odd); intro z H2 s2 tz))

/-! ### a drawn letter that is none -/
def sp_l_none : Sp := fun vs H Q _ => ∃ c : Int, vs = [.int c] ∧ ∀ L b H', Same H H' → LtAt H' b L → LtR L → Q (.ref b) H'
theorem c_l_none {c : Int} {H : Hp} {Q : VK} {E : XK} (q : ∀ L b H', Same H H' → LtAt H' b L → LtR L → Q (.ref b) H') : sp_l_none ([.int c] ++ []) H Q E := ⟨c, rfl, q⟩
theorem ok_l_none (T : Lw K mg) : FnOk P w K mg base CX0 2 T.f_l_none T.fd_l_none ["_law_cell"] sp_l_none := by
  refine T.d_l_none.F.ok sc_l_none (fun vs H Q E h => ?_) (fun cdv A outer s H vs Q E hr h => ?_)
  · obtain ⟨c, rfl, _⟩ := h
    rfl
  · obtain ⟨c, rfl, q⟩ := h
    refine ⟨_, (pss_cons (ps_asg (pe_op op_add (pe_op op_add (pe_op op_pow pe_int pe_int) pe_int) (pe_op op_mul (pe_call ((ok_l_mix T).mono (by decide)) hr rfl T.m_l_mix T.d_l_mix.F.kp T.d_l_mix.b .nil pass0 (pa_cons (pv 0) (pa_cons pe_int pa_nil))) (pe_op op_pow pe_int pe_int))) (pg_name (i := 1) sc_l_none.nd rfl (by first | exact Or.inl rfl | exact Or.inr rfl))) (pss_cons (ps_asg (pe_lst (pa_cons (pe_tup (pa_cons pe_str (pa_cons pe_int (pa_cons pe_int (pa_cons pe_int (pa_cons pe_int pa_nil)))))) (pa_cons (pe_tup (pa_cons pe_str (pa_cons pe_int (pa_cons pe_int (pa_cons pe_int (pa_cons pe_int pa_nil)))))) (pa_cons (pe_tup (pa_cons pe_str (pa_cons pe_int (pa_cons pe_int (pa_cons pe_int (pa_cons pe_int pa_nil)))))) (pa_cons (pe_tup (pa_cons pe_str (pa_cons pe_int (pa_cons pe_int (pa_cons pe_int (pa_cons pe_int pa_nil)))))) (pa_cons (pe_tup (pa_cons pe_str (pa_cons pe_int (pa_cons pe_int (pa_cons pe_int (pa_cons pe_int pa_nil)))))) pa_nil)))))) (pg_name (i := 2) sc_l_none.nd rfl (by first | exact Or.inl rfl | exact Or.inr rfl))) (pss_cons (ps_asg (pe_op op_cat (pv 2) (pe_lst (pa_cons (pe_tup (pa_cons pe_str (pa_cons pe_int (pa_cons pe_int (pa_cons pe_int (pa_cons pe_int pa_nil)))))) (pa_cons (pe_tup (pa_cons pe_str (pa_cons pe_int (pa_cons (pe_op op_add (pe_op op_pow pe_int pe_int) pe_int) (pa_cons pe_int (pa_cons pe_int pa_nil)))))) (pa_cons (pe_tup (pa_cons pe_str (pa_cons pe_int (pa_cons pe_int (pa_cons pe_int (pa_cons (pv 1) pa_nil)))))) (pa_cons (pe_tup (pa_cons pe_str (pa_cons pe_int (pa_cons pe_int (pa_cons pe_int (pa_cons (pv 1) pa_nil)))))) pa_nil)))))) (pg_name (i := 2) sc_l_none.nd rfl (by first | exact Or.inl rfl | exact Or.inr rfl))) (pss_one (ps_ret (pe_ix (Ts.ix_listK K) (pv 2) (pe_op op_mod (pv 0) pe_int) (fun _ _ => rfl))))))), ?_⟩
    walk_at "ts"
    refine Ts.q_cat (by walk_at "ts hp") (by walk_at "ts hp") (Ts.size_of (by simp)) fun p' H' s' e' => ?_
    walk_at "ts"
    refine Ts.q_ixAny (sqL_of e') (by omega) (by show c % 9 < ((9 : Nat) : Int); omega) fun v hv => ?_
    rename_i y ey y0 y1 _ _ _ _ _ _ _ _ _ _ _ _ _ _ _ _ _ _ _ _ _ _ _ _ _ _ _ _ _ _ _ _ _ _ _ _ _ _ _ _ _ _ _ _ _ _ _ _ _ _ _ _ _ _ _
    have yb : y * 10000000000000000000000000000000000000000 < 999983 * 10000000000000000000000000000000000000000 := by omega
    have ok5 : ∀ (n : Str) (a b c d : Int), (n.cps.toList.all (fun c => decide (c < 128)) && decide (n.length ≤ 13)) = true → 0 ≤ a ∧ a < 10 ^ 47 → 0 ≤ b ∧ b < 10 ^ 47 → 0 ≤ c ∧ c < 10 ^ 47 → 0 ≤ d ∧ d < 10 ^ 47 → LtR ⟨n, a, b, c, d⟩ := fun n a b c d hn ha hb hc hd => by
      rw [Bool.and_eq_true] at hn
      exact ⟨asc_by hn.1, of_decide_eq_true hn.2, ha, hb, hc, hd⟩
    have far0 : (0 : Int) ≤ 1000000000000 + 1 + y * 10000000000000000000000000000000000000000 ∧ 1000000000000 + 1 + y * 10000000000000000000000000000000000000000 < (10 : Int) ^ 47 := by
      have e : (10 : Int) ^ 47 = 100000000000000000000000000000000000000000000000 := by decide
      rw [e]
      omega
    simp only [List.cons_append, List.nil_append, List.mem_cons, List.not_mem_nil, or_false] at hv
    rcases hv with rfl | rfl | rfl | rfl | rfl | rfl | rfl | rfl | rfl
    · exact q ⟨"", 1, 2, 3, 4⟩ _ _ (by walk_at "ts same") (by unfold LtAt; walk_at "ts hp") (ok5 _ _ _ _ _ (by decide +kernel) (by decide) (by decide) (by decide) (by decide))
    · exact q ⟨"A", 1, 2, 3, 4⟩ _ _ (by walk_at "ts same") (by unfold LtAt; walk_at "ts hp") (ok5 _ _ _ _ _ (by decide +kernel) (by decide) (by decide) (by decide) (by decide))
    · exact q ⟨"a1", 1, 2, 3, 4⟩ _ _ (by walk_at "ts same") (by unfold LtAt; walk_at "ts hp") (ok5 _ _ _ _ _ (by decide +kernel) (by decide) (by decide) (by decide) (by decide))
    · exact q ⟨"abcdefghijklm", 1, 2, 3, 4⟩ _ _ (by walk_at "ts same") (by unfold LtAt; walk_at "ts hp") (ok5 _ _ _ _ _ (by decide +kernel) (by decide) (by decide) (by decide) (by decide))
    · exact q ⟨"a", 2, 1, 3, 4⟩ _ _ (by walk_at "ts same") (by unfold LtAt; walk_at "ts hp") (ok5 _ _ _ _ _ (by decide +kernel) (by decide) (by decide) (by decide) (by decide))
    · exact q ⟨"a", 1, 2, 4, 3⟩ _ _ (by walk_at "ts same") (by unfold LtAt; walk_at "ts hp") (ok5 _ _ _ _ _ (by decide +kernel) (by decide) (by decide) (by decide) (by decide))
    · exact q ⟨"a", 1, 1000000000000 + 1, 3, 4⟩ _ _ (by walk_at "ts same") (by unfold LtAt; walk_at "ts hp") (ok5 _ _ _ _ _ (by decide +kernel) (by decide) (by decide) (by decide) (by decide))
    · exact q ⟨"a", 1, 2, 3, _⟩ _ _ (by walk_at "ts same") (by unfold LtAt; walk_at "ts hp") (ok5 _ _ _ _ _ (by decide +kernel) (by decide) (by decide) (by decide) far0)
    · exact q ⟨"B", 2, 1, 3, _⟩ _ _ (by walk_at "ts same") (by unfold LtAt; walk_at "ts hp") (ok5 _ _ _ _ _ (by decide +kernel) (by decide) (by decide) (by decide) far0)
local macro_rules | `(tactic| walk_at "ts call") => `(tactic| ((with_reducible apply c_l_none); intro L b H2 s2 hL okL))

/-! ### a letter's row -/
local macro_rules | `(tactic| walk_at "ts txl") => `(tactic| (simp only [PySem.strLen_append, Ts.l_sent, Ts.l_back, Ts.l_swears, Ts.l_to, Ts.l_nl, Ts.l_emp]; omega))
local macro_rules | `(tactic| walk_at "ts tx") => `(tactic| repeat first | walk_at "ts 1" | with_reducible apply Ts.q_tJoin | with_reducible apply Ts.q_jsCons | with_reducible apply Ts.q_jsNil | with_reducible apply Ts.q_fmtS | ((with_reducible refine Ts.q_orS ?hl ?_); (case hl => omega)) | ((with_reducible refine Ts.q_orI ?hl ?_); (case hl => assumption)) | ((with_reducible refine Ts.q_jsPart ?hl ?_); (case hl => walk_at "ts txl")))
def sp_l_row : Sp := fun vs H Q _ => ∃ (a : Addr) (L : Ltr), vs = [.ref a] ∧ LtAt H a L ∧ LtR L ∧ Q (.str (rowS L)) H
theorem c_l_row {a : Addr} {L : Ltr} {H : Hp} {Q : VK} {E : XK} (ha : LtAt H a L) (hr : LtR L) (q : ∀ z, TxR z → Q (.str z) H) : sp_l_row ([.ref a] ++ []) H Q E := ⟨a, L, rfl, ha, hr, q _ (row_txr hr)⟩
theorem ltr_of {L : Ltr} (hn : IsName L.name) (h : Good L) : LtR L := by
  have e : (10 : Int) ^ 47 = 100000000000000000000000000000000000000000000000 := by decide
  obtain ⟨g1, g2, g3, g4, _⟩ := h
  exact ⟨hn.2.2.asc, by have := hn.2.1; omega, ⟨g1.1, by rw [e]; have := g1.2; omega⟩, ⟨g2.1, by rw [e]; have := g2.2; omega⟩, ⟨g3.1, by rw [e]; have := g3.2; omega⟩, ⟨g4.1, by rw [e]; have := g4.2; omega⟩⟩
theorem ok_l_row (T : Lw K mg) : FnOk P w K mg base CX0 1 T.f_l_row T.fd_l_row ["_law_letter_here"] sp_l_row := by
  refine T.d_l_row.F.ok sc_l_row (fun vs H Q E h => ?_) (fun cdv A outer s H vs Q E hr h => ?_)
  · obtain ⟨a, L, rfl, _⟩ := h
    rfl
  · obtain ⟨a, L, rfl, ha, hL, q⟩ := h
    have ha' : H a = some (.tup [.str L.name, .int L.sent, .int L.back, .int L.low, .int L.high]) := ha
    have hn := hL.len
    have k1 := nT_lenR hL.n1
    have k2 := nT_lenR hL.n2
    have k3 := nT_lenR hL.n3
    have k4 := nT_lenR hL.n4
    have j1 := nT_logR hL.n1
    have j2 := nT_logR hL.n2
    have j3 := nT_logR hL.n3
    have j4 := nT_logR hL.n4
    refine ⟨_, (pss_cons (ps_asg (pv 0) (Ts.pg_tupK K 5 (by rfl) (pgs_cons (pg_name (i := 1) sc_l_row.nd rfl (by first | exact Or.inl rfl | exact Or.inr rfl)) (pgs_cons (pg_name (i := 2) sc_l_row.nd rfl (by first | exact Or.inl rfl | exact Or.inr rfl)) (pgs_cons (pg_name (i := 3) sc_l_row.nd rfl (by first | exact Or.inl rfl | exact Or.inr rfl)) (pgs_cons (pg_name (i := 4) sc_l_row.nd rfl (by first | exact Or.inl rfl | exact Or.inr rfl)) (pgs_cons (pg_name (i := 5) sc_l_row.nd rfl (by first | exact Or.inl rfl | exact Or.inr rfl)) pgs_nil))))))) (pss_one (ps_ret (Ts.pe_joinT (PJ.cons (pe_fmt (pv 1)) (PJ.cons pe_str (PJ.cons (pe_fmt (pv 2)) (PJ.cons pe_str (PJ.cons (pe_fmt (pv 3)) (PJ.cons pe_str (PJ.cons (pe_fmt (pv 4)) (PJ.cons pe_str (PJ.cons (pe_fmt (pv 5)) PJ.nil))))))))))))), ?_⟩
    walk_at "ts tx"
    unfold rowS at q
    rw [emp_app]
    exact q
local macro_rules | `(tactic| walk_at "ts call") => `(tactic| ((with_reducible apply c_l_row); (focus first | assumption | walk_at "ts hp"); (focus assumption); intro z tz))

end Law


namespace Law
open PySem PySem.Spec PyProof.Rows L2 Ts
variable {P : Program} {w : World} {K : PySem.W.Frag} {mg : Str → Option Value} {base : Heap}
local macro_rules | `(tactic| walk_at "ts call") => `(tactic| ((with_reducible apply c_l_cell_at); (focus walk_at "ts sq"); (focus omega); intro z ez))
local macro_rules | `(tactic| walk_at "ts call") => `(tactic| ((with_reducible apply c_l_mix); intro z ez z0 z1))
local macro_rules | `(tactic| walk_at "ts call") => `(tactic| ((with_reducible apply c_l_big); intro z H2 z0 z1 sz))
local macro_rules | `(tactic| walk_at "ts call") => `(tactic| with_reducible apply c_l_whole)
local macro_rules | `(tactic| walk_at "ts call") => `(tactic| ((with_reducible apply c_l_word); (focus omega); (focus omega); intro z hz lz))
local macro_rules | `(tactic| walk_at "ts call") => `(tactic| ((with_reducible apply c_l_names); intro b k p H2 lb lb2 s2 hp))
local macro_rules | `(tactic| walk_at "ts call") => `(tactic| ((with_reducible apply c_l_letter); (focus walk_at "ts sq"); (focus first | assumption | omega | (simp; omega)); (focus assumption); (focus omega); intro L b H2 s2 hL nL okL))
local macro_rules | `(tactic| walk_at "ts call") => `(tactic| ((with_reducible apply c_l_sign); intro z az lz))
local macro_rules | `(tactic| walk_at "ts call") => `(tactic| ((with_reducible apply c_l_odd); intro z H2 s2 tz))
local macro_rules | `(tactic| walk_at "ts call") => `(tactic| ((with_reducible apply c_l_none); intro L b H2 s2 hL okL))
local macro_rules | `(tactic| walk_at "ts txl") => `(tactic| (simp only [PySem.strLen_append, Ts.l_sent, Ts.l_back, Ts.l_swears, Ts.l_to, Ts.l_nl, Ts.l_emp]; omega))
local macro_rules | `(tactic| walk_at "ts tx") => `(tactic| repeat first | walk_at "ts 1" | with_reducible apply Ts.q_tJoin | with_reducible apply Ts.q_jsCons | with_reducible apply Ts.q_jsNil | with_reducible apply Ts.q_fmtS | ((with_reducible refine Ts.q_orS ?hl ?_); (case hl => omega)) | ((with_reducible refine Ts.q_orI ?hl ?_); (case hl => assumption)) | ((with_reducible refine Ts.q_jsPart ?hl ?_); (case hl => walk_at "ts txl")))
local macro_rules | `(tactic| walk_at "ts call") => `(tactic| ((with_reducible apply c_l_row); (focus first | assumption | walk_at "ts hp"); (focus assumption); intro z tz))

/-! ### a text, spoilt or not -/
theorem ins_map {rs : List Str} {z : Str} {k : Nat} : (rs.map V.str).take k ++ [V.str z] ++ (rs.map V.str).drop k = (rs.take k ++ [z] ++ rs.drop k).map V.str := by
  simp only [List.map_append, List.map_cons, List.map_nil, List.map_take, List.map_drop]
theorem ins_all {rs : List Str} {z : Str} {k : Nat} (h : ∀ r ∈ rs, TxR r) (hz : TxR z) : (∀ r ∈ rs.take k ++ [z] ++ rs.drop k, TxR r) ∧ (rs.take k ++ [z] ++ rs.drop k).length = rs.length + 1 := by
  refine ⟨fun r hr => ?_, by simp; omega⟩
  simp only [List.mem_append, List.mem_singleton] at hr
  rcases hr with (hr | rfl) | hr
  · exact h r (List.mem_of_mem_take hr)
  · exact hz
  · exact h r (List.mem_of_mem_drop hr)
theorem q_inSg {c : Nat} {z : Str} {H : Hp} {Q : VK} (q : ∀ b, Q (.bl b) H) : rInS (.str ⟨#[c]⟩) (.str z) H Q := ⟨c, z, rfl, rfl, q _⟩
def sp_l_spoilt : Sp := fun vs H Q _ => ∃ (a : Addr) (rs : List Str) (c : Int), vs = [.ref a, .int c] ∧ H a = some (.lst (rs.map V.str)) ∧ rs.length ≤ 30 ∧ (∀ r ∈ rs, TxR r) ∧ ∀ t H', TxOk t → Q (.str t) H'
theorem c_l_spoilt {a : Addr} {rs : List Str} {c : Int} {H : Hp} {Q : VK} {E : XK} (ha : H a = some (.lst (rs.map V.str))) (hl : rs.length ≤ 30) (hr : ∀ r ∈ rs, TxR r) (q : ∀ t H', TxOk t → Q (.str t) H') : sp_l_spoilt ([.ref a, .int c] ++ []) H Q E := ⟨a, rs, c, rfl, ha, hl, hr, q⟩
theorem ok_l_spoilt (T : Lw K mg) : FnOk P w K mg base CX0 3 T.f_l_spoilt T.fd_l_spoilt ["_law_rows", "_law_cell"] sp_l_spoilt := by
  refine T.d_l_spoilt.F.ok sc_l_spoilt (fun vs H Q E h => ?_) (fun cdv A outer s H vs Q E hr h => ?_)
  · obtain ⟨a, rs, c, rfl, _⟩ := h
    rfl
  · obtain ⟨a, rs, c, rfl, ha, hlen, htx, q⟩ := h
    refine ⟨_, (pss_cons (ps_asg (pe_join pe_str (pe_lc (own := [("_law_row_here", 6)]) rfl sc_l_spoilt.nd (Ts.pi_listK K (pv 0)) (blkOk_by (own := [("_law_row_here", 6)]) (N := N_l_spoilt) (sc := defScope s_l_spoilt) (by decide +kernel)) (fun _ _ _ _ _ => pg_name (i := 6) sc_l_spoilt.nd rfl (Or.inl rfl)) (fun _ _ _ _ _ => pts_nil) (fun _ _ _ _ _ => (pe_op Ts.op_addS (pv 6) pe_str)))) (pg_name (i := 2) sc_l_spoilt.nd rfl (by first | exact Or.inl rfl | exact Or.inr rfl))) (pss_cons (ps_asg (pe_op op_mod (pe_call ((ok_l_mix T).mono (by decide)) hr rfl T.m_l_mix T.d_l_mix.F.kp T.d_l_mix.b .nil pass0 (pa_cons (pv 1) (pa_cons pe_int pa_nil))) (pe_callB (call_max2' rfl) (by rfl) T.n_max (by decide +kernel) (pa_cons pe_int (pa_cons (pe_callB (Ts.call_lenK K) (by rfl) T.n_len (by decide +kernel) (pa_cons (pv 2) pa_nil)) pa_nil)))) (pg_name (i := 3) sc_l_spoilt.nd rfl (by first | exact Or.inl rfl | exact Or.inr rfl))) (pss_cons (ps_if (pt_cmpR op_eq (pe_op op_mod (pv 1) pe_int) pe_int (nomark _)) (pss_cons (ps_asg (pe_ix (Ts.ix_listK K) (pe_lst (pa_cons (pe_call ((ok_l_odd T).mono (by decide)) hr rfl T.m_l_odd T.d_l_odd.F.kp T.d_l_odd.b .nil pass0 (pa_cons (pe_op op_fdiv (pv 1) pe_int) pa_nil)) (pa_cons (pe_call ((ok_l_row T).mono (by decide)) hr rfl T.m_l_row T.d_l_row.F.kp T.d_l_row.b .nil pass0 (pa_cons (pe_call ((ok_l_none T).mono (by decide)) hr rfl T.m_l_none T.d_l_none.F.kp T.d_l_none.b .nil pass0 (pa_cons (pe_op op_fdiv (pv 1) pe_int) pa_nil)) pa_nil)) pa_nil))) (pe_op op_mod (pe_op op_fdiv (pv 1) pe_int) pe_int) (fun _ _ => rfl)) (pg_name (i := 4) sc_l_spoilt.nd rfl (by first | exact Or.inl rfl | exact Or.inr rfl))) (pss_cons (ps_expr (pe_bm PySem.F.plainAttrs_list PySem.F.slot_list_insert PySem.F.type_list_insert mt_insert (pv 0) (pa_cons (pe_op op_mod (pe_call ((ok_l_mix T).mono (by decide)) hr rfl T.m_l_mix T.d_l_mix.F.kp T.d_l_mix.b .nil pass0 (pa_cons (pv 1) (pa_cons pe_int pa_nil))) (pe_op op_add (pe_callB (Ts.call_lenK K) (by rfl) T.n_len (by decide +kernel) (pa_cons (pv 0) pa_nil)) pe_int)) (pa_cons (pv 4) pa_nil)))) (pss_one (ps_ret (pe_join pe_str (pe_lc (own := [("_law_row_here", 6)]) rfl sc_l_spoilt.nd (Ts.pi_listK K (pv 0)) (blkOk_by (own := [("_law_row_here", 6)]) (N := N_l_spoilt) (sc := defScope s_l_spoilt) (by decide +kernel)) (fun _ _ _ _ _ => pg_name (i := 6) sc_l_spoilt.nd rfl (Or.inl rfl)) (fun _ _ _ _ _ => pts_nil) (fun _ _ _ _ _ => (pe_op Ts.op_addS (pv 6) pe_str)))))))) pss_nil) (pss_cons (ps_if (PW.pt (pw_and (pt_cmpR op_eq (pe_op op_mod (pv 1) pe_int) pe_int (nomark _)) (pw_and1 (pt_cmpR op_ne (pv 2) pe_str (nomark _))))) (pss_cons (ps_asg (pe_ix (Ts.ix_listK K) (pe_lst (pa_cons (pe_call ((ok_l_sign T).mono (by decide)) hr rfl T.m_l_sign T.d_l_sign.F.kp T.d_l_sign.b .nil pass0 (pa_cons (pe_op op_fdiv (pv 1) pe_int) pa_nil)) (pa_cons pe_str (pa_cons (pe_op Ts.op_addS (pe_ix ix_str (pv 2) (pv 3) (fun _ _ => rfl)) (pe_ix ix_str (pv 2) (pv 3) (fun _ _ => rfl))) pa_nil)))) (pe_op op_mod (pe_op op_fdiv (pv 1) pe_int) pe_int) (fun _ _ => rfl)) (pg_name (i := 5) sc_l_spoilt.nd rfl (by first | exact Or.inl rfl | exact Or.inr rfl))) (pss_one (ps_ret (pe_op Ts.op_addS (pe_op Ts.op_addS (pe_slice (sl_str) (pv 2) po_none (po_some (pv 3))) (pv 5)) (pe_slice (sl_str) (pv 2) (po_some (pe_op op_add (pv 3) pe_int)) po_none))))) pss_nil) (pss_cons (ps_if (PW.pt (pw_and (pt_cmpR op_eq (pe_op op_mod (pv 1) pe_int) pe_int (nomark _)) (pw_and (pt_cmpR op_ne (pv 2) pe_str (nomark _)) (pw_and1 (pt_cmpR op_inS (pe_ix ix_str (pv 2) (pv 3) (fun _ _ => rfl)) pe_str rfl))))) (pss_one (ps_ret (pe_op Ts.op_addS (pe_op Ts.op_addS (pe_slice (sl_str) (pv 2) po_none (po_some (pv 3))) pe_str) (pe_slice (sl_str) (pv 2) (po_some (pv 3)) po_none)))) pss_nil) (pss_cons (ps_if (pt_cmpR op_eq (pe_op op_mod (pv 1) pe_int) pe_int (nomark _)) (pss_one (ps_ret (pe_slice (sl_str) (pv 2) po_none (po_some (pe_op op_sub (pe_callB (Ts.call_lenK K) (by rfl) T.n_len (by decide +kernel) (pa_cons (pv 2) pa_nil)) pe_int))))) pss_nil) (pss_cons (ps_if (pt_cmpR op_eq (pe_op op_mod (pv 1) pe_int) pe_int (nomark _)) (pss_cons (ps_expr (pe_bm PySem.F.plainAttrs_list PySem.F.slot_list_insert PySem.F.type_list_insert mt_insert (pv 0) (pa_cons (pe_op op_mod (pe_call ((ok_l_mix T).mono (by decide)) hr rfl T.m_l_mix T.d_l_mix.F.kp T.d_l_mix.b .nil pass0 (pa_cons (pv 1) (pa_cons pe_int pa_nil))) (pe_op op_add (pe_callB (Ts.call_lenK K) (by rfl) T.n_len (by decide +kernel) (pa_cons (pv 0) pa_nil)) pe_int)) (pa_cons (pe_call ((ok_l_row T).mono (by decide)) hr rfl T.m_l_row T.d_l_row.F.kp T.d_l_row.b .nil pass0 (pa_cons (pe_call ((ok_l_none T).mono (by decide)) hr rfl T.m_l_none T.d_l_none.F.kp T.d_l_none.b .nil pass0 (pa_cons (pe_op op_fdiv (pv 1) pe_int) pa_nil)) pa_nil)) pa_nil)))) (pss_cons (ps_asg (pe_ix (Ts.ix_listK K) (pe_lst (pa_cons (pe_call ((ok_l_odd T).mono (by decide)) hr rfl T.m_l_odd T.d_l_odd.F.kp T.d_l_odd.b .nil pass0 (pa_cons (pe_op op_fdiv (pv 1) pe_int) pa_nil)) (pa_cons (pe_call ((ok_l_row T).mono (by decide)) hr rfl T.m_l_row T.d_l_row.F.kp T.d_l_row.b .nil pass0 (pa_cons (pe_call ((ok_l_none T).mono (by decide)) hr rfl T.m_l_none T.d_l_none.F.kp T.d_l_none.b .nil pass0 (pa_cons (pe_op op_fdiv (pv 1) pe_int) pa_nil)) pa_nil)) pa_nil))) (pe_op op_mod (pe_op op_fdiv (pv 1) pe_int) pe_int) (fun _ _ => rfl)) (pg_name (i := 4) sc_l_spoilt.nd rfl (by first | exact Or.inl rfl | exact Or.inr rfl))) (pss_cons (ps_expr (pe_bm PySem.F.plainAttrs_list PySem.F.slot_list_insert PySem.F.type_list_insert mt_insert (pv 0) (pa_cons (pe_op op_mod (pe_call ((ok_l_mix T).mono (by decide)) hr rfl T.m_l_mix T.d_l_mix.F.kp T.d_l_mix.b .nil pass0 (pa_cons (pv 1) (pa_cons pe_int pa_nil))) (pe_op op_add (pe_callB (Ts.call_lenK K) (by rfl) T.n_len (by decide +kernel) (pa_cons (pv 0) pa_nil)) pe_int)) (pa_cons (pv 4) pa_nil)))) (pss_one (ps_ret (pe_join pe_str (pe_lc (own := [("_law_row_here", 6)]) rfl sc_l_spoilt.nd (Ts.pi_listK K (pv 0)) (blkOk_by (own := [("_law_row_here", 6)]) (N := N_l_spoilt) (sc := defScope s_l_spoilt) (by decide +kernel)) (fun _ _ _ _ _ => pg_name (i := 6) sc_l_spoilt.nd rfl (Or.inl rfl)) (fun _ _ _ _ _ => pts_nil) (fun _ _ _ _ _ => (pe_op Ts.op_addS (pv 6) pe_str))))))))) pss_nil) (pss_one (ps_ret (pv 2)))))))))), ?_⟩
    walk_at "ts"
    refine Ts.q_tM1 ?_
    walk_at "ts"
    refine Ts.q_isTxt ?_
    walk_at "ts"
    refine Ts.q_lcL (sqL_of ha) (by rw [List.length_map]; omega) (fun _ => true) (fun i _ v => ∃ r, (rs)[i]? = some r ∧ v = .str (r ++ "\n")) (fun _ _ _ _ _ h => h) ?_ ?_
    · intro i x H3 QB QV hx s3 _ qv
      obtain ⟨r, hri, rfl⟩ := map_at hx
      have hrl := (htx r (List.mem_of_getElem? hri)).len
      walk_at "ts"
      refine ⟨rfl, ?_⟩
      walk_at "ts"
      refine Ts.q_addS (by rw [l_nl]; omega) ?_
      exact qv _ _ rfl (Same.refl _) ⟨r, hri, rfl⟩
    intro ys pj HJ sHJ _ hpj prj
    rw [filt_all, List.length_map] at prj
    have eyj := Ts.paired_eq (f := fun r : Str => V.str (r ++ "\n")) (Ts.flip_ (Ts.paired_range (R := fun v (r : Str) => v = V.str (r ++ "\n")) prj))
    have eyj2 : ys = ((rs).map fun r : Str => r ++ ("\n" : Str)).map V.str := by rw [eyj, List.map_map]; rfl
    rw [eyj2] at hpj
    refine ⟨"", pj, (rs).map fun r : Str => r ++ ("\n" : Str), rfl, rfl, .inl (sqL_of hpj), ?_, ?_⟩
    · have h1 := txRows_sum htx
      have h2 : ("" : Str).length = 0 := by decide +kernel
      rw [h2, List.length_map]
      omega
    rw [TL.join_eq, txRows_join]
    obtain ⟨hasc, htl, hrun⟩ := txRows_ok htx
    have haJ : HJ a = some (.lst (rs.map V.str)) := sHJ _ _ ha
    generalize txRows rs = tx at *
    clear hpj prj eyj eyj2
    walk_at "ts"
    refine Ts.q_lenS (Ts.size_of (by omega)) ?_
    walk_at "ts"
    rename_i y ey y0 y1 mx mx0 mx1 mxo
    have a0 := Int.emod_nonneg y (show mx ≠ 0 by omega)
    have a1 := Int.emod_lt_of_pos y (show 0 < mx by omega)
    obtain ⟨at_, hat⟩ : ∃ k : Nat, y % mx = (k : Int) := ⟨_, (Int.toNat_of_nonneg a0).symm⟩
    rw [hat] at a0 a1
    rw [hat]
    refine Ts.q_iteD (fun h1 => ?_) (fun h1 => ?_)
    · walk_at "ts"
      rename_i z1 H4 s4 tz1 L b H5 s5 hL okL z2 tz2 pl hpl H6 s6 e6
      refine Ts.q_ixAny (sqL_of e6) (by omega) (by simp; omega) fun v hv => ?_
      obtain ⟨z, rfl, tz⟩ : ∃ z, v = .str z ∧ TxR z := by
        simp at hv
        rcases hv with rfl | rfl
        · exact ⟨_, rfl, tz1⟩
        · exact ⟨_, rfl, tz2⟩
      have ha6 : H6 a = some (.lst (rs.map V.str)) := s6 _ _ (s5 _ _ (s4 _ _ haJ))
      walk_at "ts"
      rename_i x ex x0 x1
      rw [List.length_map]
      have g0 := Int.emod_nonneg x (show ((rs.length : Nat) : Int) + 1 ≠ 0 by omega)
      have g1 := Int.emod_lt_of_pos x (show 0 < ((rs.length : Nat) : Int) + 1 by omega)
      obtain ⟨k, hk⟩ : ∃ k : Nat, x % (((rs.length : Nat) : Int) + 1) = (k : Int) := ⟨_, (Int.toNat_of_nonneg g0).symm⟩
      rw [hk] at g0 g1
      rw [hk]
      walk_at "ts"
      refine ⟨a, rs.map V.str, (k : Int), V.str z, rfl, rfl, ha6, Ts.size_lt (by rw [List.length_map]; omega), by omega, by omega, ?_⟩
      rw [Int.toNat_natCast, ins_map]
      generalize hH7 : upd H6 a (.lst ((rs.take k ++ [z] ++ rs.drop k).map V.str)) = H7
      have ha7 : H7 a = some (.lst ((rs.take k ++ [z] ++ rs.drop k).map V.str)) := by rw [← hH7]; exact upd_same
      obtain ⟨htx7, hl7⟩ := ins_all (k := k) htx tz
      walk_at "ts"
      refine Ts.q_tM1 ?_
      walk_at "ts"
      refine Ts.q_isTxt ?_
      walk_at "ts"
      refine Ts.q_lcL (sqL_of ha7) (by rw [List.length_map]; omega) (fun _ => true) (fun i _ v => ∃ r, (rs.take k ++ [z] ++ rs.drop k)[i]? = some r ∧ v = .str (r ++ "\n")) (fun _ _ _ _ _ h => h) ?_ ?_
      · intro i x H3 QB QV hx s3 _ qv
        obtain ⟨r, hri, rfl⟩ := map_at hx
        have hrl := (htx7 r (List.mem_of_getElem? hri)).len
        walk_at "ts"
        refine ⟨rfl, ?_⟩
        walk_at "ts"
        refine Ts.q_addS (by rw [l_nl]; omega) ?_
        exact qv _ _ rfl (Same.refl _) ⟨r, hri, rfl⟩
      intro ys pj HK sHK _ hpj prj
      rw [filt_all, List.length_map] at prj
      have eyj := Ts.paired_eq (f := fun r : Str => V.str (r ++ "\n")) (Ts.flip_ (Ts.paired_range (R := fun v (r : Str) => v = V.str (r ++ "\n")) prj))
      have eyj2 : ys = ((rs.take k ++ [z] ++ rs.drop k).map fun r : Str => r ++ ("\n" : Str)).map V.str := by rw [eyj, List.map_map]; rfl
      rw [eyj2] at hpj
      refine ⟨"", pj, (rs.take k ++ [z] ++ rs.drop k).map fun r : Str => r ++ ("\n" : Str), rfl, rfl, .inl (sqL_of hpj), ?_, ?_⟩
      · have h1 := txRows_sum htx7
        have h2 : ("" : Str).length = 0 := by decide +kernel
        rw [h2, List.length_map]
        omega
      rw [TL.join_eq, txRows_join]
      obtain ⟨b1, b2, b3⟩ := txRows_ok htx7
      exact q _ _ (tx_of b1 (by omega) b3)
    walk_at "ts toif"
    refine Ts.q_joinS (fun σ' H' => σ' = [some (.ref a), some (.int c), some (.str tx), some (.int (at_ : Int)), none, none, none] ∧ H' = HJ) ?_ ?_
    rotate_left
    · intro nx' hnx
      walk_at "ts"
      refine Ts.q_iteD (fun h2 => ?_) (fun h2 => ?_)
      · walk_at "ts"
        refine Ts.q_iteN (fun h3 => ?_) (fun h3 => ?_)
        · have hpos : 0 < tx.length := by
            rw [tl_len]
            exact List.length_pos_iff.mpr fun h => h3 (emp_tl.mpr h)
          walk_at "ts"
          rename_i z1 az1 lz1
          refine q_ixAsc hasc (by omega) a0 (by omega) fun d1 hd1 => ?_
          walk_at "ts"
          refine q_ixAsc hasc (by omega) a0 (by omega) fun d2 hd2 => ?_
          have l1 : (⟨#[d1]⟩ : Str).length = 1 := rfl
          have l2 : (⟨#[d2]⟩ : Str).length = 1 := rfl
          refine Ts.q_addS (by omega) ?_
          walk_at "ts"
          rename_i pl hpl H6 s6 e6
          refine Ts.q_ixAny (sqL_of e6) (by omega) (by simp; omega) fun v hv => ?_
          obtain ⟨z, rfl, az, lz⟩ : ∃ z, v = .str z ∧ Asc z ∧ z.length ≤ 2 := by
            simp only [List.mem_cons, List.not_mem_nil, or_false] at hv
            rcases hv with rfl | rfl | rfl
            · exact ⟨_, rfl, az1, by omega⟩
            · exact ⟨_, rfl, low_empty.asc, by decide +kernel⟩
            · exact ⟨_, rfl, (asc_one hd1).app (asc_one hd2), by rw [PySem.strLen_append]; omega⟩
          have c1 := cutS_length tx none (some (at_ : Int))
          have c2 := cutS_length tx (some ((at_ + 1 : Nat) : Int)) none
          walk_at "ts"
          refine Ts.q_slS (by omega) ?_
          walk_at "ts"
          refine Ts.q_addS (by omega) ?_
          walk_at "ts"
          rw [show (at_ : Int) + 1 = ((at_ + 1 : Nat) : Int) by omega]
          refine Ts.q_slS (by omega) ?_
          refine Ts.q_addS (by rw [PySem.strLen_append]; omega) ?_
          exact q _ _ (tx_spoil hasc (by omega) hrun az lz)
        · walk_at "ts"
          exact hnx _ _ ⟨rfl, rfl⟩
      · walk_at "ts"
        exact hnx _ _ ⟨rfl, rfl⟩
    rintro σ' H' ⟨rfl, rfl⟩
    walk_at "ts toif"
    refine Ts.q_joinS (fun σ' H2 => σ' = [some (.ref a), some (.int c), some (.str tx), some (.int (at_ : Int)), none, none, none] ∧ H2 = H') ?_ ?_
    rotate_left
    · intro nx' hnx
      walk_at "ts"
      refine Ts.q_iteD (fun h2 => ?_) (fun h2 => ?_)
      · walk_at "ts"
        refine Ts.q_iteN (fun h3 => ?_) (fun h3 => ?_)
        · have hpos : 0 < tx.length := by
            rw [tl_len]
            exact List.length_pos_iff.mpr fun h => h3 (emp_tl.mpr h)
          walk_at "ts"
          refine q_ixAsc hasc (by omega) a0 (by omega) fun d1 hd1 => ?_
          walk_at "ts"
          refine q_inSg fun bb => ?_
          walk_at "ts"
          cases bb with
          | true =>
            have c1 := cutS_length tx none (some (at_ : Int))
            have c2 := cutS_length tx (some (at_ : Int)) none
            have l0 : ("0" : Str).length = 1 := by decide +kernel
            walk_at "ts"
            refine Ts.q_slS (by omega) ?_
            walk_at "ts"
            refine Ts.q_addS (by omega) ?_
            walk_at "ts"
            refine Ts.q_slS (by omega) ?_
            refine Ts.q_addS (by rw [PySem.strLen_append]; omega) ?_
            exact q _ _ (tx_spoil hasc (by omega) hrun (asc_by (by decide +kernel)) (by omega))
          | false =>
            walk_at "ts"
            exact hnx _ _ ⟨rfl, rfl⟩
        · walk_at "ts"
          exact hnx _ _ ⟨rfl, rfl⟩
      · walk_at "ts"
        exact hnx _ _ ⟨rfl, rfl⟩
    rintro σ' H2 ⟨rfl, rfl⟩
    walk_at "ts"
    refine Ts.q_iteD (fun h4 => ?_) (fun h4 => ?_)
    · walk_at "ts"
      refine Ts.q_lenS (Ts.size_of (by omega)) ?_
      walk_at "ts"
      refine Ts.q_slS (by omega) ?_
      by_cases hz : tx.length = 0
      · have c1 := cutS_length tx none (some (((tx.length : Nat) : Int) - 1))
        refine q _ _ ⟨hasc.cut, by omega, (RunB.len _).le ?_⟩
        rw [← tl_len]
        omega
      · rw [show ((tx.length : Nat) : Int) - 1 = ((tx.length - 1 : Nat) : Int) by omega]
        exact q _ _ (tx_head hasc (by omega) hrun)
    walk_at "ts"
    refine Ts.q_iteD (fun h5 => ?_) (fun h5 => ?_)
    · walk_at "ts"
      rename_i xa exa xa0 xa1 La ba Ha sa hLa okLa za tza
      rw [List.length_map]
      have haA : Ha a = some (.lst (rs.map V.str)) := sa _ _ haJ
      have g0 := Int.emod_nonneg xa (show ((rs.length : Nat) : Int) + 1 ≠ 0 by omega)
      have g1 := Int.emod_lt_of_pos xa (show 0 < ((rs.length : Nat) : Int) + 1 by omega)
      obtain ⟨k1, hk1⟩ : ∃ k : Nat, xa % (((rs.length : Nat) : Int) + 1) = (k : Int) := ⟨_, (Int.toNat_of_nonneg g0).symm⟩
      rw [hk1] at g0 g1
      rw [hk1]
      walk_at "ts"
      refine ⟨a, rs.map V.str, (k1 : Int), V.str za, rfl, rfl, haA, Ts.size_lt (by rw [List.length_map]; omega), by omega, by omega, ?_⟩
      rw [Int.toNat_natCast, ins_map]
      generalize hH7 : upd Ha a (.lst ((rs.take k1 ++ [za] ++ rs.drop k1).map V.str)) = H7
      have ha7 : H7 a = some (.lst ((rs.take k1 ++ [za] ++ rs.drop k1).map V.str)) := by rw [← hH7]; exact upd_same
      obtain ⟨htx7, hl7⟩ := ins_all (k := k1) htx tza
      generalize rs.take k1 ++ [za] ++ rs.drop k1 = rs7 at *
      walk_at "ts"
      rename_i z1 H4 s4 tz1 L b H5 s5 hL okL z2 tz2 pl hpl H6 s6 e6
      refine Ts.q_ixAny (sqL_of e6) (by omega) (by simp; omega) fun v hv => ?_
      obtain ⟨z, rfl, tz⟩ : ∃ z, v = .str z ∧ TxR z := by
        simp at hv
        rcases hv with rfl | rfl
        · exact ⟨_, rfl, tz1⟩
        · exact ⟨_, rfl, tz2⟩
      have ha6 : H6 a = some (.lst (rs7.map V.str)) := s6 _ _ (s5 _ _ (s4 _ _ ha7))
      walk_at "ts"
      rename_i x ex x0 x1
      rw [List.length_map]
      have g0 := Int.emod_nonneg x (show ((rs7.length : Nat) : Int) + 1 ≠ 0 by omega)
      have g1 := Int.emod_lt_of_pos x (show 0 < ((rs7.length : Nat) : Int) + 1 by omega)
      obtain ⟨k2, hk2⟩ : ∃ k : Nat, x % (((rs7.length : Nat) : Int) + 1) = (k : Int) := ⟨_, (Int.toNat_of_nonneg g0).symm⟩
      rw [hk2] at g0 g1
      rw [hk2]
      walk_at "ts"
      refine ⟨a, rs7.map V.str, (k2 : Int), V.str z, rfl, rfl, ha6, Ts.size_lt (by rw [List.length_map]; omega), by omega, by omega, ?_⟩
      rw [Int.toNat_natCast, ins_map]
      generalize hH8 : upd H6 a (.lst ((rs7.take k2 ++ [z] ++ rs7.drop k2).map V.str)) = H8
      have ha8 : H8 a = some (.lst ((rs7.take k2 ++ [z] ++ rs7.drop k2).map V.str)) := by rw [← hH8]; exact upd_same
      obtain ⟨htx8, hl8⟩ := ins_all (k := k2) htx7 tz
      generalize rs7.take k2 ++ [z] ++ rs7.drop k2 = rs8 at *
      walk_at "ts"
      refine Ts.q_tM1 ?_
      walk_at "ts"
      refine Ts.q_isTxt ?_
      walk_at "ts"
      refine Ts.q_lcL (sqL_of ha8) (by rw [List.length_map]; omega) (fun _ => true) (fun i _ v => ∃ r, (rs8)[i]? = some r ∧ v = .str (r ++ "\n")) (fun _ _ _ _ _ h => h) ?_ ?_
      · intro i x H3 QB QV hx s3 _ qv
        obtain ⟨r, hri, rfl⟩ := map_at hx
        have hrl := (htx8 r (List.mem_of_getElem? hri)).len
        walk_at "ts"
        refine ⟨rfl, ?_⟩
        walk_at "ts"
        refine Ts.q_addS (by rw [l_nl]; omega) ?_
        exact qv _ _ rfl (Same.refl _) ⟨r, hri, rfl⟩
      intro ys pj HL sHL _ hpj prj
      rw [filt_all, List.length_map] at prj
      have eyj := Ts.paired_eq (f := fun r : Str => V.str (r ++ "\n")) (Ts.flip_ (Ts.paired_range (R := fun v (r : Str) => v = V.str (r ++ "\n")) prj))
      have eyj2 : ys = ((rs8).map fun r : Str => r ++ ("\n" : Str)).map V.str := by rw [eyj, List.map_map]; rfl
      rw [eyj2] at hpj
      refine ⟨"", pj, (rs8).map fun r : Str => r ++ ("\n" : Str), rfl, rfl, .inl (sqL_of hpj), ?_, ?_⟩
      · have h1 := txRows_sum htx8
        have h2 : ("" : Str).length = 0 := by decide +kernel
        rw [h2, List.length_map]
        omega
      rw [TL.join_eq, txRows_join]
      obtain ⟨b1, b2, b3⟩ := txRows_ok htx8
      exact q _ _ (tx_of b1 (by omega) b3)
    · walk_at "ts"
      exact q _ _ (tx_of hasc (by omega) hrun)

end Law


namespace Law
open PySem PySem.Spec PyProof.Rows L2 Ts
variable {P : Program} {w : World} {K : PySem.W.Frag} {mg : Str → Option Value} {base : Heap}
local macro_rules | `(tactic| walk_at "ts call") => `(tactic| ((with_reducible apply c_l_cell_at); (focus walk_at "ts sq"); (focus omega); intro z ez))
local macro_rules | `(tactic| walk_at "ts call") => `(tactic| ((with_reducible apply c_l_mix); intro z ez z0 z1))
local macro_rules | `(tactic| walk_at "ts call") => `(tactic| ((with_reducible apply c_l_big); intro z H2 z0 z1 sz))
local macro_rules | `(tactic| walk_at "ts call") => `(tactic| with_reducible apply c_l_whole)
local macro_rules | `(tactic| walk_at "ts call") => `(tactic| ((with_reducible apply c_l_word); (focus omega); (focus omega); intro z hz lz))
local macro_rules | `(tactic| walk_at "ts call") => `(tactic| ((with_reducible apply c_l_names); intro b k p H2 lb lb2 s2 hp))
local macro_rules | `(tactic| walk_at "ts call") => `(tactic| ((with_reducible apply c_l_letter); (focus walk_at "ts sq"); (focus first | assumption | omega | (simp; omega)); (focus assumption); (focus omega); intro L b H2 s2 hL nL okL))
local macro_rules | `(tactic| walk_at "ts call") => `(tactic| ((with_reducible apply c_l_sign); intro z az lz))
local macro_rules | `(tactic| walk_at "ts call") => `(tactic| ((with_reducible apply c_l_odd); intro z H2 s2 tz))
local macro_rules | `(tactic| walk_at "ts call") => `(tactic| ((with_reducible apply c_l_none); intro L b H2 s2 hL okL))
local macro_rules | `(tactic| walk_at "ts txl") => `(tactic| (simp only [PySem.strLen_append, Ts.l_sent, Ts.l_back, Ts.l_swears, Ts.l_to, Ts.l_nl, Ts.l_emp]; omega))
local macro_rules | `(tactic| walk_at "ts tx") => `(tactic| repeat first | walk_at "ts 1" | with_reducible apply Ts.q_tJoin | with_reducible apply Ts.q_jsCons | with_reducible apply Ts.q_jsNil | with_reducible apply Ts.q_fmtS | ((with_reducible refine Ts.q_orS ?hl ?_); (case hl => omega)) | ((with_reducible refine Ts.q_orI ?hl ?_); (case hl => assumption)) | ((with_reducible refine Ts.q_jsPart ?hl ?_); (case hl => walk_at "ts txl")))
local macro_rules | `(tactic| walk_at "ts call") => `(tactic| ((with_reducible apply c_l_row); (focus first | assumption | walk_at "ts hp"); (focus assumption); intro z tz))

/-! ### which error it is: the law's word for the held error's class -/
def kindWords : List V := [.str "name", .str "letter", .str "off", .str "early", .str "count", .str "none", .str "wide", .str "many", .str "clock", .str "text"]
/-- the class at D is the j-th of the ten, and none else of them -/
structure KindE (T : Lw K mg) (D : Addr) (j : Nat) : Prop where
  x : ExK K D
  i0 : PySem.W.kitOne K (.ref D) (.ref T.C_BadName) = some (decide (j = 0))
  i1 : PySem.W.kitOne K (.ref D) (.ref T.C_BadLetter) = some (decide (j = 1))
  i2 : PySem.W.kitOne K (.ref D) (.ref T.C_BadOff) = some (decide (j = 2))
  i3 : PySem.W.kitOne K (.ref D) (.ref T.C_TooEarly) = some (decide (j = 3))
  i4 : PySem.W.kitOne K (.ref D) (.ref T.C_BadCount) = some (decide (j = 4))
  i5 : PySem.W.kitOne K (.ref D) (.ref T.C_NoAgreement) = some (decide (j = 5))
  i6 : PySem.W.kitOne K (.ref D) (.ref T.C_TooWide) = some (decide (j = 6))
  i7 : PySem.W.kitOne K (.ref D) (.ref T.C_TooMany) = some (decide (j = 7))
  i8 : PySem.W.kitOne K (.ref D) (.ref T.C_NoClock) = some (decide (j = 8))
  i9 : PySem.W.kitOne K (.ref D) (.ref T.C_NoText) = some (decide (j = 9))
  iV : PySem.W.kitOne K (.ref D) (.type "ValueError") = some true
def gKind (T : Lw K mg) : Value → Hp → VK → Prop := fun cls H Q => ∃ (D : Addr) (j : Nat) (z : Str), cls = .ref D ∧ KindE T D j ∧ kindWords[j]? = some (.str z) ∧ ∀ H', Same H H' → Q (.str z) H'
theorem q_isE {a D C : Addr} {H : Hp} {Q : VK} {b : Bool} (h : PySem.W.kitOne K (.ref D) (.ref C) = some b) (q : Q (.bl b) H) : rIsE K D a [.ref a, .ref C] H Q := ⟨.ref C, .ref C, b, rfl, fun _ r => r, h, q⟩
theorem q_isV {a D : Addr} {n : String} {H : Hp} {Q : VK} {b : Bool} (h : PySem.W.kitOne K (.ref D) (.type n) = some b) (q : Q (.bl b) H) : rIsE K D a [.ref a, .ty n] H Q := ⟨.ty n, .type n, b, rfl, fun _ r => r, h, q⟩
theorem kind_count (j : Nat) (hj : j < 10) : [V.bl (decide (j = 0)), .bl (decide (j = 1)), .bl (decide (j = 2)), .bl (decide (j = 3)), .bl (decide (j = 4)), .bl (decide (j = 5)), .bl (decide (j = 6)), .bl (decide (j = 7)), .bl (decide (j = 8)), .bl (decide (j = 9))].countP (fun z => eqV z (.bl true)) = 1 := by
  have : ∀ j : Fin 10, [V.bl (decide (j.val = 0)), .bl (decide (j.val = 1)), .bl (decide (j.val = 2)), .bl (decide (j.val = 3)), .bl (decide (j.val = 4)), .bl (decide (j.val = 5)), .bl (decide (j.val = 6)), .bl (decide (j.val = 7)), .bl (decide (j.val = 8)), .bl (decide (j.val = 9))].countP (fun z => eqV z (.bl true)) = 1 := by decide
  exact this ⟨j, hj⟩
theorem kind_at (j : Nat) (hj : j < 10) : ∃ z, [V.bl (decide (j = 0)), .bl (decide (j = 1)), .bl (decide (j = 2)), .bl (decide (j = 3)), .bl (decide (j = 4)), .bl (decide (j = 5)), .bl (decide (j = 6)), .bl (decide (j = 7)), .bl (decide (j = 8)), .bl (decide (j = 9))][j]? = some z ∧ eqV z (.bl true) = true := by
  have : ∀ j : Fin 10, ([V.bl (decide (j.val = 0)), .bl (decide (j.val = 1)), .bl (decide (j.val = 2)), .bl (decide (j.val = 3)), .bl (decide (j.val = 4)), .bl (decide (j.val = 5)), .bl (decide (j.val = 6)), .bl (decide (j.val = 7)), .bl (decide (j.val = 8)), .bl (decide (j.val = 9))][j.val]?) = some (.bl true) := by decide
  exact ⟨_, this ⟨j, hj⟩, rfl⟩
theorem kind_no (j m : Nat) (hj : j < 10) (hm : m < j) (z : V) (h : [V.bl (decide (j = 0)), .bl (decide (j = 1)), .bl (decide (j = 2)), .bl (decide (j = 3)), .bl (decide (j = 4)), .bl (decide (j = 5)), .bl (decide (j = 6)), .bl (decide (j = 7)), .bl (decide (j = 8)), .bl (decide (j = 9))][m]? = some z) : eqV z (.bl true) = false := by
  have : ∀ j m : Fin 10, m.val < j.val → ([V.bl (decide (j.val = 0)), .bl (decide (j.val = 1)), .bl (decide (j.val = 2)), .bl (decide (j.val = 3)), .bl (decide (j.val = 4)), .bl (decide (j.val = 5)), .bl (decide (j.val = 6)), .bl (decide (j.val = 7)), .bl (decide (j.val = 8)), .bl (decide (j.val = 9))][m.val]?) = some (.bl false) := by decide
  have e := (this ⟨j, hj⟩ ⟨m, by omega⟩ hm).symm.trans h
  cases e
  rfl
theorem ok_l_kind (T : Lw K mg) : FnE P w K mg base 1 T.f_l_kind T.fd_l_kind "_law_e" (gKind T) := by
  refine Ts.Fun.okE T.d_l_kind.F sc_l_kind (fun cdv A outer s H Q a oe cls hr hz hf h => ?_)
  obtain ⟨D, j, z, rfl, kd, hw, q⟩ := h
  have hj : j < 10 := by
    have := (List.getElem?_eq_some_iff.mp hw).1
    exact this
  refine ⟨_, (pss_cons (ps_asg (pe_lst (pa_cons (pe_callB (Ts.call_isP List.mem_cons_self kd.x.c hz hf) (by rfl) T.n_isinstance (by decide +kernel) (pa_cons (pv 0) (pa_cons (pe_glob (v := .ref T.C_BadName) rfl T.m_BadName rfl) pa_nil))) (pa_cons (pe_callB (Ts.call_isP List.mem_cons_self kd.x.c hz hf) (by rfl) T.n_isinstance (by decide +kernel) (pa_cons (pv 0) (pa_cons (pe_glob (v := .ref T.C_BadLetter) rfl T.m_BadLetter rfl) pa_nil))) (pa_cons (pe_callB (Ts.call_isP List.mem_cons_self kd.x.c hz hf) (by rfl) T.n_isinstance (by decide +kernel) (pa_cons (pv 0) (pa_cons (pe_glob (v := .ref T.C_BadOff) rfl T.m_BadOff rfl) pa_nil))) (pa_cons (pe_callB (Ts.call_isP List.mem_cons_self kd.x.c hz hf) (by rfl) T.n_isinstance (by decide +kernel) (pa_cons (pv 0) (pa_cons (pe_glob (v := .ref T.C_TooEarly) rfl T.m_TooEarly rfl) pa_nil))) pa_nil))))) (pg_name (i := 1) sc_l_kind.nd rfl (by first | exact Or.inl rfl | exact Or.inr rfl))) (pss_cons (ps_asg (pe_op op_cat (pv 1) (pe_lst (pa_cons (pe_callB (Ts.call_isP List.mem_cons_self kd.x.c hz hf) (by rfl) T.n_isinstance (by decide +kernel) (pa_cons (pv 0) (pa_cons (pe_glob (v := .ref T.C_BadCount) rfl T.m_BadCount rfl) pa_nil))) (pa_cons (pe_callB (Ts.call_isP List.mem_cons_self kd.x.c hz hf) (by rfl) T.n_isinstance (by decide +kernel) (pa_cons (pv 0) (pa_cons (pe_glob (v := .ref T.C_NoAgreement) rfl T.m_NoAgreement rfl) pa_nil))) (pa_cons (pe_callB (Ts.call_isP List.mem_cons_self kd.x.c hz hf) (by rfl) T.n_isinstance (by decide +kernel) (pa_cons (pv 0) (pa_cons (pe_glob (v := .ref T.C_TooWide) rfl T.m_TooWide rfl) pa_nil))) pa_nil))))) (pg_name (i := 1) sc_l_kind.nd rfl (by first | exact Or.inl rfl | exact Or.inr rfl))) (pss_cons (ps_asg (pe_op op_cat (pv 1) (pe_lst (pa_cons (pe_callB (Ts.call_isP List.mem_cons_self kd.x.c hz hf) (by rfl) T.n_isinstance (by decide +kernel) (pa_cons (pv 0) (pa_cons (pe_glob (v := .ref T.C_TooMany) rfl T.m_TooMany rfl) pa_nil))) (pa_cons (pe_callB (Ts.call_isP List.mem_cons_self kd.x.c hz hf) (by rfl) T.n_isinstance (by decide +kernel) (pa_cons (pv 0) (pa_cons (pe_glob (v := .ref T.C_NoClock) rfl T.m_NoClock rfl) pa_nil))) (pa_cons (pe_callB (Ts.call_isP List.mem_cons_self kd.x.c hz hf) (by rfl) T.n_isinstance (by decide +kernel) (pa_cons (pv 0) (pa_cons (pe_glob (v := .ref T.C_NoText) rfl T.m_NoText rfl) pa_nil))) pa_nil))))) (pg_name (i := 1) sc_l_kind.nd rfl (by first | exact Or.inl rfl | exact Or.inr rfl))) (pss_cons (ps_if (PW.pt (pw_or (pt_cmpR op_ne (pe_bm PySem.F.plainAttrs_list PySem.F.slot_list_count PySem.F.type_list_count (Ts.mt_countK K) (pv 1) (pa_cons pe_bl pa_nil)) pe_int (nomark _)) (pw_or1 (pt_not (pt_val (pe_callB (Ts.call_isP List.mem_cons_self kd.x.c hz hf) (by rfl) T.n_isinstance (by decide +kernel) (pa_cons (pv 0) (pa_cons (pe_bltn (v := .ty "ValueError") (by rfl) T.n_ValueError (by decide +kernel) rfl) pa_nil)))))))) (pss_one (ps_ret pe_str)) pss_nil) (pss_cons (ps_asg (pe_lst (pa_cons pe_str (pa_cons pe_str (pa_cons pe_str (pa_cons pe_str (pa_cons pe_str (pa_cons pe_str (pa_cons pe_str (pa_cons pe_str (pa_cons pe_str (pa_cons pe_str pa_nil))))))))))) (pg_name (i := 2) sc_l_kind.nd rfl (by first | exact Or.inl rfl | exact Or.inr rfl))) (pss_one (ps_ret (pe_ix (Ts.ix_listK K) (pv 2) (pe_bm PySem.F.plainAttrs_list PySem.F.slot_list_index PySem.F.type_list_index (Ts.mt_indexK K) (pv 1) (pa_cons pe_bl pa_nil)) (fun _ _ => rfl))))))))), ?_⟩
  walk_at "ts"
  refine q_isE kd.i0 ?_
  walk_at "ts"
  refine q_isE kd.i1 ?_
  walk_at "ts"
  refine q_isE kd.i2 ?_
  walk_at "ts"
  refine q_isE kd.i3 ?_
  walk_at "ts"
  refine q_isE kd.i4 ?_
  walk_at "ts"
  refine q_isE kd.i5 ?_
  walk_at "ts"
  refine q_isE kd.i6 ?_
  walk_at "ts"
  refine Ts.q_cat (by walk_at "ts hp") (by walk_at "ts hp") (Ts.size_of (by simp)) fun p H2 sp ep => ?_
  walk_at "ts"
  refine q_isE kd.i7 ?_
  walk_at "ts"
  refine q_isE kd.i8 ?_
  walk_at "ts"
  refine q_isE kd.i9 ?_
  walk_at "ts"
  refine Ts.q_cat (by walk_at "ts hp") (by walk_at "ts hp") (Ts.size_of (by simp)) fun p2 H4 sp2 ep2 => ?_
  simp only [List.cons_append, List.nil_append] at ep2
  walk_at "ts"
  try (refine ⟨.inl ⟨rfl, _, Ts.sqL_of ep2⟩, ?_⟩; walk_at "ts")
  refine ⟨_, _, _, rfl, rfl, Ts.sqL_of ep2, rfl, rfl, ?_⟩
  rw [kind_count j hj]
  walk_at "ts"
  try refine Ts.iteN_no rfl ?_
  walk_at "ts"
  refine q_isV kd.iV ?_
  walk_at "ts"
  obtain ⟨z', hz1, hz2⟩ := kind_at j hj
  try (refine ⟨.inl ⟨rfl, _, Ts.sqL_of (by walk_at "ts hp")⟩, ?_⟩; walk_at "ts")
  refine ⟨_, _, _, j, z', rfl, rfl, Ts.sqL_of (by walk_at "ts hp"), rfl, rfl, hz1, hz2, fun m z'' hm h' => kind_no j m hj hm z'' h', ?_⟩
  refine Ts.q_ixL (by walk_at "ts sq") (atI_nat hw) ?_
  exact q _ (by walk_at "ts same")

theorem kd_BadName (T : Lw K mg) : KindE T T.C_BadName 0 := ⟨T.x_BadName, T.i_BadName_BadName, T.i_BadName_BadLetter, T.i_BadName_BadOff, T.i_BadName_TooEarly, T.i_BadName_BadCount, T.i_BadName_NoAgreement, T.i_BadName_TooWide, T.i_BadName_TooMany, T.i_BadName_NoClock, T.i_BadName_NoText, T.i_BadName_ValueError⟩

theorem kd_BadLetter (T : Lw K mg) : KindE T T.C_BadLetter 1 := ⟨T.x_BadLetter, T.i_BadLetter_BadName, T.i_BadLetter_BadLetter, T.i_BadLetter_BadOff, T.i_BadLetter_TooEarly, T.i_BadLetter_BadCount, T.i_BadLetter_NoAgreement, T.i_BadLetter_TooWide, T.i_BadLetter_TooMany, T.i_BadLetter_NoClock, T.i_BadLetter_NoText, T.i_BadLetter_ValueError⟩

theorem kd_NoText (T : Lw K mg) : KindE T T.C_NoText 9 := ⟨T.x_NoText, T.i_NoText_BadName, T.i_NoText_BadLetter, T.i_NoText_BadOff, T.i_NoText_TooEarly, T.i_NoText_BadCount, T.i_NoText_NoAgreement, T.i_NoText_TooWide, T.i_NoText_TooMany, T.i_NoText_NoClock, T.i_NoText_NoText, T.i_NoText_ValueError⟩

/-! ### what read tells -/
def sp_l_told : Sp := fun vs H Q _ => ∃ t : Str, vs = [.str t] ∧ TxOk t ∧
  (ReadW t "" → ∀ p pl ys H', Same H H' → H pl = none → H' p = some (.tup [.ref pl, .str ""]) → H' pl = some (.lst ys) → Lts H' ys (ltrsOf t) → Q (.ref p) H') ∧
  (∀ z p pl H', ReadW t z → z ≠ "" → Same H H' → H' p = some (.tup [.ref pl, .str z]) → Q (.ref p) H')
theorem c_l_told {t : Str} {H : Hp} {Q : VK} {E : XK} (h : TxOk t) (q : ReadW t "" → ∀ p pl ys H', Same H H' → H pl = none → H' p = some (.tup [.ref pl, .str ""]) → H' pl = some (.lst ys) → Lts H' ys (ltrsOf t) → Q (.ref p) H')
    (e : ∀ z p pl H', ReadW t z → z ≠ "" → Same H H' → H' p = some (.tup [.ref pl, .str z]) → Q (.ref p) H') : sp_l_told ([.str t] ++ []) H Q E := ⟨t, rfl, h, q, e⟩
theorem ok_l_told (T : Lw K mg) : FnOk P w K mg base CX0 4 T.f_l_told T.fd_l_told ["_law_text"] sp_l_told := by
  refine T.d_l_told.F.ok sc_l_told (fun vs H Q E h => ?_) (fun cdv A outer s H vs Q E hr h => ?_)
  · obtain ⟨t, rfl, _⟩ := h
    rfl
  · obtain ⟨t, rfl, ht, q, e⟩ := h
    refine ⟨_, (pss_one (ps_try_as (i := 1) rfl rfl sc_l_told.nd rfl rfl ⟨rfl, by decide, .inl T.m_StretchError⟩ takes0 (fun W pn xe tk _ => (pss_one (ps_ret (pe_tup (pa_cons (pe_callS ((ok_read T).mono (by decide)) hr rfl T.m_read T.d_read.F.kp T.d_read.b (fun z => passAt tk z) (pa_cons (pv 0) pa_nil)) (pa_cons pe_str pa_nil)))))) (fun a oe cls d pn hz hf => (pss_one (ps_ret (pe_tup (pa_cons (pe_lst pa_nil) (pa_cons (pe_callE (ok_l_kind T) ⟨(hr.mono (j := 1) (by decide)).dp, (hr.mono (j := 1) (by decide)).un⟩ List.mem_cons_self hz hf rfl T.m_l_kind T.d_l_kind.F.kp T.d_l_kind.b (pv 1)) pa_nil)))))))), ?_⟩
    show tRet _ _ _ _
    walk_at "ts"
    refine ⟨t, rfl, ht, fun hok hg ys p H1 s1 hfr hp hls => ?_, fun hw H1 s1 => ?_, fun hw H1 s1 => ?_, fun hw H1 s1 => ?_⟩
    · walk_at "ts"
      rename_i pt hpt H2 s2 e2
      exact q (.inr (.inr ⟨hok, hg, rfl⟩)) pt p ys H2 (s1.trans s2) hfr e2 (s2 _ _ hp) (hls.mono (tsame_of s2))
    · refine ⟨true, T.t_NoText, fun _ a2 na => ?_, fun z => nomatch z⟩
      walk_at "ts"
      rename_i p0 hp0 H2 s2 e2
      refine ⟨rfl, rfl, T.C_NoText, 9, "text", rfl, kd_NoText T, rfl, fun H3 s3 => ?_⟩
      walk_at "ts"
      exact e "text" _ _ _ hw (by decide +kernel) (by walk_at "ts same") (by assumption)
    · refine ⟨true, T.t_BadName, fun _ a2 na => ?_, fun z => nomatch z⟩
      walk_at "ts"
      rename_i p0 hp0 H2 s2 e2
      refine ⟨rfl, rfl, T.C_BadName, 0, "name", rfl, kd_BadName T, rfl, fun H3 s3 => ?_⟩
      walk_at "ts"
      exact e "name" _ _ _ hw (by decide +kernel) (by walk_at "ts same") (by assumption)
    · refine ⟨true, T.t_BadLetter, fun _ a2 na => ?_, fun z => nomatch z⟩
      walk_at "ts"
      rename_i p0 hp0 H2 s2 e2
      refine ⟨rfl, rfl, T.C_BadLetter, 1, "letter", rfl, kd_BadLetter T, rfl, fun H3 s3 => ?_⟩
      walk_at "ts"
      exact e "letter" _ _ _ hw (by decide +kernel) (by walk_at "ts same") (by assumption)

/-! ### letters are tuples of a text and four numbers -/
def sp_l_kinds : Sp := fun vs H Q _ => ∃ (a : Addr) (xs : List V) (ls : List Ltr), vs = [.ref a] ∧ H a = some (.lst xs) ∧ Lts H xs ls ∧ ∀ H', Same H H' → Q (.bl true) H'
theorem c_l_kinds {a : Addr} {xs : List V} {ls : List Ltr} {H : Hp} {Q : VK} {E : XK} (h : H a = some (.lst xs)) (hl : Lts H xs ls) (q : ∀ H', Same H H' → Q (.bl true) H') : sp_l_kinds ([.ref a] ++ []) H Q E := ⟨a, xs, ls, rfl, h, hl, q⟩
theorem ok_l_kinds (T : Lw K mg) : FnOk P w K mg base CX0 2 T.f_l_kinds T.fd_l_kinds ["_law_found"] sp_l_kinds := by
  refine T.d_l_kinds.F.ok sc_l_kinds (fun vs H Q E h => ?_) (fun cdv A outer s H vs Q E hr h => ?_)
  · obtain ⟨a, xs, ls, rfl, _⟩ := h
    rfl
  · obtain ⟨a, xs, ls, rfl, ha, hl, q⟩ := h
    refine ⟨_, (pss_cons (ps_for PassesOwn.never rfl (Ts.pi_listK K (pv 0)) (pg_name (i := 1) sc_l_kinds.nd rfl (by first | exact Or.inl rfl | exact Or.inr rfl)) (pss_cons (ps_if (PW.pt (pw_or (pt_not (pt_val (pe_callB (Ts.call_isiK' K) (by rfl) T.n_isinstance (by decide +kernel) (pa_cons (pv 1) (pa_cons (pe_bltn (v := .ty "tuple") (by rfl) T.n_tuple (by decide +kernel) rfl) pa_nil))))) (pw_or (pt_cmpR op_ne (pe_callB (Ts.call_lenK K) (by rfl) T.n_len (by decide +kernel) (pa_cons (pv 1) pa_nil)) pe_int (nomark _)) (pw_or1 (pt_not (pt_val (pe_callB (Ts.call_isiK' K) (by rfl) T.n_isinstance (by decide +kernel) (pa_cons (pe_ix (Ts.ix_tupK K) (pv 1) pe_int (fun _ _ => rfl)) (pa_cons (pe_bltn (v := .ty "str") (by rfl) T.n_str (by decide +kernel) rfl) pa_nil))))))))) (pss_one (ps_ret pe_bl)) pss_nil) (pss_one (ps_if (pt_cmpR (Ts.op_neK K hr.units) (pe_lc (own := [("_law_number_here", 2)]) rfl sc_l_kinds.nd (Ts.pi_tupK K (pe_slice (Ts.sl_tupK K) (pv 1) (po_some pe_int) po_none)) (blkOk_by (own := [("_law_number_here", 2)]) (N := N_l_kinds) (sc := defScope s_l_kinds) (by decide +kernel)) (fun _ _ _ _ _ => pg_name (i := 2) sc_l_kinds.nd rfl (Or.inl rfl)) (fun _ _ _ _ _ => pts_one (pt_not (pt_val (pe_call ((ok_l_whole T).mono (by decide)) hr rfl T.m_l_whole T.d_l_whole.F.kp T.d_l_whole.b .nil pass0 (pa_cons (pv 2) pa_nil))))) (fun _ _ _ _ _ => (pv 2))) (pe_lst pa_nil) (nomark _)) (pss_one (ps_ret pe_bl)) pss_nil)))) (pss_one (ps_ret pe_bl))), ?_⟩
    walk_at "ts"
    refine Ts.q_forL xs (sqL_of ha) (fun i σ' H' => ∃ v1 : Option V, σ' = [some (.ref a), v1, none] ∧ Same H H') ⟨none, rfl, Same.refl _⟩ (fun i σ' H' ⟨_, _, s⟩ => sqL_of (s _ _ ha)) ?_ ?_
    · rintro i x σ' H' hx ⟨v1, rfl, sH⟩
      obtain ⟨L, hLi, a', rfl, hL⟩ := Paired.at_ (hl.mono (tsame_of sH)) hx
      have hL' : H' a' = some (.tup [.str L.name, .int L.sent, .int L.back, .int L.low, .int L.high]) := hL
      walk_at "ts"
      refine Ts.q_slT1 hL' fun p2 H2 s2 e2 => ?_
      refine Ts.q_lcT (xs := [V.int L.sent, V.int L.back, V.int L.low, V.int L.high]) (sqT_of e2) (by simp) (fun _ => false) (fun _ _ _ => True) (fun _ _ _ _ _ h => h) ?_ ?_
      · intro j x H3 QB QV hx2 s3 qb _
        obtain ⟨z, rfl⟩ : ∃ z, x = V.int z := by
          have hm := List.mem_of_getElem? hx2
          simp at hm
          rcases hm with rfl | rfl | rfl | rfl <;> exact ⟨_, rfl⟩
        walk_at "ts"
        refine ⟨rfl, ?_⟩
        walk_at "ts"
        exact qb rfl _ (Same.refl _)
      intro ys p3 H3 s3 _ hp3 pr
      have hys : ys = [] := by
        have e : ((List.range [V.int L.sent, V.int L.back, V.int L.low, V.int L.high].length).filter fun _ => false) = [] := by simp
        rw [e] at pr
        cases pr
        rfl
      subst hys
      walk_at "ts"
      rename_i p4 hp4 H4 s4 e4
      refine Ts.q_neSame (d := .list []) (.lst (sqL_of (s4 _ _ hp3)) .nil) (.lst (sqL_of e4) .nil) rfl ?_
      walk_at "ts"
      exact ⟨_, rfl, ((sH.trans s2).trans s3).trans s4⟩
    · rintro σ' H' ⟨v1, rfl, sH⟩
      walk_at "ts"
      exact q H' sH

end Law


namespace Law
open PySem PySem.Spec PyProof.Rows L2 Ts
variable {P : Program} {w : World} {K : PySem.W.Frag} {mg : Str → Option Value} {base : Heap}
local macro_rules | `(tactic| walk_at "ts call") => `(tactic| ((with_reducible apply c_l_cell_at); (focus walk_at "ts sq"); (focus omega); intro z ez))
local macro_rules | `(tactic| walk_at "ts call") => `(tactic| ((with_reducible apply c_l_mix); intro z ez z0 z1))
local macro_rules | `(tactic| walk_at "ts call") => `(tactic| ((with_reducible apply c_l_big); intro z H2 z0 z1 sz))
local macro_rules | `(tactic| walk_at "ts call") => `(tactic| with_reducible apply c_l_whole)
local macro_rules | `(tactic| walk_at "ts call") => `(tactic| ((with_reducible apply c_l_word); (focus omega); (focus omega); intro z hz lz))
local macro_rules | `(tactic| walk_at "ts call") => `(tactic| ((with_reducible apply c_l_names); intro b k p H2 lb lb2 s2 hp))
local macro_rules | `(tactic| walk_at "ts call") => `(tactic| ((with_reducible apply c_l_letter); (focus walk_at "ts sq"); (focus first | assumption | omega | (simp; omega)); (focus assumption); (focus omega); intro L b H2 s2 hL nL okL))
local macro_rules | `(tactic| walk_at "ts call") => `(tactic| ((with_reducible apply c_l_sign); intro z az lz))
local macro_rules | `(tactic| walk_at "ts call") => `(tactic| ((with_reducible apply c_l_odd); intro z H2 s2 tz))
local macro_rules | `(tactic| walk_at "ts call") => `(tactic| ((with_reducible apply c_l_none); intro L b H2 s2 hL okL))
local macro_rules | `(tactic| walk_at "ts txl") => `(tactic| (simp only [PySem.strLen_append, Ts.l_sent, Ts.l_back, Ts.l_swears, Ts.l_to, Ts.l_nl, Ts.l_emp]; omega))
local macro_rules | `(tactic| walk_at "ts tx") => `(tactic| repeat first | walk_at "ts 1" | with_reducible apply Ts.q_tJoin | with_reducible apply Ts.q_jsCons | with_reducible apply Ts.q_jsNil | with_reducible apply Ts.q_fmtS | ((with_reducible refine Ts.q_orS ?hl ?_); (case hl => omega)) | ((with_reducible refine Ts.q_orI ?hl ?_); (case hl => assumption)) | ((with_reducible refine Ts.q_jsPart ?hl ?_); (case hl => walk_at "ts txl")))
local macro_rules | `(tactic| walk_at "ts call") => `(tactic| ((with_reducible apply c_l_row); (focus first | assumption | walk_at "ts hp"); (focus assumption); intro z tz))

/-! ### the law -/
def spLaw (K : PySem.W.Frag) : Sp := fun vs H Q _ => ∃ (a : Addr) (ns : List Int), vs = [.ref a] ∧ SqL K H a (ns.map V.int) ∧ ns.length ≤ 63 ∧ ∀ H', Q (.bl true) H'

theorem names_is {b : Str} {k : Nat} (h : Low b) (hl : b.length ≤ 10) : ∀ z ∈ nmList b k, IsName z := fun z hz => by
  obtain ⟨i, _, rfl⟩ := List.mem_map.mp hz
  have e := nameAt_len b k i
  refine ⟨?_, ?_, nameAt_low h⟩
  · rw [e]; split <;> omega
  · rw [e]; split <;> omega
theorem strs_of {l : List Nat} {ys : List V} (h : Paired (fun (_ : Nat) v => ∃ z, v = V.str z ∧ TxR z) l ys) : ∃ rs : List Str, ys = rs.map V.str ∧ (∀ r ∈ rs, TxR r) ∧ rs.length = l.length := by
  induction h with
  | nil => exact ⟨[], rfl, fun _ h => (List.not_mem_nil h).elim, rfl⟩
  | cons h1 _ ih =>
    obtain ⟨z, rfl, hz⟩ := h1
    obtain ⟨rs, rfl, h2, h3⟩ := ih
    refine ⟨z :: rs, rfl, fun r hr => ?_, by rw [List.length_cons, List.length_cons, h3]⟩
    rcases List.mem_cons.mp hr with rfl | hr
    · exact hz
    · exact h2 r hr
theorem read_ok {t : Str} (h : ReadW t "") : TextOk t ∧ ∀ L ∈ ltrsOf t, LtGood L := by
  rcases h with ⟨_, h⟩ | ⟨_, i, L, _, _, h⟩ | ⟨a, b, _⟩
  · exact absurd h (by decide +kernel)
  · rcases h with ⟨_, h⟩ | ⟨_, _, h⟩
    · exact absurd h (by decide +kernel)
    · exact absurd h (by decide +kernel)
  · exact ⟨a, b⟩
theorem ok_law (T : Lw K mg) : FnOk P w K mg base CX0 5 T.f_law T.fd_law ["_law_script"] (spLaw K) := by
  refine T.d_law.F.ok sc_law (fun vs H Q E h => ?_) (fun cdv A outer s H vs Q E hr h => ?_)
  · obtain ⟨a, ns, rfl, _⟩ := h
    rfl
  · obtain ⟨a, ns, rfl, hs, hlen, q⟩ := h
    refine ⟨_, (pss_cons (ps_asg (pe_call ((ok_l_names T).mono (by decide)) hr rfl T.m_l_names T.d_l_names.F.kp T.d_l_names.b .nil pass0 (pa_cons (pe_call ((ok_l_cell_at T).mono (by decide)) hr rfl T.m_l_cell_at T.d_l_cell_at.F.kp T.d_l_cell_at.b .nil pass0 (pa_cons (pv 0) (pa_cons pe_int pa_nil))) pa_nil)) (pg_name (i := 1) sc_law.nd rfl (by first | exact Or.inl rfl | exact Or.inr rfl))) (pss_cons (ps_setLc (i := 2) (own := [("_law_cell", 9)]) rfl sc_law.nd rfl rfl (sw_true rfl rfl rfl (by decide +kernel)) (Ts.pi_listK K (pe_slice (Ts.sl_listK K) (pv 0) (po_some pe_int) (po_some pe_int))) (blkOk_by (own := [("_law_cell", 9)]) (N := N_law) (sc := defScope s_law) (by decide +kernel)) (fun _ _ _ _ _ => pg_name (i := 9) sc_law.nd rfl (Or.inl rfl)) (fun _ _ _ _ _ => pts_nil) (fun _ _ _ _ _ => (pe_call ((ok_l_row T).mono (by decide)) hr rfl T.m_l_row T.d_l_row.F.kp T.d_l_row.b .nil pass0 (pa_cons (pe_call ((ok_l_letter T).mono (by decide)) hr rfl T.m_l_letter T.d_l_letter.F.kp T.d_l_letter.b .nil pass0 (pa_cons (pv 9) (pa_cons (pv 1) (pa_cons pe_int pa_nil)))) pa_nil)))) (pss_cons (ps_asg (pe_call ((ok_l_spoilt T).mono (by decide)) hr rfl T.m_l_spoilt T.d_l_spoilt.F.kp T.d_l_spoilt.b .nil pass0 (pa_cons (pv 2) (pa_cons (pe_call ((ok_l_cell_at T).mono (by decide)) hr rfl T.m_l_cell_at T.d_l_cell_at.F.kp T.d_l_cell_at.b .nil pass0 (pa_cons (pv 0) (pa_cons pe_int pa_nil))) pa_nil))) (pg_name (i := 3) sc_law.nd rfl (by first | exact Or.inl rfl | exact Or.inr rfl))) (pss_cons (ps_asg (pe_call ((ok_l_due T).mono (by decide)) hr rfl T.m_l_due T.d_l_due.F.kp T.d_l_due.b .nil pass0 (pa_cons (pv 3) pa_nil)) (Ts.pg_tupK K 2 (by rfl) (pgs_cons (pg_name (i := 4) sc_law.nd rfl (by first | exact Or.inl rfl | exact Or.inr rfl)) (pgs_cons (pg_name (i := 5) sc_law.nd rfl (by first | exact Or.inl rfl | exact Or.inr rfl)) pgs_nil)))) (pss_cons (ps_asg (pe_call ((ok_l_told T).mono (by decide)) hr rfl T.m_l_told T.d_l_told.F.kp T.d_l_told.b .nil pass0 (pa_cons (pv 3) pa_nil)) (Ts.pg_tupK K 2 (by rfl) (pgs_cons (pg_name (i := 6) sc_law.nd rfl (by first | exact Or.inl rfl | exact Or.inr rfl)) (pgs_cons (pg_name (i := 7) sc_law.nd rfl (by first | exact Or.inl rfl | exact Or.inr rfl)) pgs_nil)))) (pss_cons (ps_if (PW.pt (pw_or (pt_cmpR op_ne (pv 7) (pv 5) (nomark _)) (pw_or1 (pt_cmpR op_ne (pv 5) pe_str (nomark _))))) (pss_one (ps_ret (pe_cmpR op_eq (pv 7) (pv 5) (nomark _)))) pss_nil) (pss_cons (ps_if (PW.pt (pw_or (pt_not (pt_val (pe_callB (Ts.call_isiK' K) (by rfl) T.n_isinstance (by decide +kernel) (pa_cons (pv 6) (pa_cons (pe_bltn (v := .ty "list") (by rfl) T.n_list (by decide +kernel) rfl) pa_nil))))) (pw_or (pt_cmpR (Ts.op_neK K hr.units) (pv 6) (pv 4) (nomark _)) (pw_or1 (pt_not (pt_val (pe_call ((ok_l_kinds T).mono (by decide)) hr rfl T.m_l_kinds T.d_l_kinds.F.kp T.d_l_kinds.b .nil pass0 (pa_cons (pv 6) pa_nil)))))))) (pss_one (ps_ret pe_bl)) pss_nil) (pss_cons (ps_asg (pe_call ((ok_read T).mono (by decide)) hr rfl T.m_read T.d_read.F.kp T.d_read.b .nil Ts.pass_never (pa_cons (pv 3) pa_nil)) (pg_name (i := 8) sc_law.nd rfl (by first | exact Or.inl rfl | exact Or.inr rfl))) (pss_cons (ps_expr (pe_bm0 PySem.F.plainAttrs_list PySem.F.slot_list_clear PySem.F.type_list_clear mt_clear (pv 6))) (pss_one (ps_ret (pe_and (pe_cmpR (Ts.op_eqK K hr.units) (pv 8) (pv 4) (nomark _)) (pe_one (pe_cmpR (Ts.op_eqK K hr.units) (pe_call ((ok_read T).mono (by decide)) hr rfl T.m_read T.d_read.F.kp T.d_read.b .nil Ts.pass_never (pa_cons (pv 3) pa_nil)) (pv 4) (nomark _))))))))))))))), ?_⟩
    walk_at "ts"
    rename_i zc0 ezc0 b k pn Hn lb lb2 sn hpn
    have hnm := names_is (k := k) lb lb2
    have hnl : ((nmList b k).length : Int) = 42 := by simp [nmList]
    refine q_slLst (sn.seq hs) fun pc H2 s2 _ e2 => ?_
    have hcl : (cutV (ns.map V.int) (some 2) (some 32)).length ≤ 30 := by
      unfold cutV
      have h1 : HT.sIx (ns.map V.int).length 0 (some 2) = min 2 (ns.map V.int).length := HT.sIx_nat ..
      have h2 : HT.sIx (ns.map V.int).length (ns.map V.int).length (some 32) = min 32 (ns.map V.int).length := HT.sIx_nat ..
      rw [h1, h2, List.length_take, List.length_drop]
      omega
    obtain ⟨ms, e, hms⟩ := cutV_map V.int ns (some 2) (some 32)
    rw [e] at e2 hcl
    rw [List.length_map] at hcl
    have hpn2 : H2 pn = some (.lst ((nmList b k).map V.str)) := s2 _ _ hpn
    refine Ts.q_lcL (sqL_of e2) (by rw [List.length_map]; omega) (fun _ => true) (fun _ H v => ∃ z, v = .str z ∧ TxR z) (fun _ _ _ _ _ h => h) ?_ ?_
    · intro i x H' QB QV hx s1 _ qv
      obtain ⟨t, ht, rfl⟩ := map_at hx
      walk_at "ts"
      refine ⟨rfl, ?_⟩
      walk_at "ts"
      rename_i L bb H3 s3 hL nL okL
      refine c_l_row hL (ltr_of (hnm _ nL) okL) fun z tz => ?_
      exact qv _ _ rfl s3 ⟨z, rfl, tz⟩
    intro ys pl H3 s3 hfl hyl pr
    rw [filt_all] at pr
    obtain ⟨rs, rfl, htx, hrl⟩ := strs_of pr
    rw [List.length_range, List.length_map] at hrl
    have hs3 : SqL K H3 a (ns.map V.int) := ((sn.trans s2).trans s3).seq hs
    walk_at "ts"
    refine c_l_spoilt hyl (by omega) htx fun t H4 ht => ?_
    walk_at "ts"
    refine c_l_due ht fun z ls xs p5 pL H5 s5 hz hp5 hpL hls hzl => ?_
    walk_at "ts"
    refine c_l_told ht (fun hw p6 p7 ys H6 s6 hfr hp6 hp7 hl7 => ?_) (fun z' p6 p7 H6 hw hne s6 hp6 => ?_)
    rotate_left
    · have e := read_one hz hw
      subst e
      walk_at "ts"
      refine Ts.q_iteN (fun h => absurd rfl h) (fun _ => ?_)
      walk_at "ts"
      refine Ts.q_iteN (fun _ => ?_) (fun h => absurd h hne)
      walk_at "ts"
      rw [decide_eq_true rfl]
      exact q _
    · have e := read_one hz hw
      subst e
      have el := hzl rfl
      subst el
      walk_at "ts"
      obtain ⟨hok, hg⟩ := read_ok hw
      have shp : SeqAt.shaped (.list ((ltrsOf t).map dLt)) = true := shaped_list _ fun L hL => ok_dLt L (hg L hL).1.2.2.ok
      have noT : ∀ z, ReadW t z → z ≠ "" → False := fun z h1 h2 => h2 (read_one h1 hw)
      refine Ts.q_neSame (dp_lst (fun _ _ h => dp_lt h) hp7 hl7) (dp_lst (fun _ _ h => dp_lt h) (s6 _ _ hpL) (hls.mono (tsame_of s6))) shp ?_
      walk_at "ts"
      refine c_l_kinds hp7 hl7 fun H7 s7 => ?_
      walk_at "ts"
      refine ⟨t, rfl, ht, fun _ _ ys2 p2 H8 s8 hfr2 hp2 hl2 => ?_, fun h _ _ => (noT _ h (by decide +kernel)).elim, fun h _ _ => (noT _ h (by decide +kernel)).elim, fun h _ _ => (noT _ h (by decide +kernel)).elim⟩
      have hp77 := s7 _ _ hp7
      have hp78 := s8 _ _ hp77
      have n1 : pL ≠ p7 := fun e => by rw [e, hfr] at hpL; cases hpL
      have n2 : p2 ≠ p7 := fun e => by rw [e, hp77] at hfr2; cases hfr2
      walk_at "ts"
      refine ⟨p7, ys, rfl, rfl, hp78, ?_⟩
      have t9 := tsame_lst (ys := []) hp78
      have hpL9 : (upd H8 p7 (.lst [])) pL = some (.lst xs) := by rw [upd_ne n1]; exact s8 _ _ (s7 _ _ (s6 _ _ hpL))
      have hp29 : (upd H8 p7 (.lst [])) p2 = some (.lst ys2) := by rw [upd_ne n2]; exact hp2
      have hls9 : Lts (upd H8 p7 (.lst [])) xs (ltrsOf t) := Lts.mono t9 (hls.mono (tsame_of ((s6.trans s7).trans s8)))
      have hl29 : Lts (upd H8 p7 (.lst [])) ys2 (ltrsOf t) := Lts.mono t9 hl2
      generalize upd H8 p7 (.lst []) = H9 at *
      walk_at "ts"
      refine Ts.q_eqSame (dp_lst (fun _ _ h => dp_lt h) hp29 hl29) (dp_lst (fun _ _ h => dp_lt h) hpL9 hls9) shp ?_
      walk_at "ts"
      refine ⟨t, rfl, ht, fun _ _ ys3 p3 H10 s10 hfr3 hp3 hl3 => ?_, fun h _ _ => (noT _ h (by decide +kernel)).elim, fun h _ _ => (noT _ h (by decide +kernel)).elim, fun h _ _ => (noT _ h (by decide +kernel)).elim⟩
      walk_at "ts"
      refine Ts.q_eqSame (dp_lst (fun _ _ h => dp_lt h) hp3 hl3) (dp_lst (fun _ _ h => dp_lt h) (s10 _ _ hpL9) (hls9.mono (tsame_of s10))) shp ?_
      exact q _

end Law



namespace Law
open PySem PySem.Spec PyProof.Rows L2 Ts
theorem all_mk {l : PySem.W.OpenLaw} {w : World} {K : PySem.W.Frag} {h : Heap} {mg : Str → Option Value} {fa : Addr} (X : K.In h) (G : h.Ns mainGlobals mg) (hfa : mg "law" = some (.ref fa))
    {C_NoText : Addr}
    {C_NoClock : Addr}
    {C_TooMany : Addr}
    {C_TooWide : Addr}
    {C_NoAgreement : Addr}
    {C_BadCount : Addr}
    {C_TooEarly : Addr}
    {C_BadOff : Addr}
    {C_BadLetter : Addr}
    {C_BadName : Addr}
    {C_StretchError : Addr}
    {f1 : Addr} {od1 an1 : Option Addr} {sl1 : Array (Option Value)} {oc1 kV1 dc1 pm1 cd1 ct1 : Value}
    {f2 : Addr} {od2 an2 : Option Addr} {sl2 : Array (Option Value)} {oc2 kV2 dc2 pm2 cd2 ct2 : Value}
    {f3 : Addr} {od3 an3 : Option Addr} {sl3 : Array (Option Value)} {oc3 kV3 dc3 pm3 cd3 ct3 : Value}
    {f4 : Addr} {od4 an4 : Option Addr} {sl4 : Array (Option Value)} {oc4 kV4 dc4 pm4 cd4 ct4 : Value}
    {f5 : Addr} {od5 an5 : Option Addr} {sl5 : Array (Option Value)} {oc5 kV5 dc5 pm5 cd5 ct5 : Value}
    {f6 : Addr} {od6 an6 : Option Addr} {sl6 : Array (Option Value)} {oc6 kV6 dc6 pm6 cd6 ct6 : Value}
    {f7 : Addr} {od7 an7 : Option Addr} {sl7 : Array (Option Value)} {oc7 kV7 dc7 pm7 cd7 ct7 : Value}
    {f8 : Addr} {od8 an8 : Option Addr} {sl8 : Array (Option Value)} {oc8 kV8 dc8 pm8 cd8 ct8 : Value}
    {f9 : Addr} {od9 an9 : Option Addr} {sl9 : Array (Option Value)} {oc9 kV9 dc9 pm9 cd9 ct9 : Value}
    {f10 : Addr} {od10 an10 : Option Addr} {sl10 : Array (Option Value)} {oc10 kV10 dc10 pm10 cd10 ct10 : Value}
    {f11 : Addr} {od11 an11 : Option Addr} {sl11 : Array (Option Value)} {oc11 kV11 dc11 pm11 cd11 ct11 : Value}
    {f12 : Addr} {od12 an12 : Option Addr} {sl12 : Array (Option Value)} {oc12 kV12 dc12 pm12 cd12 ct12 : Value}
    {f13 : Addr} {od13 an13 : Option Addr} {sl13 : Array (Option Value)} {oc13 kV13 dc13 pm13 cd13 ct13 : Value}
    {f14 : Addr} {od14 an14 : Option Addr} {sl14 : Array (Option Value)} {oc14 kV14 dc14 pm14 cd14 ct14 : Value}
    {f15 : Addr} {od15 an15 : Option Addr} {sl15 : Array (Option Value)} {oc15 kV15 dc15 pm15 cd15 ct15 : Value}
    {f16 : Addr} {od16 an16 : Option Addr} {sl16 : Array (Option Value)} {oc16 kV16 dc16 pm16 cd16 ct16 : Value}
    {f17 : Addr} {od17 an17 : Option Addr} {sl17 : Array (Option Value)} {oc17 kV17 dc17 pm17 cd17 ct17 : Value}
    {f18 : Addr} {od18 an18 : Option Addr} {sl18 : Array (Option Value)} {oc18 kV18 dc18 pm18 cd18 ct18 : Value}
    {f19 : Addr} {od19 an19 : Option Addr} {sl19 : Array (Option Value)} {oc19 kV19 dc19 pm19 cd19 ct19 : Value}
    {f20 : Addr} {od20 an20 : Option Addr} {sl20 : Array (Option Value)} {oc20 kV20 dc20 pm20 cd20 ct20 : Value}
    {f21 : Addr} {od21 an21 : Option Addr} {sl21 : Array (Option Value)} {oc21 kV21 dc21 pm21 cd21 ct21 : Value}
    {f22 : Addr} {od22 an22 : Option Addr} {sl22 : Array (Option Value)} {oc22 kV22 dc22 pm22 cd22 ct22 : Value}
    {f23 : Addr} {od23 an23 : Option Addr} {sl23 : Array (Option Value)} {oc23 kV23 dc23 pm23 cd23 ct23 : Value}
    {f24 : Addr} {od24 an24 : Option Addr} {sl24 : Array (Option Value)} {oc24 kV24 dc24 pm24 cd24 ct24 : Value}
    {tk0 : Tok}
    {tk1 : Tok}
    {tk2 : Tok}
    {tk3 : Tok}
    (a1 : PySem.W.nsIn K mainGlobals "is_name" = some (some (.ref f1)))
    (l1 : K.lookup f1 = some ⟨oc1, od1, .func (PySem.W.fnOf "is_name" "is_name" (defArgs s_is_name) (defBody s_is_name) (defScope s_is_name) .none kV1 dc1 pm1 an1 cd1 ct1), sl1⟩)
    (c1 : PySem.W.codeIn K cd1 "is_name" = true)
    (k1 : PySem.W.keepIn K (.ref f1) = true)
    (a2 : PySem.W.nsIn K mainGlobals "checked" = some (some (.ref f2)))
    (l2 : K.lookup f2 = some ⟨oc2, od2, .func (PySem.W.fnOf "checked" "checked" (defArgs s_checked) (defBody s_checked) (defScope s_checked) .none kV2 dc2 pm2 an2 cd2 ct2), sl2⟩)
    (c2 : PySem.W.codeIn K cd2 "checked" = true)
    (k2 : PySem.W.keepIn K (.ref f2) = true)
    (a3 : PySem.W.nsIn K mainGlobals "number_of" = some (some (.ref f3)))
    (l3 : K.lookup f3 = some ⟨oc3, od3, .func (PySem.W.fnOf "number_of" "number_of" (defArgs s_number_of) (defBody s_number_of) (defScope s_number_of) .none kV3 dc3 pm3 an3 cd3 ct3), sl3⟩)
    (c3 : PySem.W.codeIn K cd3 "number_of" = true)
    (k3 : PySem.W.keepIn K (.ref f3) = true)
    (a4 : PySem.W.nsIn K mainGlobals "letter_of" = some (some (.ref f4)))
    (l4 : K.lookup f4 = some ⟨oc4, od4, .func (PySem.W.fnOf "letter_of" "letter_of" (defArgs s_letter_of) (defBody s_letter_of) (defScope s_letter_of) .none kV4 dc4 pm4 an4 cd4 ct4), sl4⟩)
    (c4 : PySem.W.codeIn K cd4 "letter_of" = true)
    (k4 : PySem.W.keepIn K (.ref f4) = true)
    (a5 : PySem.W.nsIn K mainGlobals "read" = some (some (.ref f5)))
    (l5 : K.lookup f5 = some ⟨oc5, od5, .func (PySem.W.fnOf "read" "read" (defArgs s_read) (defBody s_read) (defScope s_read) .none kV5 dc5 pm5 an5 cd5 ct5), sl5⟩)
    (c5 : PySem.W.codeIn K cd5 "read" = true)
    (k5 : PySem.W.keepIn K (.ref f5) = true)
    (a6 : PySem.W.nsIn K mainGlobals "_law_whole" = some (some (.ref f6)))
    (l6 : K.lookup f6 = some ⟨oc6, od6, .func (PySem.W.fnOf "_law_whole" "_law_whole" (defArgs s_l_whole) (defBody s_l_whole) (defScope s_l_whole) .none kV6 dc6 pm6 an6 cd6 ct6), sl6⟩)
    (c6 : PySem.W.codeIn K cd6 "_law_whole" = true)
    (k6 : PySem.W.keepIn K (.ref f6) = true)
    (a7 : PySem.W.nsIn K mainGlobals "_law_cell_at" = some (some (.ref f7)))
    (l7 : K.lookup f7 = some ⟨oc7, od7, .func (PySem.W.fnOf "_law_cell_at" "_law_cell_at" (defArgs s_l_cell_at) (defBody s_l_cell_at) (defScope s_l_cell_at) .none kV7 dc7 pm7 an7 cd7 ct7), sl7⟩)
    (c7 : PySem.W.codeIn K cd7 "_law_cell_at" = true)
    (k7 : PySem.W.keepIn K (.ref f7) = true)
    (a8 : PySem.W.nsIn K mainGlobals "_law_mix" = some (some (.ref f8)))
    (l8 : K.lookup f8 = some ⟨oc8, od8, .func (PySem.W.fnOf "_law_mix" "_law_mix" (defArgs s_l_mix) (defBody s_l_mix) (defScope s_l_mix) .none kV8 dc8 pm8 an8 cd8 ct8), sl8⟩)
    (c8 : PySem.W.codeIn K cd8 "_law_mix" = true)
    (k8 : PySem.W.keepIn K (.ref f8) = true)
    (a9 : PySem.W.nsIn K mainGlobals "_law_big" = some (some (.ref f9)))
    (l9 : K.lookup f9 = some ⟨oc9, od9, .func (PySem.W.fnOf "_law_big" "_law_big" (defArgs s_l_big) (defBody s_l_big) (defScope s_l_big) .none kV9 dc9 pm9 an9 cd9 ct9), sl9⟩)
    (c9 : PySem.W.codeIn K cd9 "_law_big" = true)
    (k9 : PySem.W.keepIn K (.ref f9) = true)
    (a10 : PySem.W.nsIn K mainGlobals "_law_kind" = some (some (.ref f10)))
    (l10 : K.lookup f10 = some ⟨oc10, od10, .func (PySem.W.fnOf "_law_kind" "_law_kind" (defArgs s_l_kind) (defBody s_l_kind) (defScope s_l_kind) .none kV10 dc10 pm10 an10 cd10 ct10), sl10⟩)
    (c10 : PySem.W.codeIn K cd10 "_law_kind" = true)
    (k10 : PySem.W.keepIn K (.ref f10) = true)
    (a11 : PySem.W.nsIn K mainGlobals "_law_word" = some (some (.ref f11)))
    (l11 : K.lookup f11 = some ⟨oc11, od11, .func (PySem.W.fnOf "_law_word" "_law_word" (defArgs s_l_word) (defBody s_l_word) (defScope s_l_word) .none kV11 dc11 pm11 an11 cd11 ct11), sl11⟩)
    (c11 : PySem.W.codeIn K cd11 "_law_word" = true)
    (k11 : PySem.W.keepIn K (.ref f11) = true)
    (a12 : PySem.W.nsIn K mainGlobals "_law_names" = some (some (.ref f12)))
    (l12 : K.lookup f12 = some ⟨oc12, od12, .func (PySem.W.fnOf "_law_names" "_law_names" (defArgs s_l_names) (defBody s_l_names) (defScope s_l_names) .none kV12 dc12 pm12 an12 cd12 ct12), sl12⟩)
    (c12 : PySem.W.codeIn K cd12 "_law_names" = true)
    (k12 : PySem.W.keepIn K (.ref f12) = true)
    (a13 : PySem.W.nsIn K mainGlobals "_law_letter" = some (some (.ref f13)))
    (l13 : K.lookup f13 = some ⟨oc13, od13, .func (PySem.W.fnOf "_law_letter" "_law_letter" (defArgs s_l_letter) (defBody s_l_letter) (defScope s_l_letter) .none kV13 dc13 pm13 an13 cd13 ct13), sl13⟩)
    (c13 : PySem.W.codeIn K cd13 "_law_letter" = true)
    (k13 : PySem.W.keepIn K (.ref f13) = true)
    (a14 : PySem.W.nsIn K mainGlobals "_law_sign" = some (some (.ref f14)))
    (l14 : K.lookup f14 = some ⟨oc14, od14, .func (PySem.W.fnOf "_law_sign" "_law_sign" (defArgs s_l_sign) (defBody s_l_sign) (defScope s_l_sign) .none kV14 dc14 pm14 an14 cd14 ct14), sl14⟩)
    (c14 : PySem.W.codeIn K cd14 "_law_sign" = true)
    (k14 : PySem.W.keepIn K (.ref f14) = true)
    (a15 : PySem.W.nsIn K mainGlobals "_law_odd" = some (some (.ref f15)))
    (l15 : K.lookup f15 = some ⟨oc15, od15, .func (PySem.W.fnOf "_law_odd" "_law_odd" (defArgs s_l_odd) (defBody s_l_odd) (defScope s_l_odd) .none kV15 dc15 pm15 an15 cd15 ct15), sl15⟩)
    (c15 : PySem.W.codeIn K cd15 "_law_odd" = true)
    (k15 : PySem.W.keepIn K (.ref f15) = true)
    (a16 : PySem.W.nsIn K mainGlobals "_law_none" = some (some (.ref f16)))
    (l16 : K.lookup f16 = some ⟨oc16, od16, .func (PySem.W.fnOf "_law_none" "_law_none" (defArgs s_l_none) (defBody s_l_none) (defScope s_l_none) .none kV16 dc16 pm16 an16 cd16 ct16), sl16⟩)
    (c16 : PySem.W.codeIn K cd16 "_law_none" = true)
    (k16 : PySem.W.keepIn K (.ref f16) = true)
    (a17 : PySem.W.nsIn K mainGlobals "_law_row" = some (some (.ref f17)))
    (l17 : K.lookup f17 = some ⟨oc17, od17, .func (PySem.W.fnOf "_law_row" "_law_row" (defArgs s_l_row) (defBody s_l_row) (defScope s_l_row) .none kV17 dc17 pm17 an17 cd17 ct17), sl17⟩)
    (c17 : PySem.W.codeIn K cd17 "_law_row" = true)
    (k17 : PySem.W.keepIn K (.ref f17) = true)
    (a18 : PySem.W.nsIn K mainGlobals "_law_number" = some (some (.ref f18)))
    (l18 : K.lookup f18 = some ⟨oc18, od18, .func (PySem.W.fnOf "_law_number" "_law_number" (defArgs s_l_number) (defBody s_l_number) (defScope s_l_number) .none kV18 dc18 pm18 an18 cd18 ct18), sl18⟩)
    (c18 : PySem.W.codeIn K cd18 "_law_number" = true)
    (k18 : PySem.W.keepIn K (.ref f18) = true)
    (a19 : PySem.W.nsIn K mainGlobals "_law_letter_of" = some (some (.ref f19)))
    (l19 : K.lookup f19 = some ⟨oc19, od19, .func (PySem.W.fnOf "_law_letter_of" "_law_letter_of" (defArgs s_l_letter_of) (defBody s_l_letter_of) (defScope s_l_letter_of) .none kV19 dc19 pm19 an19 cd19 ct19), sl19⟩)
    (c19 : PySem.W.codeIn K cd19 "_law_letter_of" = true)
    (k19 : PySem.W.keepIn K (.ref f19) = true)
    (a20 : PySem.W.nsIn K mainGlobals "_law_due" = some (some (.ref f20)))
    (l20 : K.lookup f20 = some ⟨oc20, od20, .func (PySem.W.fnOf "_law_due" "_law_due" (defArgs s_l_due) (defBody s_l_due) (defScope s_l_due) .none kV20 dc20 pm20 an20 cd20 ct20), sl20⟩)
    (c20 : PySem.W.codeIn K cd20 "_law_due" = true)
    (k20 : PySem.W.keepIn K (.ref f20) = true)
    (a21 : PySem.W.nsIn K mainGlobals "_law_told" = some (some (.ref f21)))
    (l21 : K.lookup f21 = some ⟨oc21, od21, .func (PySem.W.fnOf "_law_told" "_law_told" (defArgs s_l_told) (defBody s_l_told) (defScope s_l_told) .none kV21 dc21 pm21 an21 cd21 ct21), sl21⟩)
    (c21 : PySem.W.codeIn K cd21 "_law_told" = true)
    (k21 : PySem.W.keepIn K (.ref f21) = true)
    (a22 : PySem.W.nsIn K mainGlobals "_law_spoilt" = some (some (.ref f22)))
    (l22 : K.lookup f22 = some ⟨oc22, od22, .func (PySem.W.fnOf "_law_spoilt" "_law_spoilt" (defArgs s_l_spoilt) (defBody s_l_spoilt) (defScope s_l_spoilt) .none kV22 dc22 pm22 an22 cd22 ct22), sl22⟩)
    (c22 : PySem.W.codeIn K cd22 "_law_spoilt" = true)
    (k22 : PySem.W.keepIn K (.ref f22) = true)
    (a23 : PySem.W.nsIn K mainGlobals "_law_kinds" = some (some (.ref f23)))
    (l23 : K.lookup f23 = some ⟨oc23, od23, .func (PySem.W.fnOf "_law_kinds" "_law_kinds" (defArgs s_l_kinds) (defBody s_l_kinds) (defScope s_l_kinds) .none kV23 dc23 pm23 an23 cd23 ct23), sl23⟩)
    (c23 : PySem.W.codeIn K cd23 "_law_kinds" = true)
    (k23 : PySem.W.keepIn K (.ref f23) = true)
    (a24 : PySem.W.nsIn K mainGlobals "law" = some (some (.ref f24)))
    (l24 : K.lookup f24 = some ⟨oc24, od24, .func (PySem.W.fnOf "law" "law" (defArgs s_law) (defBody s_law) (defScope s_law) .none kV24 dc24 pm24 an24 cd24 ct24), sl24⟩)
    (c24 : PySem.W.codeIn K cd24 "law" = true)
    (k24 : PySem.W.keepIn K (.ref f24) = true)
    (v0 : PySem.W.nsIn K mainGlobals "SIGNS" = some (some (.str "abcdefghijklmnopqrstuvwxyz" tk0)))
    (v1 : PySem.W.nsIn K mainGlobals "MOST_SIGNS" = some (some (.int 12 tk1)))
    (v2 : PySem.W.nsIn K mainGlobals "GREATEST" = some (some (.int 1000000000000 tk2)))
    (v3 : PySem.W.nsIn K mainGlobals "FIGURES" = some (some (.str "0123456789" tk3)))
    (z0 : PySem.W.nsIn K mainGlobals "ValueError" = some none)
    (z1 : PySem.W.nsIn K mainGlobals "int" = some none)
    (z2 : PySem.W.nsIn K mainGlobals "range" = some none)
    (z3 : PySem.W.nsIn K mainGlobals "sorted" = some none)
    (z4 : PySem.W.nsIn K mainGlobals "isinstance" = some none)
    (z5 : PySem.W.nsIn K mainGlobals "len" = some none)
    (z6 : PySem.W.nsIn K mainGlobals "max" = some none)
    (z7 : PySem.W.nsIn K mainGlobals "bool" = some none)
    (z8 : PySem.W.nsIn K mainGlobals "min" = some none)
    (z9 : PySem.W.nsIn K mainGlobals "list" = some none)
    (z10 : PySem.W.nsIn K mainGlobals "tuple" = some none)
    (z11 : PySem.W.nsIn K mainGlobals "str" = some none)
    (g_StretchError : PySem.W.nsIn K mainGlobals "StretchError" = some (some (.ref C_StretchError)))
    (g_BadName : PySem.W.nsIn K mainGlobals "BadName" = some (some (.ref C_BadName)))
    (g_BadLetter : PySem.W.nsIn K mainGlobals "BadLetter" = some (some (.ref C_BadLetter)))
    (g_BadOff : PySem.W.nsIn K mainGlobals "BadOff" = some (some (.ref C_BadOff)))
    (g_TooEarly : PySem.W.nsIn K mainGlobals "TooEarly" = some (some (.ref C_TooEarly)))
    (g_BadCount : PySem.W.nsIn K mainGlobals "BadCount" = some (some (.ref C_BadCount)))
    (g_NoAgreement : PySem.W.nsIn K mainGlobals "NoAgreement" = some (some (.ref C_NoAgreement)))
    (g_TooWide : PySem.W.nsIn K mainGlobals "TooWide" = some (some (.ref C_TooWide)))
    (g_TooMany : PySem.W.nsIn K mainGlobals "TooMany" = some (some (.ref C_TooMany)))
    (g_NoClock : PySem.W.nsIn K mainGlobals "NoClock" = some (some (.ref C_NoClock)))
    (g_NoText : PySem.W.nsIn K mainGlobals "NoText" = some (some (.ref C_NoText)))
    (eN : PySem.W.specialIn K (.builtin "object.__class__") "__get__" = some (some (.builtin "getset_descriptor.__get__")))
    (eT : PySem.W.takesIn K (.builtin "object.__class__") = some true)
    (j1_BadName : PySem.W.isClsIn K C_BadName = true)
    (j2_BadName : PySem.W.typeIn K (.ref C_BadName) = some (.type "type"))
    (j1_BadLetter : PySem.W.isClsIn K C_BadLetter = true)
    (j2_BadLetter : PySem.W.typeIn K (.ref C_BadLetter) = some (.type "type"))
    (j1_BadOff : PySem.W.isClsIn K C_BadOff = true)
    (j2_BadOff : PySem.W.typeIn K (.ref C_BadOff) = some (.type "type"))
    (j1_TooEarly : PySem.W.isClsIn K C_TooEarly = true)
    (j2_TooEarly : PySem.W.typeIn K (.ref C_TooEarly) = some (.type "type"))
    (j1_BadCount : PySem.W.isClsIn K C_BadCount = true)
    (j2_BadCount : PySem.W.typeIn K (.ref C_BadCount) = some (.type "type"))
    (j1_NoAgreement : PySem.W.isClsIn K C_NoAgreement = true)
    (j2_NoAgreement : PySem.W.typeIn K (.ref C_NoAgreement) = some (.type "type"))
    (j1_TooWide : PySem.W.isClsIn K C_TooWide = true)
    (j2_TooWide : PySem.W.typeIn K (.ref C_TooWide) = some (.type "type"))
    (j1_TooMany : PySem.W.isClsIn K C_TooMany = true)
    (j2_TooMany : PySem.W.typeIn K (.ref C_TooMany) = some (.type "type"))
    (j1_NoClock : PySem.W.isClsIn K C_NoClock = true)
    (j2_NoClock : PySem.W.typeIn K (.ref C_NoClock) = some (.type "type"))
    (j1_NoText : PySem.W.isClsIn K C_NoText = true)
    (j2_NoText : PySem.W.typeIn K (.ref C_NoText) = some (.type "type"))
    (j1_StretchError : PySem.W.isClsIn K C_StretchError = true)
    (j2_StretchError : PySem.W.typeIn K (.ref C_StretchError) = some (.type "type"))
    (j3 : PySem.W.subIn K (.ref C_StretchError) (.type "BaseException") = some true)
    (e1_BadName : PySem.W.excIn K C_BadName [.type "ValueError", .type "Exception", .type "BaseException", .type "object"] "ValueError.__new__" = true)
    (e2_BadName : PySem.W.keepIn K (.ref C_BadName) = true)
    (e3_BadName : PySem.W.typeIn K (.ref C_BadName) = some (.type "type"))
    (e4_BadName : PySem.W.findIn K (.ref C_BadName) "__getattribute__" = some (some (.builtin "BaseException.__getattribute__")))
    (e5_BadName : PySem.W.findIn K (.ref C_BadName) "__getattr__" = some none)
    (e6_BadName : PySem.W.subIn K (.ref C_BadName) (.type "BaseException") = some true)
    (e7_BadName : PySem.W.hasDictIn K C_BadName = true)
    (e8_BadName : PySem.W.findIn K (.ref C_BadName) "__class__" = some (some (.builtin "object.__class__")))
    (e9_BadName : PySem.W.mroIn K C_BadName (.type "object") = some true)
    (t_BadName : PySem.W.subIn K (.ref C_BadName) (.ref C_StretchError) = some true)
    (i_BadName_BadName : PySem.W.subIn K (.ref C_BadName) (.ref C_BadName) = some true)
    (i_BadName_BadLetter : PySem.W.subIn K (.ref C_BadName) (.ref C_BadLetter) = some false)
    (i_BadName_BadOff : PySem.W.subIn K (.ref C_BadName) (.ref C_BadOff) = some false)
    (i_BadName_TooEarly : PySem.W.subIn K (.ref C_BadName) (.ref C_TooEarly) = some false)
    (i_BadName_BadCount : PySem.W.subIn K (.ref C_BadName) (.ref C_BadCount) = some false)
    (i_BadName_NoAgreement : PySem.W.subIn K (.ref C_BadName) (.ref C_NoAgreement) = some false)
    (i_BadName_TooWide : PySem.W.subIn K (.ref C_BadName) (.ref C_TooWide) = some false)
    (i_BadName_TooMany : PySem.W.subIn K (.ref C_BadName) (.ref C_TooMany) = some false)
    (i_BadName_NoClock : PySem.W.subIn K (.ref C_BadName) (.ref C_NoClock) = some false)
    (i_BadName_NoText : PySem.W.subIn K (.ref C_BadName) (.ref C_NoText) = some false)
    (i_BadName_ValueError : PySem.W.subIn K (.ref C_BadName) (.type "ValueError") = some true)
    (e1_BadLetter : PySem.W.excIn K C_BadLetter [.type "ValueError", .type "Exception", .type "BaseException", .type "object"] "ValueError.__new__" = true)
    (e2_BadLetter : PySem.W.keepIn K (.ref C_BadLetter) = true)
    (e3_BadLetter : PySem.W.typeIn K (.ref C_BadLetter) = some (.type "type"))
    (e4_BadLetter : PySem.W.findIn K (.ref C_BadLetter) "__getattribute__" = some (some (.builtin "BaseException.__getattribute__")))
    (e5_BadLetter : PySem.W.findIn K (.ref C_BadLetter) "__getattr__" = some none)
    (e6_BadLetter : PySem.W.subIn K (.ref C_BadLetter) (.type "BaseException") = some true)
    (e7_BadLetter : PySem.W.hasDictIn K C_BadLetter = true)
    (e8_BadLetter : PySem.W.findIn K (.ref C_BadLetter) "__class__" = some (some (.builtin "object.__class__")))
    (e9_BadLetter : PySem.W.mroIn K C_BadLetter (.type "object") = some true)
    (t_BadLetter : PySem.W.subIn K (.ref C_BadLetter) (.ref C_StretchError) = some true)
    (i_BadLetter_BadName : PySem.W.subIn K (.ref C_BadLetter) (.ref C_BadName) = some false)
    (i_BadLetter_BadLetter : PySem.W.subIn K (.ref C_BadLetter) (.ref C_BadLetter) = some true)
    (i_BadLetter_BadOff : PySem.W.subIn K (.ref C_BadLetter) (.ref C_BadOff) = some false)
    (i_BadLetter_TooEarly : PySem.W.subIn K (.ref C_BadLetter) (.ref C_TooEarly) = some false)
    (i_BadLetter_BadCount : PySem.W.subIn K (.ref C_BadLetter) (.ref C_BadCount) = some false)
    (i_BadLetter_NoAgreement : PySem.W.subIn K (.ref C_BadLetter) (.ref C_NoAgreement) = some false)
    (i_BadLetter_TooWide : PySem.W.subIn K (.ref C_BadLetter) (.ref C_TooWide) = some false)
    (i_BadLetter_TooMany : PySem.W.subIn K (.ref C_BadLetter) (.ref C_TooMany) = some false)
    (i_BadLetter_NoClock : PySem.W.subIn K (.ref C_BadLetter) (.ref C_NoClock) = some false)
    (i_BadLetter_NoText : PySem.W.subIn K (.ref C_BadLetter) (.ref C_NoText) = some false)
    (i_BadLetter_ValueError : PySem.W.subIn K (.ref C_BadLetter) (.type "ValueError") = some true)
    (e1_NoText : PySem.W.excIn K C_NoText [.type "ValueError", .type "Exception", .type "BaseException", .type "object"] "ValueError.__new__" = true)
    (e2_NoText : PySem.W.keepIn K (.ref C_NoText) = true)
    (e3_NoText : PySem.W.typeIn K (.ref C_NoText) = some (.type "type"))
    (e4_NoText : PySem.W.findIn K (.ref C_NoText) "__getattribute__" = some (some (.builtin "BaseException.__getattribute__")))
    (e5_NoText : PySem.W.findIn K (.ref C_NoText) "__getattr__" = some none)
    (e6_NoText : PySem.W.subIn K (.ref C_NoText) (.type "BaseException") = some true)
    (e7_NoText : PySem.W.hasDictIn K C_NoText = true)
    (e8_NoText : PySem.W.findIn K (.ref C_NoText) "__class__" = some (some (.builtin "object.__class__")))
    (e9_NoText : PySem.W.mroIn K C_NoText (.type "object") = some true)
    (t_NoText : PySem.W.subIn K (.ref C_NoText) (.ref C_StretchError) = some true)
    (i_NoText_BadName : PySem.W.subIn K (.ref C_NoText) (.ref C_BadName) = some false)
    (i_NoText_BadLetter : PySem.W.subIn K (.ref C_NoText) (.ref C_BadLetter) = some false)
    (i_NoText_BadOff : PySem.W.subIn K (.ref C_NoText) (.ref C_BadOff) = some false)
    (i_NoText_TooEarly : PySem.W.subIn K (.ref C_NoText) (.ref C_TooEarly) = some false)
    (i_NoText_BadCount : PySem.W.subIn K (.ref C_NoText) (.ref C_BadCount) = some false)
    (i_NoText_NoAgreement : PySem.W.subIn K (.ref C_NoText) (.ref C_NoAgreement) = some false)
    (i_NoText_TooWide : PySem.W.subIn K (.ref C_NoText) (.ref C_TooWide) = some false)
    (i_NoText_TooMany : PySem.W.subIn K (.ref C_NoText) (.ref C_TooMany) = some false)
    (i_NoText_NoClock : PySem.W.subIn K (.ref C_NoText) (.ref C_NoClock) = some false)
    (i_NoText_NoText : PySem.W.subIn K (.ref C_NoText) (.ref C_NoText) = some true)
    (i_NoText_ValueError : PySem.W.subIn K (.ref C_NoText) (.type "ValueError") = some true)
    : ∃ fd : FuncData, (∀ (s : Shared) (v : Value), BindsTo s fd ⟨[v], []⟩ [("_law_script", v)]) ∧ ∀ base : Heap, K.In base → base.Ns mainGlobals mg → FnOk l.prog w K mg base CX0 5 fa fd ["_law_script"] (spLaw K) := by
  have e := hfa.symm.trans (PySem.W.mg_of X G a24)
  cases e
  let T : Lw K mg := {
    f_is_name := f1,
    fd_is_name := PySem.W.fnOf "is_name" "is_name" (defArgs s_is_name) (defBody s_is_name) (defScope s_is_name) .none kV1 dc1 pm1 an1 cd1 ct1,
    d_is_name := ⟨fun_mk (st := s_is_name) l1 c1 k1, (fun_mk (st := s_is_name) l1 c1 k1).binds (ps := ["word"]) fun _ _ _ _ _ _ us hl => match us, hl with | [_], _ => rfl⟩,
    m_is_name := PySem.W.mg_of X G a1,
    f_checked := f2,
    fd_checked := PySem.W.fnOf "checked" "checked" (defArgs s_checked) (defBody s_checked) (defScope s_checked) .none kV2 dc2 pm2 an2 cd2 ct2,
    d_checked := ⟨fun_mk (st := s_checked) l2 c2 k2, (fun_mk (st := s_checked) l2 c2 k2).binds (ps := ["letter"]) fun _ _ _ _ _ _ us hl => match us, hl with | [_], _ => rfl⟩,
    m_checked := PySem.W.mg_of X G a2,
    f_number_of := f3,
    fd_number_of := PySem.W.fnOf "number_of" "number_of" (defArgs s_number_of) (defBody s_number_of) (defScope s_number_of) .none kV3 dc3 pm3 an3 cd3 ct3,
    d_number_of := ⟨fun_mk (st := s_number_of) l3 c3 k3, (fun_mk (st := s_number_of) l3 c3 k3).binds (ps := ["word"]) fun _ _ _ _ _ _ us hl => match us, hl with | [_], _ => rfl⟩,
    m_number_of := PySem.W.mg_of X G a3,
    f_letter_of := f4,
    fd_letter_of := PySem.W.fnOf "letter_of" "letter_of" (defArgs s_letter_of) (defBody s_letter_of) (defScope s_letter_of) .none kV4 dc4 pm4 an4 cd4 ct4,
    d_letter_of := ⟨fun_mk (st := s_letter_of) l4 c4 k4, (fun_mk (st := s_letter_of) l4 c4 k4).binds (ps := ["row"]) fun _ _ _ _ _ _ us hl => match us, hl with | [_], _ => rfl⟩,
    m_letter_of := PySem.W.mg_of X G a4,
    f_read := f5,
    fd_read := PySem.W.fnOf "read" "read" (defArgs s_read) (defBody s_read) (defScope s_read) .none kV5 dc5 pm5 an5 cd5 ct5,
    d_read := ⟨fun_mk (st := s_read) l5 c5 k5, (fun_mk (st := s_read) l5 c5 k5).binds (ps := ["text"]) fun _ _ _ _ _ _ us hl => match us, hl with | [_], _ => rfl⟩,
    m_read := PySem.W.mg_of X G a5,
    f_l_whole := f6,
    fd_l_whole := PySem.W.fnOf "_law_whole" "_law_whole" (defArgs s_l_whole) (defBody s_l_whole) (defScope s_l_whole) .none kV6 dc6 pm6 an6 cd6 ct6,
    d_l_whole := ⟨fun_mk (st := s_l_whole) l6 c6 k6, (fun_mk (st := s_l_whole) l6 c6 k6).binds (ps := ["_law_found"]) fun _ _ _ _ _ _ us hl => match us, hl with | [_], _ => rfl⟩,
    m_l_whole := PySem.W.mg_of X G a6,
    f_l_cell_at := f7,
    fd_l_cell_at := PySem.W.fnOf "_law_cell_at" "_law_cell_at" (defArgs s_l_cell_at) (defBody s_l_cell_at) (defScope s_l_cell_at) .none kV7 dc7 pm7 an7 cd7 ct7,
    d_l_cell_at := ⟨fun_mk (st := s_l_cell_at) l7 c7 k7, (fun_mk (st := s_l_cell_at) l7 c7 k7).binds (ps := ["_law_script", "_law_k"]) fun _ _ _ _ _ _ us hl => match us, hl with | [_, _], _ => rfl⟩,
    m_l_cell_at := PySem.W.mg_of X G a7,
    f_l_mix := f8,
    fd_l_mix := PySem.W.fnOf "_law_mix" "_law_mix" (defArgs s_l_mix) (defBody s_l_mix) (defScope s_l_mix) .none kV8 dc8 pm8 an8 cd8 ct8,
    d_l_mix := ⟨fun_mk (st := s_l_mix) l8 c8 k8, (fun_mk (st := s_l_mix) l8 c8 k8).binds (ps := ["_law_cell", "_law_k"]) fun _ _ _ _ _ _ us hl => match us, hl with | [_, _], _ => rfl⟩,
    m_l_mix := PySem.W.mg_of X G a8,
    f_l_big := f9,
    fd_l_big := PySem.W.fnOf "_law_big" "_law_big" (defArgs s_l_big) (defBody s_l_big) (defScope s_l_big) .none kV9 dc9 pm9 an9 cd9 ct9,
    d_l_big := ⟨fun_mk (st := s_l_big) l9 c9 k9, (fun_mk (st := s_l_big) l9 c9 k9).binds (ps := ["_law_cell", "_law_k"]) fun _ _ _ _ _ _ us hl => match us, hl with | [_, _], _ => rfl⟩,
    m_l_big := PySem.W.mg_of X G a9,
    f_l_kind := f10,
    fd_l_kind := PySem.W.fnOf "_law_kind" "_law_kind" (defArgs s_l_kind) (defBody s_l_kind) (defScope s_l_kind) .none kV10 dc10 pm10 an10 cd10 ct10,
    d_l_kind := ⟨fun_mk (st := s_l_kind) l10 c10 k10, (fun_mk (st := s_l_kind) l10 c10 k10).binds (ps := ["_law_e"]) fun _ _ _ _ _ _ us hl => match us, hl with | [_], _ => rfl⟩,
    m_l_kind := PySem.W.mg_of X G a10,
    f_l_word := f11,
    fd_l_word := PySem.W.fnOf "_law_word" "_law_word" (defArgs s_l_word) (defBody s_l_word) (defScope s_l_word) .none kV11 dc11 pm11 an11 cd11 ct11,
    d_l_word := ⟨fun_mk (st := s_l_word) l11 c11 k11, (fun_mk (st := s_l_word) l11 c11 k11).binds (ps := ["_law_cell", "_law_size"]) fun _ _ _ _ _ _ us hl => match us, hl with | [_, _], _ => rfl⟩,
    m_l_word := PySem.W.mg_of X G a11,
    f_l_names := f12,
    fd_l_names := PySem.W.fnOf "_law_names" "_law_names" (defArgs s_l_names) (defBody s_l_names) (defScope s_l_names) .none kV12 dc12 pm12 an12 cd12 ct12,
    d_l_names := ⟨fun_mk (st := s_l_names) l12 c12 k12, (fun_mk (st := s_l_names) l12 c12 k12).binds (ps := ["_law_cell"]) fun _ _ _ _ _ _ us hl => match us, hl with | [_], _ => rfl⟩,
    m_l_names := PySem.W.mg_of X G a12,
    f_l_letter := f13,
    fd_l_letter := PySem.W.fnOf "_law_letter" "_law_letter" (defArgs s_l_letter) (defBody s_l_letter) (defScope s_l_letter) .none kV13 dc13 pm13 an13 cd13 ct13,
    d_l_letter := ⟨fun_mk (st := s_l_letter) l13 c13 k13, (fun_mk (st := s_l_letter) l13 c13 k13).binds (ps := ["_law_cell", "_law_names_here", "_law_many"]) fun _ _ _ _ _ _ us hl => match us, hl with | [_, _, _], _ => rfl⟩,
    m_l_letter := PySem.W.mg_of X G a13,
    f_l_sign := f14,
    fd_l_sign := PySem.W.fnOf "_law_sign" "_law_sign" (defArgs s_l_sign) (defBody s_l_sign) (defScope s_l_sign) .none kV14 dc14 pm14 an14 cd14 ct14,
    d_l_sign := ⟨fun_mk (st := s_l_sign) l14 c14 k14, (fun_mk (st := s_l_sign) l14 c14 k14).binds (ps := ["_law_cell"]) fun _ _ _ _ _ _ us hl => match us, hl with | [_], _ => rfl⟩,
    m_l_sign := PySem.W.mg_of X G a14,
    f_l_odd := f15,
    fd_l_odd := PySem.W.fnOf "_law_odd" "_law_odd" (defArgs s_l_odd) (defBody s_l_odd) (defScope s_l_odd) .none kV15 dc15 pm15 an15 cd15 ct15,
    d_l_odd := ⟨fun_mk (st := s_l_odd) l15 c15 k15, (fun_mk (st := s_l_odd) l15 c15 k15).binds (ps := ["_law_cell"]) fun _ _ _ _ _ _ us hl => match us, hl with | [_], _ => rfl⟩,
    m_l_odd := PySem.W.mg_of X G a15,
    f_l_none := f16,
    fd_l_none := PySem.W.fnOf "_law_none" "_law_none" (defArgs s_l_none) (defBody s_l_none) (defScope s_l_none) .none kV16 dc16 pm16 an16 cd16 ct16,
    d_l_none := ⟨fun_mk (st := s_l_none) l16 c16 k16, (fun_mk (st := s_l_none) l16 c16 k16).binds (ps := ["_law_cell"]) fun _ _ _ _ _ _ us hl => match us, hl with | [_], _ => rfl⟩,
    m_l_none := PySem.W.mg_of X G a16,
    f_l_row := f17,
    fd_l_row := PySem.W.fnOf "_law_row" "_law_row" (defArgs s_l_row) (defBody s_l_row) (defScope s_l_row) .none kV17 dc17 pm17 an17 cd17 ct17,
    d_l_row := ⟨fun_mk (st := s_l_row) l17 c17 k17, (fun_mk (st := s_l_row) l17 c17 k17).binds (ps := ["_law_letter_here"]) fun _ _ _ _ _ _ us hl => match us, hl with | [_], _ => rfl⟩,
    m_l_row := PySem.W.mg_of X G a17,
    f_l_number := f18,
    fd_l_number := PySem.W.fnOf "_law_number" "_law_number" (defArgs s_l_number) (defBody s_l_number) (defScope s_l_number) .none kV18 dc18 pm18 an18 cd18 ct18,
    d_l_number := ⟨fun_mk (st := s_l_number) l18 c18 k18, (fun_mk (st := s_l_number) l18 c18 k18).binds (ps := ["_law_word_here"]) fun _ _ _ _ _ _ us hl => match us, hl with | [_], _ => rfl⟩,
    m_l_number := PySem.W.mg_of X G a18,
    f_l_letter_of := f19,
    fd_l_letter_of := PySem.W.fnOf "_law_letter_of" "_law_letter_of" (defArgs s_l_letter_of) (defBody s_l_letter_of) (defScope s_l_letter_of) .none kV19 dc19 pm19 an19 cd19 ct19,
    d_l_letter_of := ⟨fun_mk (st := s_l_letter_of) l19 c19 k19, (fun_mk (st := s_l_letter_of) l19 c19 k19).binds (ps := ["_law_row_here"]) fun _ _ _ _ _ _ us hl => match us, hl with | [_], _ => rfl⟩,
    m_l_letter_of := PySem.W.mg_of X G a19,
    f_l_due := f20,
    fd_l_due := PySem.W.fnOf "_law_due" "_law_due" (defArgs s_l_due) (defBody s_l_due) (defScope s_l_due) .none kV20 dc20 pm20 an20 cd20 ct20,
    d_l_due := ⟨fun_mk (st := s_l_due) l20 c20 k20, (fun_mk (st := s_l_due) l20 c20 k20).binds (ps := ["_law_text"]) fun _ _ _ _ _ _ us hl => match us, hl with | [_], _ => rfl⟩,
    m_l_due := PySem.W.mg_of X G a20,
    f_l_told := f21,
    fd_l_told := PySem.W.fnOf "_law_told" "_law_told" (defArgs s_l_told) (defBody s_l_told) (defScope s_l_told) .none kV21 dc21 pm21 an21 cd21 ct21,
    d_l_told := ⟨fun_mk (st := s_l_told) l21 c21 k21, (fun_mk (st := s_l_told) l21 c21 k21).binds (ps := ["_law_text"]) fun _ _ _ _ _ _ us hl => match us, hl with | [_], _ => rfl⟩,
    m_l_told := PySem.W.mg_of X G a21,
    f_l_spoilt := f22,
    fd_l_spoilt := PySem.W.fnOf "_law_spoilt" "_law_spoilt" (defArgs s_l_spoilt) (defBody s_l_spoilt) (defScope s_l_spoilt) .none kV22 dc22 pm22 an22 cd22 ct22,
    d_l_spoilt := ⟨fun_mk (st := s_l_spoilt) l22 c22 k22, (fun_mk (st := s_l_spoilt) l22 c22 k22).binds (ps := ["_law_rows", "_law_cell"]) fun _ _ _ _ _ _ us hl => match us, hl with | [_, _], _ => rfl⟩,
    m_l_spoilt := PySem.W.mg_of X G a22,
    f_l_kinds := f23,
    fd_l_kinds := PySem.W.fnOf "_law_kinds" "_law_kinds" (defArgs s_l_kinds) (defBody s_l_kinds) (defScope s_l_kinds) .none kV23 dc23 pm23 an23 cd23 ct23,
    d_l_kinds := ⟨fun_mk (st := s_l_kinds) l23 c23 k23, (fun_mk (st := s_l_kinds) l23 c23 k23).binds (ps := ["_law_found"]) fun _ _ _ _ _ _ us hl => match us, hl with | [_], _ => rfl⟩,
    m_l_kinds := PySem.W.mg_of X G a23,
    f_law := fa,
    fd_law := PySem.W.fnOf "law" "law" (defArgs s_law) (defBody s_law) (defScope s_law) .none kV24 dc24 pm24 an24 cd24 ct24,
    d_law := ⟨fun_mk (st := s_law) l24 c24 k24, (fun_mk (st := s_law) l24 c24 k24).binds (ps := ["_law_script"]) fun _ _ _ _ _ _ us hl => match us, hl with | [_], _ => rfl⟩,
    m_law := PySem.W.mg_of X G a24,
    c_SIGNS := ⟨_, PySem.W.mg_of X G v0⟩,
    c_MOST_SIGNS := ⟨_, PySem.W.mg_of X G v1⟩,
    c_GREATEST := ⟨_, PySem.W.mg_of X G v2⟩,
    c_FIGURES := ⟨_, PySem.W.mg_of X G v3⟩,
    n_ValueError := PySem.W.mg_none_of X G z0,
    n_int := PySem.W.mg_none_of X G z1,
    n_range := PySem.W.mg_none_of X G z2,
    n_sorted := PySem.W.mg_none_of X G z3,
    n_isinstance := PySem.W.mg_none_of X G z4,
    n_len := PySem.W.mg_none_of X G z5,
    n_max := PySem.W.mg_none_of X G z6,
    n_bool := PySem.W.mg_none_of X G z7,
    n_min := PySem.W.mg_none_of X G z8,
    n_list := PySem.W.mg_none_of X G z9,
    n_tuple := PySem.W.mg_none_of X G z10,
    n_str := PySem.W.mg_none_of X G z11,
    C_StretchError := C_StretchError,
    m_StretchError := PySem.W.mg_of X G g_StretchError,
    C_BadName := C_BadName,
    m_BadName := PySem.W.mg_of X G g_BadName,
    C_BadLetter := C_BadLetter,
    m_BadLetter := PySem.W.mg_of X G g_BadLetter,
    C_BadOff := C_BadOff,
    m_BadOff := PySem.W.mg_of X G g_BadOff,
    C_TooEarly := C_TooEarly,
    m_TooEarly := PySem.W.mg_of X G g_TooEarly,
    C_BadCount := C_BadCount,
    m_BadCount := PySem.W.mg_of X G g_BadCount,
    C_NoAgreement := C_NoAgreement,
    m_NoAgreement := PySem.W.mg_of X G g_NoAgreement,
    C_TooWide := C_TooWide,
    m_TooWide := PySem.W.mg_of X G g_TooWide,
    C_TooMany := C_TooMany,
    m_TooMany := PySem.W.mg_of X G g_TooMany,
    C_NoClock := C_NoClock,
    m_NoClock := PySem.W.mg_of X G g_NoClock,
    C_NoText := C_NoText,
    m_NoText := PySem.W.mg_of X G g_NoText,
    x_BadName := ⟨e1_BadName, e2_BadName, e3_BadName, ⟨e4_BadName, e5_BadName, e6_BadName, e7_BadName, e8_BadName, eN, eT, e9_BadName⟩⟩,
    t_BadName := Ts.exm_own j3 j1_StretchError j2_StretchError t_BadName,
    i_BadName_BadName := Ts.kit_self,
    i_BadName_BadLetter := Ts.kit_no i_BadName_BadName i_BadName_BadLetter j1_BadLetter j2_BadLetter,
    i_BadName_BadOff := Ts.kit_no i_BadName_BadName i_BadName_BadOff j1_BadOff j2_BadOff,
    i_BadName_TooEarly := Ts.kit_no i_BadName_BadName i_BadName_TooEarly j1_TooEarly j2_TooEarly,
    i_BadName_BadCount := Ts.kit_no i_BadName_BadName i_BadName_BadCount j1_BadCount j2_BadCount,
    i_BadName_NoAgreement := Ts.kit_no i_BadName_BadName i_BadName_NoAgreement j1_NoAgreement j2_NoAgreement,
    i_BadName_TooWide := Ts.kit_no i_BadName_BadName i_BadName_TooWide j1_TooWide j2_TooWide,
    i_BadName_TooMany := Ts.kit_no i_BadName_BadName i_BadName_TooMany j1_TooMany j2_TooMany,
    i_BadName_NoClock := Ts.kit_no i_BadName_BadName i_BadName_NoClock j1_NoClock j2_NoClock,
    i_BadName_NoText := Ts.kit_no i_BadName_BadName i_BadName_NoText j1_NoText j2_NoText,
    i_BadName_ValueError := Ts.kit_bt i_BadName_ValueError (by decide +kernel),
    x_BadLetter := ⟨e1_BadLetter, e2_BadLetter, e3_BadLetter, ⟨e4_BadLetter, e5_BadLetter, e6_BadLetter, e7_BadLetter, e8_BadLetter, eN, eT, e9_BadLetter⟩⟩,
    t_BadLetter := Ts.exm_own j3 j1_StretchError j2_StretchError t_BadLetter,
    i_BadLetter_BadName := Ts.kit_no i_BadLetter_BadLetter i_BadLetter_BadName j1_BadName j2_BadName,
    i_BadLetter_BadLetter := Ts.kit_self,
    i_BadLetter_BadOff := Ts.kit_no i_BadLetter_BadLetter i_BadLetter_BadOff j1_BadOff j2_BadOff,
    i_BadLetter_TooEarly := Ts.kit_no i_BadLetter_BadLetter i_BadLetter_TooEarly j1_TooEarly j2_TooEarly,
    i_BadLetter_BadCount := Ts.kit_no i_BadLetter_BadLetter i_BadLetter_BadCount j1_BadCount j2_BadCount,
    i_BadLetter_NoAgreement := Ts.kit_no i_BadLetter_BadLetter i_BadLetter_NoAgreement j1_NoAgreement j2_NoAgreement,
    i_BadLetter_TooWide := Ts.kit_no i_BadLetter_BadLetter i_BadLetter_TooWide j1_TooWide j2_TooWide,
    i_BadLetter_TooMany := Ts.kit_no i_BadLetter_BadLetter i_BadLetter_TooMany j1_TooMany j2_TooMany,
    i_BadLetter_NoClock := Ts.kit_no i_BadLetter_BadLetter i_BadLetter_NoClock j1_NoClock j2_NoClock,
    i_BadLetter_NoText := Ts.kit_no i_BadLetter_BadLetter i_BadLetter_NoText j1_NoText j2_NoText,
    i_BadLetter_ValueError := Ts.kit_bt i_BadLetter_ValueError (by decide +kernel),
    x_NoText := ⟨e1_NoText, e2_NoText, e3_NoText, ⟨e4_NoText, e5_NoText, e6_NoText, e7_NoText, e8_NoText, eN, eT, e9_NoText⟩⟩,
    t_NoText := Ts.exm_own j3 j1_StretchError j2_StretchError t_NoText,
    i_NoText_BadName := Ts.kit_no i_NoText_NoText i_NoText_BadName j1_BadName j2_BadName,
    i_NoText_BadLetter := Ts.kit_no i_NoText_NoText i_NoText_BadLetter j1_BadLetter j2_BadLetter,
    i_NoText_BadOff := Ts.kit_no i_NoText_NoText i_NoText_BadOff j1_BadOff j2_BadOff,
    i_NoText_TooEarly := Ts.kit_no i_NoText_NoText i_NoText_TooEarly j1_TooEarly j2_TooEarly,
    i_NoText_BadCount := Ts.kit_no i_NoText_NoText i_NoText_BadCount j1_BadCount j2_BadCount,
    i_NoText_NoAgreement := Ts.kit_no i_NoText_NoText i_NoText_NoAgreement j1_NoAgreement j2_NoAgreement,
    i_NoText_TooWide := Ts.kit_no i_NoText_NoText i_NoText_TooWide j1_TooWide j2_TooWide,
    i_NoText_TooMany := Ts.kit_no i_NoText_NoText i_NoText_TooMany j1_TooMany j2_TooMany,
    i_NoText_NoClock := Ts.kit_no i_NoText_NoText i_NoText_NoClock j1_NoClock j2_NoClock,
    i_NoText_NoText := Ts.kit_self,
    i_NoText_ValueError := Ts.kit_bt i_NoText_ValueError (by decide +kernel) }
  exact ⟨T.fd_law, fun s v => .of_eq rfl, fun base _ _ => ok_law T⟩
end Law
open PySem PySem.W PyProof.Rows
set_option maxHeartbeats 0 in
theorem PySem.Challenge.cw_timestretch_k12_read_holds : PySem.Challenge.rw_timestretch_k12_read.Holds := by
  w_on; o_law; k_head; (case hw => w_witness2)
  k_fill
  refine L2.walk_of (l := PySem.Challenge.rw_timestretch_k12_read) (n := 63) (k := 5) (x := "_law_script") (CX := fun _ => L2.CX0) (sp := fun w => Law.spLaw _) rfl (by decide) rfl ⟨rfl, by decide, by decide⟩ (fun w h Y => PySem.W.kIn_of Y) ?F (fun _ _ a ns hl _ hS => ⟨a, ns, rfl, hS, hl, fun _ => rfl⟩) (fun _ _ _ _ _ h => h)
  case F =>
    intro w mg fa h KX G hmg
    refine' Law.all_mk KX G hmg ?a1 ?l1 ?c1 ?k1 ?a2 ?l2 ?c2 ?k2 ?a3 ?l3 ?c3 ?k3 ?a4 ?l4 ?c4 ?k4 ?a5 ?l5 ?c5 ?k5 ?a6 ?l6 ?c6 ?k6 ?a7 ?l7 ?c7 ?k7 ?a8 ?l8 ?c8 ?k8 ?a9 ?l9 ?c9 ?k9 ?a10 ?l10 ?c10 ?k10 ?a11 ?l11 ?c11 ?k11 ?a12 ?l12 ?c12 ?k12 ?a13 ?l13 ?c13 ?k13 ?a14 ?l14 ?c14 ?k14 ?a15 ?l15 ?c15 ?k15 ?a16 ?l16 ?c16 ?k16 ?a17 ?l17 ?c17 ?k17 ?a18 ?l18 ?c18 ?k18 ?a19 ?l19 ?c19 ?k19 ?a20 ?l20 ?c20 ?k20 ?a21 ?l21 ?c21 ?k21 ?a22 ?l22 ?c22 ?k22 ?a23 ?l23 ?c23 ?k23 ?a24 ?l24 ?c24 ?k24 ?v0 ?v1 ?v2 ?v3 ?z0 ?z1 ?z2 ?z3 ?z4 ?z5 ?z6 ?z7 ?z8 ?z9 ?z10 ?z11 ?g_StretchError ?g_BadName ?g_BadLetter ?g_BadOff ?g_TooEarly ?g_BadCount ?g_NoAgreement ?g_TooWide ?g_TooMany ?g_NoClock ?g_NoText ?eN ?eT ?j1_BadName ?j2_BadName ?j1_BadLetter ?j2_BadLetter ?j1_BadOff ?j2_BadOff ?j1_TooEarly ?j2_TooEarly ?j1_BadCount ?j2_BadCount ?j1_NoAgreement ?j2_NoAgreement ?j1_TooWide ?j2_TooWide ?j1_TooMany ?j2_TooMany ?j1_NoClock ?j2_NoClock ?j1_NoText ?j2_NoText ?j1_StretchError ?j2_StretchError ?j3 ?e1_BadName ?e2_BadName ?e3_BadName ?e4_BadName ?e5_BadName ?e6_BadName ?e7_BadName ?e8_BadName ?e9_BadName ?t_BadName ?i_BadName_BadName ?i_BadName_BadLetter ?i_BadName_BadOff ?i_BadName_TooEarly ?i_BadName_BadCount ?i_BadName_NoAgreement ?i_BadName_TooWide ?i_BadName_TooMany ?i_BadName_NoClock ?i_BadName_NoText ?i_BadName_ValueError ?e1_BadLetter ?e2_BadLetter ?e3_BadLetter ?e4_BadLetter ?e5_BadLetter ?e6_BadLetter ?e7_BadLetter ?e8_BadLetter ?e9_BadLetter ?t_BadLetter ?i_BadLetter_BadName ?i_BadLetter_BadLetter ?i_BadLetter_BadOff ?i_BadLetter_TooEarly ?i_BadLetter_BadCount ?i_BadLetter_NoAgreement ?i_BadLetter_TooWide ?i_BadLetter_TooMany ?i_BadLetter_NoClock ?i_BadLetter_NoText ?i_BadLetter_ValueError ?e1_NoText ?e2_NoText ?e3_NoText ?e4_NoText ?e5_NoText ?e6_NoText ?e7_NoText ?e8_NoText ?e9_NoText ?t_NoText ?i_NoText_BadName ?i_NoText_BadLetter ?i_NoText_BadOff ?i_NoText_TooEarly ?i_NoText_BadCount ?i_NoText_NoAgreement ?i_NoText_TooWide ?i_NoText_TooMany ?i_NoText_NoClock ?i_NoText_NoText ?i_NoText_ValueError
    (case a1 => k_is)
    (case l1 => k_is)
    (case c1 => k_is)
    (case k1 => k_is)
    (case a2 => k_is)
    (case l2 => k_is)
    (case c2 => k_is)
    (case k2 => k_is)
    (case a3 => k_is)
    (case l3 => k_is)
    (case c3 => k_is)
    (case k3 => k_is)
    (case a4 => k_is)
    (case l4 => k_is)
    (case c4 => k_is)
    (case k4 => k_is)
    (case a5 => k_is)
    (case l5 => k_is)
    (case c5 => k_is)
    (case k5 => k_is)
    (case a6 => k_is)
    (case l6 => k_is)
    (case c6 => k_is)
    (case k6 => k_is)
    (case a7 => k_is)
    (case l7 => k_is)
    (case c7 => k_is)
    (case k7 => k_is)
    (case a8 => k_is)
    (case l8 => k_is)
    (case c8 => k_is)
    (case k8 => k_is)
    (case a9 => k_is)
    (case l9 => k_is)
    (case c9 => k_is)
    (case k9 => k_is)
    (case a10 => k_is)
    (case l10 => k_is)
    (case c10 => k_is)
    (case k10 => k_is)
    (case a11 => k_is)
    (case l11 => k_is)
    (case c11 => k_is)
    (case k11 => k_is)
    (case a12 => k_is)
    (case l12 => k_is)
    (case c12 => k_is)
    (case k12 => k_is)
    (case a13 => k_is)
    (case l13 => k_is)
    (case c13 => k_is)
    (case k13 => k_is)
    (case a14 => k_is)
    (case l14 => k_is)
    (case c14 => k_is)
    (case k14 => k_is)
    (case a15 => k_is)
    (case l15 => k_is)
    (case c15 => k_is)
    (case k15 => k_is)
    (case a16 => k_is)
    (case l16 => k_is)
    (case c16 => k_is)
    (case k16 => k_is)
    (case a17 => k_is)
    (case l17 => k_is)
    (case c17 => k_is)
    (case k17 => k_is)
    (case a18 => k_is)
    (case l18 => k_is)
    (case c18 => k_is)
    (case k18 => k_is)
    (case a19 => k_is)
    (case l19 => k_is)
    (case c19 => k_is)
    (case k19 => k_is)
    (case a20 => k_is)
    (case l20 => k_is)
    (case c20 => k_is)
    (case k20 => k_is)
    (case a21 => k_is)
    (case l21 => k_is)
    (case c21 => k_is)
    (case k21 => k_is)
    (case a22 => k_is)
    (case l22 => k_is)
    (case c22 => k_is)
    (case k22 => k_is)
    (case a23 => k_is)
    (case l23 => k_is)
    (case c23 => k_is)
    (case k23 => k_is)
    (case a24 => k_is)
    (case l24 => k_is)
    (case c24 => k_is)
    (case k24 => k_is)
    (case v0 => k_is)
    (case v1 => k_is)
    (case v2 => k_is)
    (case v3 => k_is)
    (case z0 => k_is)
    (case z1 => k_is)
    (case z2 => k_is)
    (case z3 => k_is)
    (case z4 => k_is)
    (case z5 => k_is)
    (case z6 => k_is)
    (case z7 => k_is)
    (case z8 => k_is)
    (case z9 => k_is)
    (case z10 => k_is)
    (case z11 => k_is)
    (case g_StretchError => k_is)
    (case g_BadName => k_is)
    (case g_BadLetter => k_is)
    (case g_BadOff => k_is)
    (case g_TooEarly => k_is)
    (case g_BadCount => k_is)
    (case g_NoAgreement => k_is)
    (case g_TooWide => k_is)
    (case g_TooMany => k_is)
    (case g_NoClock => k_is)
    (case g_NoText => k_is)
    (case eN => k_is)
    (case eT => k_is)
    (case j1_BadName => k_is)
    (case j2_BadName => k_is)
    (case j1_BadLetter => k_is)
    (case j2_BadLetter => k_is)
    (case j1_BadOff => k_is)
    (case j2_BadOff => k_is)
    (case j1_TooEarly => k_is)
    (case j2_TooEarly => k_is)
    (case j1_BadCount => k_is)
    (case j2_BadCount => k_is)
    (case j1_NoAgreement => k_is)
    (case j2_NoAgreement => k_is)
    (case j1_TooWide => k_is)
    (case j2_TooWide => k_is)
    (case j1_TooMany => k_is)
    (case j2_TooMany => k_is)
    (case j1_NoClock => k_is)
    (case j2_NoClock => k_is)
    (case j1_NoText => k_is)
    (case j2_NoText => k_is)
    (case j1_StretchError => k_is)
    (case j2_StretchError => k_is)
    (case j3 => k_is)
    (case e1_BadName => k_exc)
    (case e2_BadName => k_is)
    (case e3_BadName => k_is)
    (case e4_BadName => k_is)
    (case e5_BadName => k_is)
    (case e6_BadName => k_is)
    (case e7_BadName => k_is)
    (case e8_BadName => k_is)
    (case e9_BadName => k_is)
    (case t_BadName => k_is)
    (case i_BadName_BadName => k_is)
    (case i_BadName_BadLetter => k_is)
    (case i_BadName_BadOff => k_is)
    (case i_BadName_TooEarly => k_is)
    (case i_BadName_BadCount => k_is)
    (case i_BadName_NoAgreement => k_is)
    (case i_BadName_TooWide => k_is)
    (case i_BadName_TooMany => k_is)
    (case i_BadName_NoClock => k_is)
    (case i_BadName_NoText => k_is)
    (case i_BadName_ValueError => k_is)
    (case e1_BadLetter => k_exc)
    (case e2_BadLetter => k_is)
    (case e3_BadLetter => k_is)
    (case e4_BadLetter => k_is)
    (case e5_BadLetter => k_is)
    (case e6_BadLetter => k_is)
    (case e7_BadLetter => k_is)
    (case e8_BadLetter => k_is)
    (case e9_BadLetter => k_is)
    (case t_BadLetter => k_is)
    (case i_BadLetter_BadName => k_is)
    (case i_BadLetter_BadLetter => k_is)
    (case i_BadLetter_BadOff => k_is)
    (case i_BadLetter_TooEarly => k_is)
    (case i_BadLetter_BadCount => k_is)
    (case i_BadLetter_NoAgreement => k_is)
    (case i_BadLetter_TooWide => k_is)
    (case i_BadLetter_TooMany => k_is)
    (case i_BadLetter_NoClock => k_is)
    (case i_BadLetter_NoText => k_is)
    (case i_BadLetter_ValueError => k_is)
    (case e1_NoText => k_exc)
    (case e2_NoText => k_is)
    (case e3_NoText => k_is)
    (case e4_NoText => k_is)
    (case e5_NoText => k_is)
    (case e6_NoText => k_is)
    (case e7_NoText => k_is)
    (case e8_NoText => k_is)
    (case e9_NoText => k_is)
    (case t_NoText => k_is)
    (case i_NoText_BadName => k_is)
    (case i_NoText_BadLetter => k_is)
    (case i_NoText_BadOff => k_is)
    (case i_NoText_TooEarly => k_is)
    (case i_NoText_BadCount => k_is)
    (case i_NoText_NoAgreement => k_is)
    (case i_NoText_TooWide => k_is)
    (case i_NoText_TooMany => k_is)
    (case i_NoText_NoClock => k_is)
    (case i_NoText_NoText => k_is)
    (case i_NoText_ValueError => k_is)
#print axioms PySem.Challenge.cw_timestretch_k12_read_holds
