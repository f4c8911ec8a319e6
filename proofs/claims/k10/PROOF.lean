import PyProof.Rows.All
import Wide.All
import OpenK.AllK
import Wide.FinOn
import HandS.ForMost
import HandS.TryOnly
import HandS.ExcOwn
import HandS.WordsExc
import HandS.IsInst
import HandS.ExcIs
import HandS.HotCalls
import HandS.SortInts
import HandS.Walk
import HandS.Steps
import HandS.SetFor
import HandS.Conv
import HandS.Defaults
import HandS.CallSlots
import HandS.More
import HandS.Deep
import HandS.Strs
import HandS.SetFor
import KE.DataFind
import KE.GoesComp
import KE.KAsSuite
import HandS.WordsDict
import HandS.FStr
import PyProof.Rows.StrJoinMade
import PyProof.Rows.StrMeet
import PySem.Challenge.RW_timestretch_k10_watches_kept
set_option Elab.async false
set_option linter.all false
set_option maxRecDepth 100000
set_option maxHeartbeats 4000000
/-! The common ground of the proofs: readings step by step, heaps that only grow. -/
namespace Ts
open PySem PySem.Spec PyProof.Rows L2
section
variable {σ : L2.St} {H H1 H2 : Hp} {Q : VK} {QA : List V → Hp → Prop} {QB : Bool → Hp → Prop} {ta tb te tx : TE} {tt tu : TT} {tr : TA} {v x y : V} {i j : Int} {n : Nat} {D : Ends} {t u : TS} {K : PySem.W.Frag} {r : R2}

/-! ### heaps -/
theorem same_upd {p : Addr} {o : HO} (h : H p = none) : Same H (upd H p o) := fun b z e => by
  rw [upd_ne (ne_of_none e h)]
  exact e
theorem same_get {a : Addr} {o : HO} (s : Same H H1) (h : H a = some o) : H1 a = some o := s a o h
theorem same_step (s : Same H1 H2) (h : Same H H1) : Same H H2 := h.trans s
theorem Same.sqT {a : Addr} {xs : List V} (e : Same H H1) (h : SqT K H a xs) : SqT K H1 a xs := by
  rcases h with (h | ⟨o, h⟩) | h
  · exact .inl (.inl (e _ _ h))
  · exact .inl (.inr ⟨o, e _ _ h⟩)
  · exact .inr h
/-- an object that H does not know may change -/
theorem same_mut {p : Addr} {o : HO} (s : Same H H1) (h : H p = none) : Same H (upd H1 p o) := fun b z e => by
  rw [upd_ne (ne_of_none e h)]
  exact s b z e
theorem sqL_of {a : Addr} {xs : List V} (h : H a = some (.lst xs)) : SqL K H a xs := .inl (.inl h)
theorem sqT_of {a : Addr} {xs : List V} (h : H a = some (.tup xs)) : SqT K H a xs := .inl (.inl h)
theorem size_of (h : n ≤ 1000000) : n ≤ sizeLine := Nat.le_trans h (by rw [sizeLine_eq]; decide)
theorem size_lt (h : n < 1000000) : n < sizeLine := Nat.lt_of_lt_of_le h (by rw [sizeLine_eq]; decide)

/-! ### values -/
theorem q_var {k : Nat} (h : σ[k]? = some (some v)) (q : Q v H) : tVar k σ H Q := ⟨v, h, q⟩
theorem q_c (q : Q v H) : tC v σ H Q := q
theorem q_op (q : ta σ H fun x H1 => tb σ H1 fun y H2 => r x y H2 Q) : tOp r ta tb σ H Q := q
theorem q_un {f : V → Hp → VK → Prop} (q : ta σ H fun x H1 => f x H1 Q) : tUn f ta σ H Q := q
theorem q_rU {g : Int → V} (q : Q (g i) H) : rU g (.int i) H Q := ⟨i, rfl, q⟩
theorem q_I0 {g : Int → Int → V} (q : Q (g i j) H) : rI0 g (.int i) (.int j) H Q := ⟨i, j, rfl, rfl, q⟩
theorem q_mod (h : 0 < j) (q : Q (.int (i % j)) H) : rI (fun _ j => 0 < j) (fun i j => .int (i % j)) (.int i) (.int j) H Q := ⟨i, j, rfl, rfl, h, q⟩
theorem q_fdiv (h : 0 < j ∧ j < 1073741824) (q : Q (.int (i / j)) H) : rI CDiv (fun i j => .int (i / j)) (.int i) (.int j) H Q := ⟨i, j, rfl, rfl, h, q⟩
theorem q_mulL (h : -18446744073709551616 < i ∧ i < 18446744073709551616) (q : Q (.int (i * j)) H) : rI CMul (fun i j => .int (i * j)) (.int i) (.int j) H Q := ⟨i, j, rfl, rfl, .inl (by simpa using h), q⟩
theorem q_mulR (h : -18446744073709551616 < j ∧ j < 18446744073709551616) (q : Q (.int (i * j)) H) : rI CMul (fun i j => .int (i * j)) (.int i) (.int j) H Q := ⟨i, j, rfl, rfl, .inr (by simpa using h), q⟩
theorem q_pow12 (q : Q (.int 1000000000000) H) : rI CPow (fun i j => .int (i ^ j.toNat)) (.int 10) (.int 12) H Q := ⟨10, 12, rfl, rfl, ⟨by decide, by decide, by decide⟩, q⟩
theorem q_pow24 (q : Q (.int 1000000000000000000000000) H) : rI CPow (fun i j => .int (i ^ j.toNat)) (.int 10) (.int 24) H Q := ⟨10, 24, rfl, rfl, ⟨by decide, by decide, by decide⟩, q⟩
theorem q_pow40 (q : Q (.int 10000000000000000000000000000000000000000) H) : rI CPow (fun i j => .int (i ^ j.toNat)) (.int 10) (.int 40) H Q := ⟨10, 40, rfl, rfl, ⟨by decide, by decide, by decide⟩, q⟩
theorem q_eqI (q : Q (.bl (decide (i = j))) H) : rEq (.int i) (.int j) H Q := ⟨rfl, by
  have e : decide (V.int i = V.int j) = decide (i = j) := by simp
  rw [e]
  exact q⟩
theorem q_neI (q : Q (.bl (!decide (i = j))) H) : rNe (.int i) (.int j) H Q := ⟨rfl, by
  have e : decide (V.int i = V.int j) = decide (i = j) := by simp
  rw [e]
  exact q⟩
theorem q_eqS {a b : Str} (q : Q (.bl (decide (a = b))) H) : rEq (.str a) (.str b) H Q := ⟨rfl, by
  have e : decide (V.str a = V.str b) = decide (a = b) := by simp
  rw [e]
  exact q⟩
theorem q_neS {a b : Str} (q : Q (.bl (!decide (a = b))) H) : rNe (.str a) (.str b) H Q := ⟨rfl, by
  have e : decide (V.str a = V.str b) = decide (a = b) := by simp
  rw [e]
  exact q⟩
theorem q_eqB {a b : Bool} (q : Q (.bl (decide (a = b))) H) : rEq (.bl a) (.bl b) H Q := ⟨rfl, by
  have e : decide (V.bl a = V.bl b) = decide (a = b) := by simp
  rw [e]
  exact q⟩
theorem q_neB {a b : Bool} (q : Q (.bl (!decide (a = b))) H) : rNe (.bl a) (.bl b) H Q := ⟨rfl, by
  have e : decide (V.bl a = V.bl b) = decide (a = b) := by simp
  rw [e]
  exact q⟩
theorem q_cons (q : ta σ H fun x H1 => tr σ H1 fun xs H2 => QA (x :: xs) H2) : tCons ta tr σ H QA := q
theorem q_nil (q : QA [] H) : tNil σ H QA := q
theorem q_tup (q : tr σ H fun xs H1 => xs.length ≤ sizeLine ∧ ∀ p, H1 p = none → Q (.ref p) (upd H1 p (.tup xs))) : tTup tr σ H Q := q
theorem q_lst (q : tr σ H fun xs H1 => xs.length ≤ sizeLine ∧ ∀ p, H1 p = none → Q (.ref p) (upd H1 p (.lst xs))) : tLst tr σ H Q := q
theorem q_call {sp : Sp} {dvs : List V} {E : XK} (q : tr σ H fun vs H1 => sp (vs ++ dvs) H1 Q E) : tCall sp dvs E tr σ H Q := q
theorem q_callS {sp : Sp} {E : L2.St → XK} (q : tr σ H fun vs H1 => sp vs H1 Q (E σ)) : tCallS sp E tr σ H Q := q
theorem q_CB {f : List V → Hp → VK → Prop} (q : tr σ H fun vs H1 => f vs H1 Q) : tCB f tr σ H Q := q
theorem q_ixL {p : Addr} {xs : List V} (h : SqL K H p xs) (a : atI xs i = some v) (q : Q v H) : rIxL K (.ref p) (.int i) H Q := ⟨p, xs, i, v, rfl, rfl, h, a, q⟩
theorem q_ixT {p : Addr} {xs : List V} (h : SqT K H p xs) (a : atI xs i = some v) (q : Q v H) : rIxT K (.ref p) (.int i) H Q := ⟨p, xs, i, v, rfl, rfl, h, a, q⟩
theorem atI_mem {xs : List V} (h0 : 0 ≤ i) (h1 : i < xs.length) : ∃ v, v ∈ xs ∧ atI xs i = some v := by
  obtain ⟨k, rfl⟩ : ∃ k : Nat, i = (k : Int) := ⟨i.toNat, by omega⟩
  have hk : k < xs.length := by omega
  exact ⟨xs[k], List.getElem_mem hk, atI_nat (List.getElem?_eq_getElem hk)⟩
/-- an item of a list at an index that lies in it: one of its items -/
theorem q_ixAny {p : Addr} {xs : List V} (h : SqL K H p xs) (h0 : 0 ≤ i) (h1 : i < xs.length) (q : ∀ v, v ∈ xs → Q v H) : rIxL K (.ref p) (.int i) H Q := by
  obtain ⟨v, m, a⟩ := atI_mem (xs := xs) h0 h1
  exact q_ixL h a (q v m)

/-! ### tests -/
theorem q_test (q : te σ H fun x H' => ∃ k, x = .bl k ∧ QB k H') : tTest te σ H QB := q
theorem q_tB (q : te σ H fun x H' => ∃ k, x = .bl k ∧ QB k H') : tB te σ H QB := q
theorem q_not (q : tt σ H fun c H1 => QB (!c) H1) : tNot tt σ H QB := q
theorem q_and (q : tt σ H fun c H1 => if c = true then tu σ H1 QB else QB false H1) : tAnd tt tu σ H QB := q
theorem q_or (q : tt σ H fun c H1 => if c = true then QB true H1 else tu σ H1 QB) : tOr tt tu σ H QB := q
theorem q_andV (q : ta σ H fun x H1 => ∃ c, x = .bl c ∧ if c = true then tb σ H1 Q else Q (.bl false) H1) : tAndV ta tb σ H Q := q
theorem q_orV (q : ta σ H fun x H1 => ∃ c, x = .bl c ∧ if c = true then Q (.bl true) H1 else tb σ H1 Q) : tOrV ta tb σ H Q := q
theorem q_notV (q : ta σ H fun x H1 => ∃ c, x = .bl c ∧ Q (.bl (!c)) H1) : tNotV ta σ H Q := q
theorem q_ifE (q : tt σ H fun c H1 => if c = true then ta σ H1 Q else tb σ H1 Q) : tIf tt ta tb σ H Q := q
theorem q_bl {b : Bool} {P : Bool → Prop} (q : P b) : ∃ k, V.bl b = .bl k ∧ P k := ⟨b, rfl, q⟩
theorem q_iteD {p A B : Prop} [Decidable p] (h1 : p → A) (h2 : ¬ p → B) : if decide p = true then A else B := by
  by_cases h : p
  · rw [decide_eq_true h]; exact iteT (h1 h)
  · rw [decide_eq_false h]; exact iteF (h2 h)
theorem q_iteN {p A B : Prop} [Decidable p] (h1 : ¬ p → A) (h2 : p → B) : if (!decide p) = true then A else B := by
  by_cases h : p
  · rw [decide_eq_true h]; exact iteF (h2 h)
  · rw [decide_eq_false h]; exact iteT (h1 h)
theorem q_iteB {b : Bool} {A B : Prop} (h1 : b = true → A) (h2 : b = false → B) : if b = true then A else B := by
  cases b
  · exact iteF (h2 rfl)
  · exact iteT (h1 rfl)
theorem q_iteT {A B : Prop} (h1 : A) : if true = true then A else B := iteT h1
theorem q_iteNT {A B : Prop} (h1 : B) : if (!true) = true then A else B := iteF h1
theorem q_iteNF {A B : Prop} (h1 : A) : if (!false) = true then A else B := iteT h1
theorem q_iteF {A B : Prop} (h1 : B) : if false = true then A else B := iteF h1

/-! ### statements -/
variable {nx bk ct : L2.St → Hp → Prop} {rt : VK}
theorem q_seq (q : t ⟨u ⟨nx, rt, bk, ct⟩, rt, bk, ct⟩ σ H) : tSeq t u ⟨nx, rt, bk, ct⟩ σ H := q
theorem q_next (q : nx σ H) : tNext ⟨nx, rt, bk, ct⟩ σ H := q
theorem q_set {k : Nat} (q : te σ H fun x H1 => nx (σ.set k (some x)) H1) : tAsg te (gName k) ⟨nx, rt, bk, ct⟩ σ H := q
theorem q_asg {g : TG} (q : te σ H fun x H1 => g x σ H1 nx) : tAsg te g ⟨nx, rt, bk, ct⟩ σ H := q
theorem q_ret (q : te σ H rt) : tRet te ⟨nx, rt, bk, ct⟩ σ H := q
theorem q_retN (q : rt .non H) : tRetN ⟨nx, rt, bk, ct⟩ σ H := q
theorem q_drop (q : te σ H fun _ H1 => nx σ H1) : tDrop te ⟨nx, rt, bk, ct⟩ σ H := q
theorem q_ifS (q : tt σ H fun b H1 => if b = true then t ⟨nx, rt, bk, ct⟩ σ H1 else u ⟨nx, rt, bk, ct⟩ σ H1) : tIfS tt t u ⟨nx, rt, bk, ct⟩ σ H := q
theorem iteD_yes {p A B : Prop} [Decidable p] (h : p) (a : A) : if decide p = true then A else B := by
  rw [decide_eq_true h]; exact iteT a
theorem iteD_no {p A B : Prop} [Decidable p] (h : ¬ p) (a : B) : if decide p = true then A else B := by
  rw [decide_eq_false h]; exact iteF a
theorem iteN_yes {p A B : Prop} [Decidable p] (h : ¬ p) (a : A) : if (!decide p) = true then A else B := by
  rw [decide_eq_false h]; exact iteT a
theorem iteN_no {p A B : Prop} [Decidable p] (h : p) (a : B) : if (!decide p) = true then A else B := by
  rw [decide_eq_true h]; exact iteF a
end
/-- the i-th of a written list of slots -/
theorem q_slot {σ : L2.St} {k : Nat} {v : V} (h : σ[k]? = some (some v)) : σ[k]? = some (some v) := h
end Ts

/-! Defs as they stand, own error classes, a def that is handed the error that is held. -/
namespace Ts
open PySem PySem.Spec PyProof.Rows L2
/-- a def of the text, without defaults -/
structure Def (K : PySem.W.Frag) (nm qual : Str) (st : Stmt) (ps : List Str) (f : Addr) (fd : FuncData) : Prop where
  F : Fun K nm qual st f fd
  b : Binds K fd ps []
/-- a def that may raise, called where it does not -/
theorem pass_never {X : Cx} : Passes (L2.CX X.prog X.w) X E0 := fun _ _ _ _ _ _ _ h => by
  obtain ⟨_, _, _, _, _, _, _, _, _, _, _, _, z⟩ := h
  exact z.elim
/-- an own error class below StretchError -/
structure ExK (K : PySem.W.Frag) (C : Addr) : Prop where
  x : PySem.W.excIn K C [.type "ValueError", .type "Exception", .type "BaseException", .type "object"] "ValueError.__new__" = true
  kp : PySem.W.keepIn K (.ref C) = true
  tp : PySem.W.typeIn K (.ref C) = some (.type "type")
  c : ExcC K C
theorem ExK.mk' {X : Cx} {C : Addr} (T : ExK X.K C) {x m : Str} {j : Nat} {p p2 pos : Pos} (gC : X.mg x = some (.ref C)) (hg : Gl X x) (hdb : (x == ("__debug__" : Str)) = false := by decide) :
    PMk X (.Call (.Name x p) [.Constant (.str m) j p2] [] pos) (fun _ H Q => Q (.ref C) none H) :=
  pmk_own PySem.F.excBase_ValueError T.x gC T.kp (raises_own T.c.hs T.tp) hg hdb

section
variable {P : Program} {w : World} {K : PySem.W.Frag} {mg : Str → Option Value} {base : Heap}
/-- what a def with one parameter gives when it is handed the held error: G by the error's class -/
structure FnE (P : Program) (w : World) (K : PySem.W.Frag) (mg : Str → Option Value) (base : Heap) (k : Nat) (f : Addr) (fd : FuncData) (x : Str) (G : Value → Hp → VK → Prop) : Prop where
  run : ∀ (A : Around) (outer : List Env) (s : Shared) (H : Hp) (args : Args) (Q : VK) (a : Addr) (oe : Obj) (cls : Value), L2H.RoomH k A → L2H.PinOk outer H s (a, oe) → Zc cls none oe → (∃ vs, oe.data = .fields vs) →
    Env0 P w K mg base A outer s H → BindsTo s fd args [(x, .ref a)] → G cls H Q → codeAny (model P w) A (.call (.ref f) args) (CR CX0 outer P w H s Q E0) s
theorem Fun.okE {x qual y : Str} {st : Stmt} {f : Addr} {fd : FuncData} {N : List Str} {k : Nat} {G : Value → Hp → VK → Prop} (F : Fun K x qual st f fd) (S : FnScope N [y] (defScope st))
    (hbody : ∀ (cdv : Value) (A : Around) (outer : List Env) (s : Shared) (H : Hp) (Q : VK) (a : Addr) (oe : Obj) (cls : Value), L2H.RoomH k (A.deeper (envOfC qual (defScope st) s.heap.objs.size f cdv)) → Zc cls none oe → (∃ vs, oe.data = .fields vs) → G cls H Q →
      ∃ t, PSs (L2H.cxH CX0 P w K mg base N qual (defScope st) f cdv A outer s H E0 (a, oe)) (defBody st) t ∧ t { nx := fun _ H' => Q .non H', rt := Q } (start N [.ref a]) H) : FnE P w K mg base (k + 1) f fd y G := by
  obtain ⟨oc, od, kV, doc, pm, an, cdv, ct, osl, rfl, lk, hcd⟩ := F.ex
  refine ⟨fun A outer s H args Q a oe cls hr hpin hz hf e0 hb hG => ?_⟩
  have inK : K.In s.heap := e0.mod.kin.keeps fun b o e => (e0.bs b o e).1
  have lim : s.heap.NoLimit := e0.mod.nolimit.keeps fun b o e => (e0.bs b o e).1
  have par : ∀ z ∈ [y].zip [Value.ref a], (defScope st).names.lookup z.1 = some .local ∨ ((defScope st).names.lookup z.1 = some .cell ∧
      ((cellsFrom (s.heap.objs.size + 1) (defScope st).names []).lookup z.1).isSome = true) := by
    rintro ⟨n, v⟩ hz'
    rcases S.par n (List.of_mem_zip hz').1 with q | q
    · exact .inl q
    · exact .inr ⟨q, PySem.W.cellsFrom_some _ _ _ (.inl q)⟩
  refine codeAny_call_function hr.depth (inK _ _ lk) rfl S.co S.gen rfl (PySem.W.codeRec_of inK hcd) (hb _ _ _ _ ?_)
  refine wpAny_newFunctionEnv_cells S.kind par fun env he s1 x1 => ?_
  subst he
  refine ⟨lim.keeps x1.toInCall.keep, codeAny_func ?_⟩
  obtain ⟨t, ht, hq⟩ := hbody cdv A outer s H Q a oe cls (hr.deeper _) hz hf hG
  have rv : Vals [V.ref a] [Value.ref a] := .cons rfl .nil
  have I := L2H.inv_startH (CX := CX0) (E := E0) (f := f) (cd := cdv) (qual := qual) S hpin e0 (vs := [V.ref a]) rfl rv x1
  refine wpAny_mono (ht.run [] s1 (start N [.ref a]) H _ I hq) (fun fl s' hs => ?_) fun e s' hs => hs
  cases fl with
  | ret u =>
    obtain ⟨v, σ', H', J, r1, q⟩ := hs
    exact ⟨v, H', J.os, J.bare, J.base, J.hok, r1, q⟩
  | next =>
    obtain ⟨σ', H', J, q⟩ := hs
    exact ⟨V.non, H', J.os, J.bare, J.base, J.hok, rfl, q⟩
  | brk =>
    obtain ⟨_, _, _, q⟩ := hs
    exact q.elim
  | cont =>
    obtain ⟨_, _, _, q⟩ := hs
    exact q.elim
/-- f(n) in a suite, n the held error's name -/
theorem pe_callE {X : Cx} {a : Addr} {oe : Obj} {cls : Value} {d : Option Addr} {k i : Nat} {f : Addr} {fd : FuncData} {x y n : Str} {G : Value → Hp → VK → Prop} {p p2 pos : Pos} (F : FnE X.prog X.w X.K X.mg X.base k f fd y G) (hr : L2H.RoomH k X.A) (hp : (a, oe) ∈ X.pn)
    (hz : Zc cls d oe) (hf : ∃ vs, oe.data = .fields vs) (hg : Gl X x) (hm : X.mg x = some (.ref f)) (hk : PySem.W.keepIn X.K (.ref f) = true) (hb : Binds X.K fd [y] []) (hn : PE X (.Name n p2) (tVar i)) (hdb : (x == ("__debug__" : Str)) = false := by decide)
    (he : starEach [.Name n p2] X.env = (false, eval (.Name n p2) X.env) :: starEach [] X.env := by rfl) (hpl : (backTo pos (starEach [] X.env)).any (·.1) = false := by rfl) :
    PE X (.Call (.Name x p) [.Name n p2] [] pos) (fun σ H Q => σ[i]? = some (some (.ref a)) ∧ d = none ∧ G cls H Q) := by
  refine ⟨fun pins s σ H Q I h => ?_⟩
  obtain ⟨hi, rfl, hG⟩ := h
  refine wpAny_Call_Name_kw (ld_glob I hg hm ?_ hdb)
  have ha : PA X [.Name n p2] (tCons (tVar i) tNil) := pa_cons hn pa_nil he
  refine PySem.W.callWith_K (h₀ := X.base) I.ok.mod.kin hk (thn (ha.run pos pins s σ H (fun vs H1 => vs = [V.ref a] ∧ H1 = H) I ⟨_, hi, rfl, rfl⟩) fun us s1 hh => ?_) he hpl
  obtain ⟨vs, H1, I1, r, rfl, rfl⟩ := hh
  refine ⟨I1.kIn, ?_⟩
  cases r with
  | cons ru rn =>
    cases rn
    cases ru
    have P1 := I1.pin (a, oe) (List.mem_append_left _ hp)
    have hpin : L2H.PinOk X.stack H1 s1 (a, oe) := ⟨P1.1, P1.2.1, fun hm => (List.mem_cons.mp (I1.stkSub a hm)).elim P1.2.2.1 P1.2.2.2.1, P1.2.2.2.2⟩
    refine wpAny_call (codeAny_mono (F.run X.A X.stack s1 H1 ⟨[.ref a], []⟩ Q a oe cls hr hpin hz hf I1.env0 (hb s1 [.ref a] I1.kIn rfl) hG) fun r s' hq => ?_)
    cases r with
    | error e => exact False.elim hq
    | ok fl =>
      cases fl with
      | ret u => exact I1.after hq
      | next => exact False.elim hq
      | brk => exact False.elim hq
      | cont => exact False.elim hq
/-- isinstance(e, C), e a held error of the class at D -/
theorem call_isP {X : Cx} {a D : Addr} {oe : Obj} (hp : (a, oe) ∈ X.pn) (C : ExcC X.K D) (hz : Zc (.ref D) none oe) (hf : ∃ vs, oe.data = .fields vs) : CallR X (.builtin "isinstance") (rIsE X.K D a) := by
  intro pins s σ H xs us Q I r h
  obtain ⟨c, cv, b, rfl, hcv, e, q⟩ := h
  cases r with
  | cons rx rr =>
    cases rr with
    | cons rt rr =>
      cases rr
      cases rx
      cases hcv _ rt
      have g := (I.pin (a, oe) (List.mem_append_left _ hp)).1
      obtain ⟨vs, hv⟩ := hf
      have J : PySem.W.InstAt s.heap a oe D none := by
        obtain ⟨c1, d1, dt, sl⟩ := oe
        obtain ⟨h1, h2⟩ := hz
        dsimp only at h1 h2 hv
        subst h1 h2 hv
        exact ⟨g, rfl, rfl, trivial⟩
      exact PySem.W.kia_one (PySem.W.handS_kitx_exc C.hg C.hk C.hs C.hd C.ha C.hn C.ht C.hm) I.kIn J e (fun z => nomatch z) fun tk => ⟨.bl b, H, I.kept (t' := tk) fun _ _ z => z, rfl, q⟩
end
theorem cls_own {K : PySem.W.Frag} {t : Value} {C : Addr} {b : Bool} (h1 : PySem.W.isClsIn K C = true) (h2 : PySem.W.typeIn K (.ref C) = some (.type "type")) (h3 : PySem.W.subIn K t (.ref C) = some b) : PySem.W.kitCls K t (.ref C) = some b := by
  have e : ((PySem.W.clsIn K C).isSome && PySem.W.typeIn K (.ref C) == some (.type "type")) = true := by
    have h1' : (PySem.W.clsIn K C).isSome = true := h1
    rw [h1', h2]
    rfl
  show (if ((PySem.W.clsIn K C).isSome && PySem.W.typeIn K (.ref C) == some (.type "type")) = true then PySem.W.subIn K t (.ref C) else none) = some b
  rw [if_pos e]
  exact h3
theorem exm_own {K : PySem.W.Frag} {t : Value} {C : Addr} {b : Bool} (h0 : PySem.W.subIn K (.ref C) (.type "BaseException") = some true) (h1 : PySem.W.isClsIn K C = true) (h2 : PySem.W.typeIn K (.ref C) = some (.type "type")) (h3 : PySem.W.subIn K t (.ref C) = some b) : PySem.W.exmOne K t (.ref C) = some b := by
  have e : (PySem.W.subIn K (.ref C) (.type "BaseException") == some true) = true := by
    rw [h0]
    rfl
  show (if (PySem.W.subIn K (.ref C) (.type "BaseException") == some true) = true then PySem.W.kitCls K t (.ref C) else none) = some b
  rw [if_pos e]
  exact cls_own h1 h2 h3
theorem kit_self {K : PySem.W.Frag} {v : Value} : PySem.W.kitOne K v v = some true := if_pos (beq_self_eq_true v)
theorem kit_no {K : PySem.W.Frag} {D C : Addr} (s1 : PySem.W.subIn K (.ref D) (.ref D) = some true) (s0 : PySem.W.subIn K (.ref D) (.ref C) = some false) (h1 : PySem.W.isClsIn K C = true) (h2 : PySem.W.typeIn K (.ref C) = some (.type "type")) : PySem.W.kitOne K (.ref D) (.ref C) = some false := by
  have ne : ¬ ((Value.ref D == Value.ref C) = true) := fun q => by
    have e := beq_iff_eq.mp q
    rw [e, ← e, e] at s0
    rw [e] at s1
    rw [s1] at s0
    cases s0
  show (if (Value.ref D == Value.ref C) = true then some true else PySem.W.kitCls K (.ref D) (.ref C)) = some false
  rw [if_neg ne]
  exact cls_own h1 h2 s0
theorem kit_bt {K : PySem.W.Frag} {D : Addr} {n : String} {b : Bool} (s : PySem.W.subIn K (.ref D) (.type n) = some b) (h : PySem.W.kitMeta n = true) : PySem.W.kitOne K (.ref D) (.type n) = some b := by
  show (if (Value.ref D == Value.type n) = true then some true else if PySem.W.kitMeta n = true then PySem.W.subIn K (.ref D) (.type n) else none) = some b
  rw [if_neg (by simp), if_pos h]
  exact s
end Ts

/-! Further rules of one operation; the walk's own small steps. -/
namespace Ts
open PySem PySem.Spec PyProof.Rows L2
/-- list.count of a flat value in a list of flat values -/
def rCountF (K : PySem.W.Frag) : V → List V → Hp → VK → Prop := fun x xs H Q => ∃ (p : Addr) (ys : List V) (y : V), x = .ref p ∧ xs = [y] ∧ SqL K H p ys ∧ flatV y = true ∧ ys.all flatV = true ∧ Q (.int (ys.countP (fun z => eqV z y) : Nat)) H
theorem countP_eqU {x : V} : ∀ {xs : List V} {us : List Value}, Vals xs us → xs.all flatV = true → us.countP (eqU x) = xs.countP fun y => eqV y x
  | _, _, .nil, _ => rfl
  | y :: xs, u :: us, .cons r t, f => by
    rw [List.all_cons, Bool.and_eq_true] at f
    rw [List.countP_cons, List.countP_cons, eqU_of r f.1, countP_eqU t f.2]
theorem mt_countB {X : Cx} : MtR X "list.count" (rCountF X.K) := by
  intro pins s σ H x xs v us Q I rx rxs h
  obtain ⟨p, ys, y, rfl, rfl, hs, fy, fys, q⟩ := h
  cases rx
  obtain ⟨u, rfl, ru⟩ := rxs.one
  obtain ⟨its, rv, ⟨⟨cls, dd, data, sl⟩, n, ho, hc, hdn, hd⟩, hlen⟩ := I.list hs
  simp only at hc hd
  subst hc hd
  refine call_meets PySem.F.slot_list_count ⟨_, ho, rfl⟩ PySem.F.entry_list_count (PySem.F.args_list_count_2 _ _)
    (SeqAt.list_countAt p its.toArray n dd sl u (eqU y)) ⟨ho, fun w hw => mem_eqAt ru fy rv fys w (by simpa using hw), ?_⟩
  have e := countP_eqU (x := y) rv fys
  refine ⟨.int (ys.countP (fun z => eqV z y) : Nat), H, I.tok _, ⟨s.toks, ?_⟩, q⟩
  show Value.int ((its.countP (eqU y) : Nat) : Int) s.toks = Value.int ((ys.countP (fun z => eqV z y) : Nat) : Int) s.toks
  rw [e]
def rLen (K : PySem.W.Frag) : List V → Hp → VK → Prop := fun xs H Q => ∃ x n, xs = [x] ∧ LenV K x H n ∧ Q (.int (n : Nat)) H
theorem call_len' {X : Cx} : CallR X (.builtin "len") (rLen X.K) := call_len
def rMax2 : List V → Hp → VK → Prop := fun xs H Q => ∃ i j, xs = [.int i, .int j] ∧ Q (.int (if j > i then j else i)) H
def rMin2 : List V → Hp → VK → Prop := fun xs H Q => ∃ i j, xs = [.int i, .int j] ∧ Q (.int (if j < i then j else i)) H
theorem call_max2' {X : Cx} (hc : X.calm = true) : CallR X (.builtin "max") rMax2 := call_max2 hc
theorem call_min2' {X : Cx} (hc : X.calm = true) : CallR X (.builtin "min") rMin2 := call_min2 hc
def rInt1 : List V → Hp → VK → Prop := fun xs H Q => (∃ i, xs = [.int i] ∧ Q (.int i) H) ∨ ∃ k, xs = [.bl k] ∧ Q (.int (if k then 1 else 0)) H
theorem call_int1' {X : Cx} : CallR X (.type "int") rInt1 := call_int1
def rListOf (K : PySem.W.Frag) : List V → Hp → VK → Prop := fun xs H Q => ∃ p ys, xs = [.ref p] ∧ (SqL K H p ys ∨ SqT K H p ys) ∧ ∀ l, H l = none → Q (.ref l) (upd H l (.lst ys))
theorem call_list' {X : Cx} : CallR X (.type "list") (rListOf X.K) := call_list_of
/-! ### the rules with the written part by its own name -/
section
variable {X : Cx} {tg : Expr} {pos : Pos}
theorem ix_listK (K : PySem.W.Frag) (h : X.K = K := by rfl) : IxR X (rIxL K) := by subst h; exact ix_list
theorem ix_tupK (K : PySem.W.Frag) (h : X.K = K := by rfl) : IxR X (rIxT K) := by subst h; exact ix_tup
theorem call_lenK (K : PySem.W.Frag) (h : X.K = K := by rfl) : CallR X (.builtin "len") (rLen K) := by subst h; exact call_len'
theorem call_isiK' (K : PySem.W.Frag) (h : X.K = K := by rfl) : CallR X (.builtin "isinstance") (rIsi K) := by subst h; exact call_isi
theorem op_eqK (K : PySem.W.Frag) (hu : X.A.units + 64 < cLine) (h : X.K = K := by rfl) : OpR X (compareOp .Eq) (rEqD K) := by subst h; exact op_eqD hu
theorem op_neK (K : PySem.W.Frag) (hu : X.A.units + 64 < cLine) (h : X.K = K := by rfl) : OpR X (compareOp .NotEq) (rNeD K) := by subst h; exact op_neD hu
theorem cr_sortedK (K : PySem.W.Frag) (h : X.K = K := by rfl) : CallR X (.builtin "sorted") (rSortedI K) := by subst h; exact cr_sortedI
theorem cr_maxK (K : PySem.W.Frag) (hc : X.calm = true) (h : X.K = K := by rfl) : CallR X (.builtin "max") (rMax K) := by subst h; exact cr_max hc
theorem cr_minK (K : PySem.W.Frag) (hc : X.calm = true) (h : X.K = K := by rfl) : CallR X (.builtin "min") (rMin K) := by subst h; exact cr_min hc
theorem call_listK (K : PySem.W.Frag) (h : X.K = K := by rfl) : CallR X (.type "list") (rListOf K) := by subst h; exact call_list'
theorem op_inK (K : PySem.W.Frag) (h : X.K = K := by rfl) : OpR X (compareOp .In) (rIn K false) := by subst h; exact op_in_seq
theorem op_notInK (K : PySem.W.Frag) (h : X.K = K := by rfl) : OpR X (compareOp .NotIn) (rIn K true) := by subst h; exact op_notIn_seq
theorem sl_listK (K : PySem.W.Frag) (h : X.K = K := by rfl) : SlR X (rSlL K) := by subst h; exact sl_list
theorem mt_countK (K : PySem.W.Frag) (h : X.K = K := by rfl) : MtR X "list.count" (rCountF K) := by subst h; exact mt_countB
theorem mt_indexK (K : PySem.W.Frag) (h : X.K = K := by rfl) : MtR X "list.index" (rIndex K) := by subst h; exact mt_index
theorem pi_listK (K : PySem.W.Frag) {l : Expr} {tl : TE} (hl : PE X l tl) (h : X.K = K := by rfl) : PI X tg l (iList K tl) := by subst h; exact pi_list hl
theorem pi_tupK (K : PySem.W.Frag) {l : Expr} {tl : TE} (hl : PE X l tl) (h : X.K = K := by rfl) : PI X tg l (iTup K tl) := by subst h; exact pi_tup hl
theorem pg_tupK (K : PySem.W.Frag) {es : List Expr} {k : Nat} {t : TGs} (n : Nat) (hc : X.calm = true) (hg : PGs X es t) (hn : (assignEach es X.env).length = n := by rfl) (hst : (assignEach es X.env).findIdx? (·.1) = none := by rfl) (h : X.K = K := by rfl) : PG X (.Tuple es k pos) (gTup K n t) := by
  subst h; exact pg_tup hc hg hn hst
theorem pg_lstK (K : PySem.W.Frag) {es : List Expr} {k : Nat} {t : TGs} (n : Nat) (hc : X.calm = true) (hg : PGs X es t) (hn : (assignEach es X.env).length = n := by rfl) (hst : (assignEach es X.env).findIdx? (·.1) = none := by rfl) (h : X.K = K := by rfl) : PG X (.Tuple es k pos) (gLst K n t) := by
  subst h; exact pg_lst hc hg hn hst
end
section
variable {σ : L2.St} {H H1 H2 : Hp} {Q : VK} {K : PySem.W.Frag} {v : V} {i j : Int}
theorem q_lenL {a : Addr} {xs : List V} (h : SqL K H a xs) (q : Q (.int (xs.length : Nat)) H) : rLen K [.ref a] H Q := ⟨_, _, rfl, .inl ⟨xs, h, rfl⟩, q⟩
theorem q_lenT {a : Addr} {xs : List V} (h : SqT K H a xs) (q : Q (.int (xs.length : Nat)) H) : rLen K [.ref a] H Q := ⟨_, _, rfl, .inr ⟨xs, h, rfl⟩, q⟩
theorem q_lenS {z : Str} (h : z.length ≤ sizeLine) (q : Q (.int (z.length : Nat)) H) : rLen K [.str z] H Q := ⟨_, _, rfl, ⟨h, rfl⟩, q⟩
theorem q_max2 (q : ∀ z : Int, i ≤ z → j ≤ z → (z = i ∨ z = j) → Q (.int z) H) : rMax2 [.int i, .int j] H Q := ⟨i, j, rfl, q _ (by split <;> omega) (by split <;> omega) (by split <;> simp)⟩
theorem q_min2 (q : ∀ z : Int, z ≤ i → z ≤ j → (z = i ∨ z = j) → Q (.int z) H) : rMin2 [.int i, .int j] H Q := ⟨i, j, rfl, q _ (by split <;> omega) (by split <;> omega) (by split <;> simp)⟩
theorem q_intI (q : Q (.int i) H) : rInt1 [.int i] H Q := .inl ⟨i, rfl, q⟩
theorem q_intB {b : Bool} (q : ∀ z : Int, 0 ≤ z → z ≤ 1 → (b = true → z = 1) → (b = false → z = 0) → Q (.int z) H) : rInt1 [.bl b] H Q := .inr ⟨b, rfl, by
  cases b
  · exact q 0 (by decide) (by decide) (fun h => nomatch h) (fun _ => rfl)
  · exact q 1 (by decide) (by decide) (fun _ => rfl) (fun h => nomatch h)⟩
theorem q_isNN (q : Q (.bl true) H) : rIsN .non .non H Q := ⟨rfl, q⟩
theorem q_isNI (q : Q (.bl false) H) : rIsN (.int i) .non H Q := ⟨rfl, q⟩
theorem q_isNR {a : Addr} (q : Q (.bl false) H) : rIsN (.ref a) .non H Q := ⟨rfl, q⟩
theorem q_notNN (q : Q (.bl false) H) : rNotN .non .non H Q := ⟨rfl, q⟩
theorem q_notNI (q : Q (.bl true) H) : rNotN (.int i) .non H Q := ⟨rfl, q⟩
theorem q_notNR {a : Addr} (q : Q (.bl true) H) : rNotN (.ref a) .non H Q := ⟨rfl, q⟩
theorem q_blT {p : Prop} [Decidable p] (h : p) (q : Q (.bl true) H) : Q (.bl (decide p)) H := by
  rw [decide_eq_true h]
  exact q
theorem at0 {xs : List V} (h : xs[0]? = some v) : atI xs 0 = some v := atI_nat (j := 0) h
theorem at1 {xs : List V} (h : xs[1]? = some v) : atI xs 1 = some v := atI_nat (j := 1) h
theorem at2 {xs : List V} (h : xs[2]? = some v) : atI xs 2 = some v := atI_nat (j := 2) h
theorem at3 {xs : List V} (h : xs[3]? = some v) : atI xs 3 = some v := atI_nat (j := 3) h
theorem at4 {xs : List V} (h : xs[4]? = some v) : atI xs 4 = some v := atI_nat (j := 4) h
/-- a list and a list, a new list -/
theorem q_cat {a b : Addr} {xs ys : List V} (h1 : H a = some (.lst xs)) (h2 : H b = some (.lst ys)) (hl : xs.length + ys.length ≤ sizeLine) (q : ∀ p H', Same H H' → H' p = some (.lst (xs ++ ys)) → Q (.ref p) H') : rCat (.ref a) (.ref b) H Q :=
  ⟨a, b, xs, ys, rfl, rfl, h1, h2, hl, fun p hp => q p _ (same_upd hp) upd_same⟩
theorem q_bm {to : TE} {tr : TA} {Ty : String} {r : V → List V → Hp → VK → Prop} (q : to σ H fun x H1 => tyV K Ty x H1 ∧ tr σ H1 fun xs H2 => r x xs H2 Q) : tBM K Ty r to tr σ H Q := q
theorem q_bm0 {to : TE} {Ty : String} {r : V → List V → Hp → VK → Prop} (q : to σ H fun x H1 => tyV K Ty x H1 ∧ r x [] H1 Q) : tBM0 K Ty r to σ H Q := q
/-- == of equal data -/
theorem q_eqSame {x y : V} {d : PyData} (h1 : Dp K H x d) (h2 : Dp K H y d) (hs : SeqAt.shaped d = true) (q : Q (.bl true) H) : rEqD K x y H Q := ⟨d, d, h1, h2, hs, hs, by rw [SeqAt.eqv_refl d (SeqAt.canLay_of_shaped hs)]; exact q⟩
theorem q_neSame {x y : V} {d : PyData} (h1 : Dp K H x d) (h2 : Dp K H y d) (hs : SeqAt.shaped d = true) (q : Q (.bl false) H) : rNeD K x y H Q := ⟨d, d, h1, h2, hs, hs, by rw [SeqAt.eqv_refl d (SeqAt.canLay_of_shaped hs)]; exact q⟩
theorem dp_pair {a : Addr} {x y : Int} (h : H a = some (.tup [.int x, .int y])) : Dp K H (.ref a) (.tuple [.int x, .int y]) := .tup (sqT_of h) (.cons (.int x) (.cons (.int y) .nil))
/-- all items are numbers from lo to hi -/
def AllIn (lo hi : Int) : List V → Prop
  | [] => True
  | .int z :: r => lo ≤ z ∧ z ≤ hi ∧ AllIn lo hi r
  | _ => False
theorem AllIn.at {lo hi : Int} : ∀ {xs : List V}, AllIn lo hi xs → ∀ v, v ∈ xs → ∃ z, v = .int z ∧ lo ≤ z ∧ z ≤ hi
  | .int z :: r, h, v, hv => by
    rcases List.mem_cons.mp hv with rfl | hv
    · exact ⟨z, rfl, h.1, h.2.1⟩
    · exact AllIn.at h.2.2 v hv
theorem q_ixB (lo hi : Int) {p : Addr} {xs : List V} (h : SqL K H p xs) (h0 : 0 ≤ i) (h1 : i < xs.length) (ha : AllIn lo hi xs) (q : ∀ z, lo ≤ z → z ≤ hi → Q (.int z) H) : rIxL K (.ref p) (.int i) H Q :=
  q_ixAny h h0 h1 fun v hv => by
    obtain ⟨z, rfl, z0, z1⟩ := ha.at v hv
    exact q z z0 z1
/-- two numbers sorted -/
theorem q_sort2 {a : Addr} {x y : Int} (h : SqL K H a [.int x, .int y]) (q : ∀ (u v : Int) (p : Addr) (H' : Hp), u ≤ v → ((u = x ∧ v = y) ∨ (u = y ∧ v = x)) → Same H H' → H' p = some (.lst [.int u, .int v]) → Q (.ref p) H') : rSortedI K [.ref a] H Q := by
  refine ⟨a, [x, y], rfl, h, fun ns' p hp hs hn => ?_⟩
  have hl : ns'.length = 2 := hp.length_eq
  match ns', hl with
  | [u, v], _ =>
    have huv : u ≤ v := by
      rw [List.pairwise_cons] at hs
      exact hs.1 v (by simp)
    refine q u v p _ huv ?_ (same_upd hn) upd_same
    have m1 : u ∈ [x, y] := hp.mem_iff.mp (by simp)
    have m2 : v ∈ [x, y] := hp.mem_iff.mp (by simp)
    have m3 : x ∈ [u, v] := hp.mem_iff.mpr (by simp)
    have m4 : y ∈ [u, v] := hp.mem_iff.mpr (by simp)
    simp only [List.mem_cons, List.not_mem_nil, or_false] at m1 m2 m3 m4
    rcases m1 with rfl | rfl
    · rcases m2 with rfl | rfl
      · rcases m4 with rfl | rfl <;> exact .inl ⟨rfl, rfl⟩
      · exact .inl ⟨rfl, rfl⟩
    · rcases m2 with rfl | rfl
      · exact .inr ⟨rfl, rfl⟩
      · rcases m3 with rfl | rfl <;> exact .inr ⟨rfl, rfl⟩
/-- a, b = a list of two -/
theorem q_lst2 {j k : Nat} {p : Addr} {x y : V} {σ : L2.St} {R : L2.St → Hp → Prop} (h : SqL K H p [x, y]) (q : R ((σ.set j (some x)).set k (some y)) H) : gLst K 2 (gCons (gName j) (gCons (gName k) gNil)) (.ref p) σ H R := ⟨p, [x, y], rfl, h, rfl, x, [y], rfl, y, [], rfl, rfl, q⟩
/-- a, b = a tuple of two; five -/
theorem q_tup2 {j k : Nat} {p : Addr} {x y : V} {σ : L2.St} {R : L2.St → Hp → Prop} (h : SqT K H p [x, y]) (q : R ((σ.set j (some x)).set k (some y)) H) : gTup K 2 (gCons (gName j) (gCons (gName k) gNil)) (.ref p) σ H R := ⟨p, [x, y], rfl, h, rfl, x, [y], rfl, y, [], rfl, rfl, q⟩
theorem q_tup5 {j k l m n : Nat} {p : Addr} {x y z u v : V} {σ : L2.St} {R : L2.St → Hp → Prop} (h : SqT K H p [x, y, z, u, v]) (q : R (((((σ.set j (some x)).set k (some y)).set l (some z)).set m (some u)).set n (some v)) H) :
    gTup K 5 (gCons (gName j) (gCons (gName k) (gCons (gName l) (gCons (gName m) (gCons (gName n) gNil))))) (.ref p) σ H R := ⟨p, [x, y, z, u, v], rfl, h, rfl, x, _, rfl, y, _, rfl, z, _, rfl, u, _, rfl, v, [], rfl, rfl, q⟩
theorem q_name {j : Nat} {x : V} {σ : L2.St} {R : L2.St → Hp → Prop} (q : R (σ.set j (some x)) H) : gName j x σ H R := q
/-- a letter stands at a -/
structure Ltr where
  name : Str
  sent : Int
  back : Int
  low : Int
  high : Int
def LtAt (H : Hp) (a : Addr) (L : Ltr) : Prop := H a = some (.tup [.str L.name, .int L.sent, .int L.back, .int L.low, .int L.high])
/-- a pair of numbers stands at a -/
def Pr (H : Hp) (a : Addr) (x y : Int) : Prop := H a = some (.tup [.int x, .int y])
theorem Pr.cong {a : Addr} {x y x' y' : Int} (h : H a = some (.tup [.int x, .int y])) (e1 : x = x') (e2 : y = y') : Pr H a x' y' := by
  subst e1 e2
  exact h
theorem iteN_len {xs : List V} {m : Int} {A B : Prop} (h : ((xs.length : Nat) : Int) = m) (b : B) : if (!decide (((xs.length : Nat) : Int) = m)) = true then A else B := iteN_no h b
theorem q_listOf {a : Addr} {xs : List V} (h : SqL K H a xs) (q : ∀ p H', Same H H' → H' p = some (.lst xs) → Q (.ref p) H') : rListOf K [.ref a] H Q := ⟨a, xs, rfl, .inl h, fun l hl => q l _ (same_upd hl) upd_same⟩
theorem q_isi {x : V} {a b : String} {r : Bool} (hx : TyX K H x (.type a)) (e : kitB a b = some r) (q : Q (.bl r) H) : rIsi K [x, .ty b] H Q := ⟨x, .ty b, _, _, r, rfl, .ty b, hx, kit_ty e, q⟩
theorem q_isi_int_int (q : Q (.bl true) H) : rIsi K [.int i, .ty "int"] H Q := q_isi (.base (.int i)) (by decide +kernel) q
theorem q_isi_int_bool (q : Q (.bl false) H) : rIsi K [.int i, .ty "bool"] H Q := q_isi (.base (.int i)) (by decide +kernel) q
theorem q_isi_str_str {z : Str} (q : Q (.bl true) H) : rIsi K [.str z, .ty "str"] H Q := q_isi (.base (.str z)) (by decide +kernel) q
theorem q_isi_tup_tup {a : Addr} {xs : List V} (h : H a = some (.tup xs)) (q : Q (.bl true) H) : rIsi K [.ref a, .ty "tuple"] H Q := q_isi (.base (.tup h)) (by decide +kernel) q
theorem q_isi_lst_lst {a : Addr} {xs : List V} (h : H a = some (.lst xs)) (q : Q (.bl true) H) : rIsi K [.ref a, .ty "list"] H Q := q_isi (.base (.lst h)) (by decide +kernel) q
end
end Ts

/-! Loops, comprehensions, texts, data in the heap. -/
namespace Ts
open PySem PySem.Spec PyProof.Rows L2
/-! ### what is made of tuples stays while lists change -/
/-- all tuples are as they were -/
def TSame (H H' : Hp) : Prop := ∀ a xs, H a = some (.tup xs) → H' a = some (.tup xs)
theorem TSame.refl (H : Hp) : TSame H H := fun _ _ h => h
theorem TSame.trans {H H1 H2 : Hp} (a : TSame H H1) (b : TSame H1 H2) : TSame H H2 := fun c xs h => b c xs (a c xs h)
theorem tsame_of {H H' : Hp} (s : Same H H') : TSame H H' := fun a xs h => s a _ h
theorem tsame_lst {H : Hp} {p : Addr} {xs ys : List V} (h : H p = some (.lst xs)) : TSame H (upd H p (.lst ys)) := fun a zs e => by
  rw [upd_ne (ne_of e h (by intro q; cases q))]
  exact e
theorem tsame_dK {H : Hp} {p : Addr} {xs ys : List (Key × V)} (h : H p = some (.dK xs)) : TSame H (upd H p (.dK ys)) := fun a zs e => by
  rw [upd_ne (ne_of e h (by intro q; cases q))]
  exact e
/-- an object that H does not know may change, step by step -/
theorem same_mut2 {H H1 : Hp} {p : Addr} {o : HO} (s : Same H H1) (h : H p = none) : Same H (upd H1 p o) := same_mut s h
section
variable {α β : Type} {R S : α → β → Prop}
theorem Paired.len : ∀ {xs : List α} {ys : List β}, Paired R xs ys → xs.length = ys.length
  | _, _, .nil => rfl
  | _, _, .cons _ t => by rw [List.length_cons, List.length_cons, Paired.len t]
theorem Paired.imp (h : ∀ x y, R x y → S x y) : ∀ {xs : List α} {ys : List β}, Paired R xs ys → Paired S xs ys
  | _, _, .nil => .nil
  | _, _, .cons r t => .cons (h _ _ r) (Paired.imp h t)
theorem Paired.snoc {x : α} {y : β} (r : R x y) : ∀ {xs : List α} {ys : List β}, Paired R xs ys → Paired R (xs ++ [x]) (ys ++ [y])
  | _, _, .nil => .cons r .nil
  | _, _, .cons q t => .cons q (Paired.snoc r t)
theorem Paired.at_ : ∀ {xs : List α} {ys : List β} {i : Nat} {x : α}, Paired R xs ys → xs[i]? = some x → ∃ y, ys[i]? = some y ∧ R x y
  | _, _, _, _, .nil, e => by simp at e
  | _, _, 0, _, .cons r t, e => by
    simp at e
    subst e
    exact ⟨_, rfl, r⟩
  | _, _, i + 1, x, .cons _ t, e => by
    obtain ⟨y, h1, h2⟩ := Paired.at_ (i := i) (x := x) t (by simpa using e)
    exact ⟨y, by simpa using h1, h2⟩
theorem Paired.at' : ∀ {xs : List α} {ys : List β} {i : Nat} {y : β}, Paired R xs ys → ys[i]? = some y → ∃ x, xs[i]? = some x ∧ R x y
  | _, _, _, _, .nil, e => by simp at e
  | _, _, 0, _, .cons r t, e => by
    simp at e
    subst e
    exact ⟨_, rfl, r⟩
  | _, _, i + 1, y, .cons _ t, e => by
    obtain ⟨x, h1, h2⟩ := Paired.at' (i := i) (y := y) t (by simpa using e)
    exact ⟨x, by simpa using h1, h2⟩
theorem Paired.map_left {γ : Type} {f : γ → α} : ∀ {zs : List γ} {ys : List β}, Paired (fun z y => R (f z) y) zs ys → Paired R (zs.map f) ys
  | _, _, .nil => .nil
  | _, _, .cons r t => .cons r (Paired.map_left t)
theorem Paired.map_right {γ : Type} {f : γ → β} : ∀ {xs : List α} {zs : List γ}, Paired (fun x z => R x (f z)) xs zs → Paired R xs (zs.map f)
  | _, _, .nil => .nil
  | _, _, .cons r t => .cons r (Paired.map_right t)
theorem Paired.app : ∀ {xs xs' : List α} {ys ys' : List β}, Paired R xs ys → Paired R xs' ys' → Paired R (xs ++ xs') (ys ++ ys')
  | _, _, _, _, .nil, q => q
  | _, _, _, _, .cons r t, q => .cons r (Paired.app t q)
theorem Paired.mem' : ∀ {xs : List α} {ys : List β} {x : α}, Paired R xs ys → x ∈ xs → ∃ y, y ∈ ys ∧ R x y
  | _, _, _, .nil, h => by simp at h
  | _, _, x, .cons r t, h => by
    rcases List.mem_cons.mp h with rfl | h
    · exact ⟨_, List.mem_cons_self, r⟩
    · obtain ⟨y, h1, h2⟩ := Paired.mem' t h
      exact ⟨y, List.mem_cons_of_mem _ h1, h2⟩
end

section
variable {σ : L2.St} {H H1 H2 : Hp} {Q : VK} {K : PySem.W.Frag} {v : V} {i j : Int} {g : TG} {tb : TS} {nx bk ct : L2.St → Hp → Prop} {rt : VK} {wi : TI} {te : TE} {tt : TT} {vs : List Nat} {R : It → Hp → Prop} {tr : TA}

/-! ### for -/
theorem q_for (q : wi σ H fun J H1 => ∃ W : Nat → Nat → L2.St → Hp → Prop, (∃ m, W 0 m σ H1) ∧ ∀ i m σ H, W i m σ H → (J.stop i H ∧ (Ends.mk nx rt bk ct).nx σ H) ∨ (J.go i H ∧ ∃ N : L2.St → Hp → Prop, (∀ σ' H', N σ' H' → ∃ m', m' < m ∧ W (i + 1) m' σ' H') ∧
    ∀ x H', J.yld i H x H' → g x σ H' fun σ2 H2 => tb { Ends.mk nx rt bk ct with nx := N, ct := N, bk := (Ends.mk nx rt bk ct).nx } σ2 H2)) : tFor wi g tb ⟨nx, rt, bk, ct⟩ σ H := q
theorem q_iList (q : te σ H fun x H1 => ∃ a, x = .ref a ∧ (∃ xs, SqL K H1 a xs) ∧ R (Itl K a) H1) : iList K te σ H R := q
theorem q_iTup (q : te σ H fun x H1 => ∃ a, x = .ref a ∧ (∃ xs, SqT K H1 a xs) ∧ R (Itt K a) H1) : iTup K te σ H R := q
theorem q_iStr (q : te σ H fun v H1 => ∃ x, v = .str x ∧ R (Its x) H1) : iStr te σ H R := q
theorem q_iRng1 (q : tr σ H fun vs H1 => ∃ j : Int, vs = [.int j] ∧ -(2 ^ 62) ≤ j ∧ j < 2 ^ 62 ∧ R (Itr 0 j.toNat) H1) : iRng1 tr σ H R := q
abbrev ForW (J : It) (σ : L2.St) (H : Hp) (g : TG) (tb : TS) (nx : L2.St → Hp → Prop) (rt : VK) (bk ct : L2.St → Hp → Prop) : Prop :=
  ∃ W : Nat → Nat → L2.St → Hp → Prop, (∃ m, W 0 m σ H) ∧ ∀ i m σ H, W i m σ H → (J.stop i H ∧ (Ends.mk nx rt bk ct).nx σ H) ∨ (J.go i H ∧ ∃ N : L2.St → Hp → Prop, (∀ σ' H', N σ' H' → ∃ m', m' < m ∧ W (i + 1) m' σ' H') ∧
    ∀ x H', J.yld i H x H' → g x σ H' fun σ2 H2 => tb { Ends.mk nx rt bk ct with nx := N, ct := N, bk := (Ends.mk nx rt bk ct).nx } σ2 H2)
/-- over a list -/
theorem q_forL {a : Addr} (xs : List V) (h : SqL K H a xs) (Pv : Nat → L2.St → Hp → Prop) (h0 : Pv 0 σ H) (hG : ∀ i σ H, Pv i σ H → SqL K H a xs)
    (hs : ∀ (i : Nat) x σ H, xs[i]? = some x → Pv i σ H → g x σ H fun σ2 H2 => tb ⟨Pv (i + 1), rt, nx, Pv (i + 1)⟩ σ2 H2) (hd : ∀ σ H, Pv xs.length σ H → nx σ H) :
    ∃ a', V.ref a = .ref a' ∧ (∃ xs, SqL K H a' xs) ∧ ForW (Itl K a') σ H g tb nx rt bk ct :=
  ⟨a, rfl, ⟨xs, h⟩, for_list (D := ⟨nx, rt, bk, ct⟩) Pv h0 (fun i σ H _ p => hG i σ H p) hs hd⟩
/-- over a tuple -/
theorem q_forT {a : Addr} (xs : List V) (h : SqT K H a xs) (Pv : Nat → L2.St → Hp → Prop) (h0 : Pv 0 σ H) (hG : ∀ i σ H, Pv i σ H → SqT K H a xs)
    (hs : ∀ (i : Nat) x σ H, xs[i]? = some x → Pv i σ H → g x σ H fun σ2 H2 => tb ⟨Pv (i + 1), rt, nx, Pv (i + 1)⟩ σ2 H2) (hd : ∀ σ H, Pv xs.length σ H → nx σ H) :
    ∃ a', V.ref a = .ref a' ∧ (∃ xs, SqT K H a' xs) ∧ ForW (Itt K a') σ H g tb nx rt bk ct :=
  ⟨a, rfl, ⟨xs, h⟩, for_tup (D := ⟨nx, rt, bk, ct⟩) Pv h0 (fun i σ H _ p => hG i σ H p) hs hd⟩
/-- over a text -/
theorem q_forS {z : Str} (Pv : Nat → L2.St → Hp → Prop) (h0 : Pv 0 σ H)
    (hs : ∀ (i c : Nat) σ H, z.cps.toList[i]? = some c → Pv i σ H → g (.str ⟨#[c]⟩) σ H fun σ2 H2 => tb ⟨Pv (i + 1), rt, nx, Pv (i + 1)⟩ σ2 H2) (hd : ∀ σ H, Pv z.cps.toList.length σ H → nx σ H) :
    ∃ x, V.str z = .str x ∧ ForW (Its x) σ H g tb nx rt bk ct :=
  ⟨z, rfl, for_it (D := ⟨nx, rt, bk, ct⟩) walk_str Pv h0 (fun _ _ _ _ _ => True.intro) (fun i x σ H H' hi p y => by
    obtain ⟨rfl, c, hc, rfl⟩ := y
    exact hs i c σ _ (by simpa using hc) p) (fun σ H p => hd σ H (by simpa using p))⟩
/-- over range(n) -/
theorem q_forR {n : Int} (h0 : 0 ≤ n) (h1 : n ≤ 1000000) (Pv : Nat → L2.St → Hp → Prop) (hp : Pv 0 σ H)
    (hs : ∀ (i : Nat) σ H, (i : Int) < n → Pv i σ H → g (.int (i : Int)) σ H fun σ2 H2 => tb ⟨Pv (i + 1), rt, nx, Pv (i + 1)⟩ σ2 H2) (hd : ∀ σ H, Pv n.toNat σ H → nx σ H) :
    ∃ j : Int, [V.int n] = [.int j] ∧ -(2 ^ 62) ≤ j ∧ j < 2 ^ 62 ∧ ForW (Itr 0 j.toNat) σ H g tb nx rt bk ct :=
  ⟨n, rfl, by omega, by omega, for_range (D := ⟨nx, rt, bk, ct⟩) (lo := 0) (n := n.toNat) Pv hp (fun i σ H hi p => by
    have e : (0 : Int) + (i : Int) = (i : Int) := Int.zero_add _
    rw [e]
    exact hs i σ H (by omega) p) hd⟩

/-! ### comprehensions: which turns give, and what each gives -/
abbrev LcT (g : TG) (tt : TT) (te : TE) (σ : L2.St) (vs : List Nat) (x : V) (H : Hp) (QB : Hp → Prop) (QV : V → Hp → Prop) : Prop :=
  g x (wipe σ vs) H fun σ2 H2 => wipe σ2 vs = wipe σ vs ∧ tt σ2 H2 fun b H3 => if b = true then te σ2 H3 QV else QB H3
abbrev LcW (J : It) (σ : L2.St) (H : Hp) (g : TG) (tt : TT) (te : TE) (vs : List Nat) (Q : VK) : Prop :=
  ∀ D, H D = none → ∃ W : Nat → Nat → Hp → Prop, (∃ m, W 0 m (upd H D (.lst []))) ∧ ∀ i m H, W i m H → (J.stop i H ∧ Q (.ref D) H) ∨ (J.go i H ∧ ∃ Nx : Hp → Prop, (∀ H', Nx H' → ∃ m', m' < m ∧ W (i + 1) m' H') ∧
    ∀ x H', J.yld i H x H' → g x (wipe σ vs) H' fun σ2 H2 => wipe σ2 vs = wipe σ vs ∧ tt σ2 H2 fun b H3 => if b = true then te σ2 H3 fun y H4 => ∃ acc, H4 D = some (.lst acc) ∧ acc.length < sizeLine ∧ Nx (upd H4 D (.lst (acc ++ [y]))) else Nx H3)
/-- a list's method; append -/
theorem q_tyL {l : Addr} {xs : List V} {P : Prop} (h : H l = some (.lst xs)) (q : P) : tyV K "list" (.ref l) H ∧ P := ⟨.inl ⟨rfl, _, sqL_of h⟩, q⟩
theorem q_append {l : Addr} {xs : List V} {y : V} (h : H l = some (.lst xs)) (hl : xs.length < 1000000) (q : Q .non (upd H l (.lst (xs ++ [y])))) : rAppend (.ref l) [y] H Q := ⟨l, xs, y, rfl, rfl, h, size_lt hl, q⟩
theorem q_yes {QB : Bool → Hp → Prop} (q : QB true H) : tYes σ H QB := q
theorem q_lc (q : wi σ H fun J H1 => LcW J σ H1 g tt te vs Q) : tLc wi g tt te vs σ H Q := q
/-- over any walk whose things stay: f tells which turns give, S what a turn gives (by tuples alone) -/
theorem q_lcWalk {J : It} {n : Nat} {G : Hp → Prop} {Y : Nat → Hp → V → Hp → Prop} (w : Walk J n G Y) (hn : n ≤ 100000) (f : Nat → Bool) (S : Nat → Hp → V → Prop) (hG : ∀ H', Same H H' → G H')
    (hY : ∀ i H x H', Y i H x H' → H' = H) (hm : ∀ i y H1 H2, TSame H1 H2 → S i H1 y → S i H2 y)
    (hs : ∀ (i : Nat) x H' (QB : Hp → Prop) (QV : VK), i < n → Y i H' x H' → Same H H' → (f i = false → ∀ H2, Same H' H2 → QB H2) → (∀ y H2, f i = true → Same H' H2 → S i H2 y → QV y H2) → LcT g tt te σ vs x H' QB QV)
    (q : ∀ ys D H', Same H H' → H D = none → H' D = some (.lst ys) → Paired (fun i y => S i H' y) ((List.range n).filter f) ys → Q (.ref D) H') : LcW J σ H g tt te vs Q := by
  intro D hD
  refine lc_it w (fun i H' => Same H H' ∧ ∃ ys, H' D = some (.lst ys) ∧ Paired (fun j y => S j H' y) ((List.range i).filter f) ys) ⟨same_upd hD, [], upd_same, .nil⟩ (fun i H' _ p => hG H' p.1) (fun i x H1 H1' hi p y => ?_) (fun H' p => ?_)
  · have e := hY i H1 x H1' y
    subst e
    obtain ⟨s1, ys, hys, pr⟩ := p
    have hl : ys.length < sizeLine := by
      have h1 := Paired.len pr
      have h2 := List.length_filter_le f (List.range i)
      rw [List.length_range] at h2
      exact size_lt (by omega)
    refine hs i x H1' _ _ hi y s1 ?_ ?_
    · intro hf H2 s2
      refine ⟨s1.trans s2, ys, s2 _ _ hys, ?_⟩
      rw [List.range_succ, List.filter_append, List.filter_cons, if_neg (by rw [hf]; decide)]
      simp only [List.filter_nil, List.append_nil]
      exact Paired.imp (fun j y r => hm j y _ _ (tsame_of s2) r) pr
    · intro y H2 hf s2 r
      have h2 : H2 D = some (.lst ys) := s2 _ _ hys
      have t2 : TSame H2 (upd H2 D (.lst (ys ++ [y]))) := tsame_lst h2
      refine ⟨ys, h2, hl, same_mut (s1.trans s2) hD, ys ++ [y], upd_same, ?_⟩
      rw [List.range_succ, List.filter_append, List.filter_cons, if_pos hf]
      exact Paired.snoc (R := fun j z => S j (upd H2 D (.lst (ys ++ [y]))) z) (hm _ _ _ _ t2 r) (Paired.imp (fun j y r => hm j y _ _ t2 (hm j y _ _ (tsame_of s2) r)) pr)
  · obtain ⟨s1, ys, hys, pr⟩ := p
    exact q ys D H' s1 hD hys pr
/-- over a list, a tuple, a text, a range -/
theorem q_lcL {a : Addr} {xs : List V} (h : SqL K H a xs) (hn : xs.length ≤ 100000) (f : Nat → Bool) (S : Nat → Hp → V → Prop) (hm : ∀ i y H1 H2, TSame H1 H2 → S i H1 y → S i H2 y)
    (hs : ∀ (i : Nat) x H' (QB : Hp → Prop) (QV : VK), xs[i]? = some x → Same H H' → (f i = false → ∀ H2, Same H' H2 → QB H2) → (∀ y H2, f i = true → Same H' H2 → S i H2 y → QV y H2) → LcT g tt te σ vs x H' QB QV)
    (q : ∀ ys D H', Same H H' → H D = none → H' D = some (.lst ys) → Paired (fun i y => S i H' y) ((List.range xs.length).filter f) ys → Q (.ref D) H') :
    ∃ a', V.ref a = .ref a' ∧ (∃ xs, SqL K H a' xs) ∧ LcW (Itl K a') σ H g tt te vs Q :=
  ⟨a, rfl, ⟨xs, h⟩, q_lcWalk walk_list hn f S (fun H' s => s.seq h) (fun _ _ _ _ y => y.1) hm (fun i x H' QB QV _ y s => hs i x H' QB QV y.2 s) q⟩
theorem q_lcT {a : Addr} {xs : List V} (h : SqT K H a xs) (hn : xs.length ≤ 100000) (f : Nat → Bool) (S : Nat → Hp → V → Prop) (hm : ∀ i y H1 H2, TSame H1 H2 → S i H1 y → S i H2 y)
    (hs : ∀ (i : Nat) x H' (QB : Hp → Prop) (QV : VK), xs[i]? = some x → Same H H' → (f i = false → ∀ H2, Same H' H2 → QB H2) → (∀ y H2, f i = true → Same H' H2 → S i H2 y → QV y H2) → LcT g tt te σ vs x H' QB QV)
    (q : ∀ ys D H', Same H H' → H D = none → H' D = some (.lst ys) → Paired (fun i y => S i H' y) ((List.range xs.length).filter f) ys → Q (.ref D) H') :
    ∃ a', V.ref a = .ref a' ∧ (∃ xs, SqT K H a' xs) ∧ LcW (Itt K a') σ H g tt te vs Q :=
  ⟨a, rfl, ⟨xs, h⟩, q_lcWalk walk_tup hn f S (fun H' s => Same.sqT s h) (fun _ _ _ _ y => y.1) hm (fun i x H' QB QV _ y s => hs i x H' QB QV y.2 s) q⟩
theorem q_lcS {z : Str} (hn : z.cps.toList.length ≤ 100000) (f : Nat → Bool) (S : Nat → Hp → V → Prop) (hm : ∀ i y H1 H2, TSame H1 H2 → S i H1 y → S i H2 y)
    (hs : ∀ (i c : Nat) H' (QB : Hp → Prop) (QV : VK), z.cps.toList[i]? = some c → Same H H' → (f i = false → ∀ H2, Same H' H2 → QB H2) → (∀ y H2, f i = true → Same H' H2 → S i H2 y → QV y H2) → LcT g tt te σ vs (.str ⟨#[c]⟩) H' QB QV)
    (q : ∀ ys D H', Same H H' → H D = none → H' D = some (.lst ys) → Paired (fun i y => S i H' y) ((List.range z.cps.toList.length).filter f) ys → Q (.ref D) H') :
    ∃ x, V.str z = .str x ∧ LcW (Its x) σ H g tt te vs Q :=
  ⟨z, rfl, q_lcWalk walk_str (by simpa using hn) f S (fun _ _ => True.intro) (fun _ _ _ _ y => y.1) hm (fun i x H' QB QV _ y s => by
    obtain ⟨_, c, hc, rfl⟩ := y
    exact hs i c H' QB QV (by simpa using hc) s) (fun ys D H' s hD h p => q ys D H' s hD h (by simpa using p))⟩
theorem q_lcR {n : Int} (h0 : 0 ≤ n) (h1 : n ≤ 100000) (f : Nat → Bool) (S : Nat → Hp → V → Prop) (hm : ∀ i y H1 H2, TSame H1 H2 → S i H1 y → S i H2 y)
    (hs : ∀ (i : Nat) H' (QB : Hp → Prop) (QV : VK), (i : Int) < n → Same H H' → (f i = false → ∀ H2, Same H' H2 → QB H2) → (∀ y H2, f i = true → Same H' H2 → S i H2 y → QV y H2) → LcT g tt te σ vs (.int (i : Int)) H' QB QV)
    (q : ∀ ys D H', Same H H' → H D = none → H' D = some (.lst ys) → Paired (fun i y => S i H' y) ((List.range n.toNat).filter f) ys → Q (.ref D) H') :
    ∃ j : Int, [V.int n] = [.int j] ∧ -(2 ^ 62) ≤ j ∧ j < 2 ^ 62 ∧ LcW (Itr 0 j.toNat) σ H g tt te vs Q :=
  ⟨n, rfl, by omega, by omega, q_lcWalk walk_range (by omega) f S (fun _ _ => True.intro) (fun _ _ _ _ y => y.1) hm (fun i x H' QB QV hi y s => by
    obtain ⟨_, rfl⟩ := y
    have e : (0 : Int) + (i : Int) = (i : Int) := Int.zero_add _
    show _ → _ → LcT g tt te σ vs (.int ((0 : Int) + (i : Int))) H' QB QV
    rw [e]
    exact hs i H' QB QV (by omega) s) q⟩
theorem filt_all (n : Nat) : (List.range n).filter (fun _ => true) = List.range n := by simp
end
end Ts

/-! Texts; clocks and letters as data. -/
namespace Ts
open PySem PySem.Spec PyProof.Rows L2
/-! ### texts -/
theorem tl_app (a b : Str) : (a ++ b).cps.toList = a.cps.toList ++ b.cps.toList := by
  have e : (a ++ b).cps = a.cps ++ b.cps := rfl
  rw [e]
  simp
theorem tl_len (z : Str) : z.length = z.cps.toList.length := by
  show z.cps.size = _
  simp
theorem str_ext {a b : Str} (h : a.cps.toList = b.cps.toList) : a = b := by
  cases a; cases b
  simp at h
  rw [h]
theorem cut_hd (z : Str) (k : Nat) : (cutS z none (some (k : Int))).cps.toList = z.cps.toList.take k := by
  show ((z.cps.toList.drop (HT.sIx z.length 0 none)).take (HT.sIx z.length z.length (some (k : Int)) - HT.sIx z.length 0 none)).toArray.toList = _
  have e1 : HT.sIx z.length 0 none = 0 := HT.sIx_none ..
  have e2 : HT.sIx z.length z.length (some (k : Int)) = min k z.length := HT.sIx_nat ..
  rw [e1, e2, tl_len]
  simp [List.take_eq_take_iff]
theorem cut_tl (z : Str) (k : Nat) : (cutS z (some (k : Int)) none).cps.toList = z.cps.toList.drop k := by
  show ((z.cps.toList.drop (HT.sIx z.length 0 (some (k : Int)))).take (HT.sIx z.length z.length none - HT.sIx z.length 0 (some (k : Int)))).toArray.toList = _
  have e1 : HT.sIx z.length z.length none = z.length := HT.sIx_none ..
  have e2 : HT.sIx z.length 0 (some (k : Int)) = min k z.length := HT.sIx_nat ..
  rw [e1, e2, tl_len]
  simp only [List.toList_toArray]
  by_cases h : k ≤ z.cps.toList.length
  · rw [Nat.min_eq_left h, List.take_of_length_le (by simp)]
  · rw [Nat.min_eq_right (by omega), List.drop_of_length_le (Nat.le_refl _), List.drop_of_length_le (by omega)]
    simp
/-- small letters alone -/
def Low (z : Str) : Prop := ∀ c ∈ z.cps.toList, 97 ≤ c ∧ c ≤ 122
theorem Low.app {a b : Str} (ha : Low a) (hb : Low b) : Low (a ++ b) := fun c h => by
  rw [tl_app] at h
  rcases List.mem_append.mp h with h | h
  · exact ha c h
  · exact hb c h
theorem Low.ok {z : Str} (h : Low z) : PyData.strOk z = true := by
  unfold PyData.strOk
  rw [Array.all_eq_true]
  intro i hi
  have := h z.cps[i] (by simp)
  simp
  omega
abbrev abc : Str := "abcdefghijklmnopqrstuvwxyz"
theorem abc_at : ∀ i : Fin 26, abc.cps.toList[i.val]? = some (97 + i.val) := by decide +kernel
theorem abc_len : abc.cps.toList.length = 26 := by decide +kernel
section
variable {σ : L2.St} {H : Hp} {Q : VK} {K : PySem.W.Frag} {v : V} {i j : Int} {te : TE} {tl th : TO}
theorem op_addS {X : Cx} : OpR X (binaryOp .Add) rAddS := op_add_str
theorem q_addS {a b : Str} (h : a.length + b.length ≤ 1000000) (q : Q (.str (a ++ b)) H) : rAddS (.str a) (.str b) H Q := ⟨a, b, rfl, rfl, size_of h, q⟩
theorem q_ixAbc (h0 : 0 ≤ i) (h1 : i < 26) (q : ∀ c : Nat, c = 97 + i.toNat → Q (.str ⟨#[c]⟩) H) : rIxS (.str abc) (.int i) H Q := by
  obtain ⟨k, rfl⟩ : ∃ k : Nat, i = (k : Int) := ⟨i.toNat, by omega⟩
  refine ⟨abc, _, 97 + k, rfl, rfl, ?_, atI_nat (abc_at ⟨k, by omega⟩), q _ (by simp)⟩
  rw [tl_len, abc_len]
  exact size_of (by decide)
theorem q_sl {r : V → Option Int → Option Int → Hp → VK → Prop} (q : te σ H fun x H1 => tl σ H1 fun l H2 => th σ H2 fun u H3 => r x l u H3 Q) : tSl r te tl th σ H Q := q
theorem q_noPart {R : Option Int → Hp → Prop} (q : R none H) : tNoPart σ H R := q
theorem q_part {R : Option Int → Hp → Prop} (q : te σ H fun x H1 => ∃ i, x = .int i ∧ R (some i) H1) : tPart te σ H R := q
theorem q_partI {R : Int → Prop} (q : R i) : ∃ j, V.int i = .int j ∧ R j := ⟨i, rfl, q⟩
theorem q_slS {z : Str} {lo hi : Option Int} (h : z.length ≤ 1000000) (q : Q (.str (cutS z lo hi)) H) : rSlS (.str z) lo hi H Q := ⟨z, rfl, size_of h, q⟩
end
theorem low_one {c : Nat} (h : 97 ≤ c) (h1 : c ≤ 122) : Low ⟨#[c]⟩ := fun d hd => by
  simp at hd
  omega
theorem low_cut {z : Str} {k : Nat} (h : Low z) : Low (cutS z none (some (k : Int))) ∧ Low (cutS z (some (k : Int)) none) :=
  ⟨fun c hc => h c (List.mem_of_mem_take (by rw [cut_hd] at hc; exact hc)), fun c hc => h c (List.mem_of_mem_drop (by rw [cut_tl] at hc; exact hc))⟩
theorem low_empty : Low "" := by
  intro c h
  have e : (("" : Str).cps.toList) = [] := by decide +kernel
  rw [e] at h
  cases h
theorem low_z : Low "z" := by
  have e : (("z" : Str).cps.toList) = [122] := by decide +kernel
  intro c h
  rw [e] at h
  simp at h
  omega
theorem paired_eq {α β : Type} {f : α → β} : ∀ {l : List α} {ys : List β}, Paired (fun a y => y = f a) l ys → ys = l.map f
  | _, _, .nil => rfl
  | _, _, .cons r t => by rw [List.map_cons, ← r, paired_eq t]
/-- what a filtered walk over a list gives -/
theorem paired_filter {α β : Type} {R : α → β → Prop} (l : List α) (p : α → Bool) : ∀ (n : Nat), n ≤ l.length → ∀ ys, Paired (fun i y => ∃ c, l[i]? = some c ∧ R c y) ((List.range n).filter (fun i => (l[i]?).elim false p)) ys → Paired R ((l.take n).filter p) ys
  | 0, _, ys, h => by
    simp at h
    cases h
    simp
    exact .nil
  | n + 1, hn, ys, h => by
    have hlt : n < l.length := by omega
    have e : l[n]? = some l[n] := List.getElem?_eq_getElem hlt
    rw [List.range_succ, List.filter_append, List.filter_cons] at h
    rw [List.take_add_one, e, List.filter_append]
    simp only [Option.toList_some, List.filter_cons, List.filter_nil, e, Option.elim_some] at h ⊢
    by_cases hp : p l[n] = true
    · rw [if_pos hp] at h ⊢
      obtain ⟨ys', y, rfl, h1, h2⟩ := paired_snoc_inv h
      obtain ⟨c, hc, r⟩ := h2
      rw [e] at hc
      cases hc
      exact Paired.snoc r (paired_filter l p n (by omega) ys' h1)
    · rw [if_neg hp] at h ⊢
      simp only [List.append_nil] at h ⊢
      exact paired_filter l p n (by omega) ys h
where
  paired_snoc_inv {α β : Type} {R : α → β → Prop} : ∀ {xs : List α} {x : α} {ys : List β}, Paired R (xs ++ [x]) ys → ∃ ys' y, ys = ys' ++ [y] ∧ Paired R xs ys' ∧ R x y
    | [], x, _, .cons r .nil => ⟨[], _, rfl, .nil, r⟩
    | a :: r, x, _, .cons q t => by
      obtain ⟨ys', y, rfl, h1, h2⟩ := paired_snoc_inv t
      exact ⟨_ :: ys', y, rfl, .cons q h1, h2⟩

/-! ### data in the heap -/
abbrev Stc := Option (Int × Int)
abbrev Clk := Str × Stc
def IsSt (H : Hp) (v : V) : Stc → Prop
  | none => v = .non
  | some s => ∃ a, v = .ref a ∧ H a = some (.tup [.int s.1, .int s.2])
def IsCk (H : Hp) (v : V) (c : Clk) : Prop := ∃ a u, v = .ref a ∧ H a = some (.tup [.str c.1, u]) ∧ IsSt H u c.2
def IsLt (H : Hp) (v : V) (L : Ltr) : Prop := ∃ a, v = .ref a ∧ LtAt H a L
def IsPr (H : Hp) (v : V) (s : Int × Int) : Prop := ∃ a, v = .ref a ∧ H a = some (.tup [.int s.1, .int s.2])
theorem IsSt.mono {H H' : Hp} {v : V} {o : Stc} (s : TSame H H') (h : IsSt H v o) : IsSt H' v o := by
  cases o with
  | none => exact h
  | some x =>
    obtain ⟨a, rfl, e⟩ := h
    exact ⟨a, rfl, s _ _ e⟩
theorem IsCk.mono {H H' : Hp} {v : V} {c : Clk} (s : TSame H H') (h : IsCk H v c) : IsCk H' v c := by
  obtain ⟨a, u, rfl, e, q⟩ := h
  exact ⟨a, u, rfl, s _ _ e, q.mono s⟩
theorem IsLt.mono {H H' : Hp} {v : V} {c : Ltr} (s : TSame H H') (h : IsLt H v c) : IsLt H' v c := by
  obtain ⟨a, rfl, e⟩ := h
  exact ⟨a, rfl, s _ _ e⟩
theorem IsPr.mono {H H' : Hp} {v : V} {c : Int × Int} (s : TSame H H') (h : IsPr H v c) : IsPr H' v c := by
  obtain ⟨a, rfl, e⟩ := h
  exact ⟨a, rfl, s _ _ e⟩
/-- the values xs are the clocks cs -/
abbrev Cks (H : Hp) (xs : List V) (cs : List Clk) : Prop := Paired (IsCk H) xs cs
abbrev Lts (H : Hp) (xs : List V) (cs : List Ltr) : Prop := Paired (IsLt H) xs cs
abbrev Prs (H : Hp) (xs : List V) (cs : List (Int × Int)) : Prop := Paired (IsPr H) xs cs
theorem Cks.mono {H H' : Hp} {xs : List V} {cs : List Clk} (s : TSame H H') (h : Cks H xs cs) : Cks H' xs cs := Paired.imp (fun _ _ r => IsCk.mono s r) h
theorem Lts.mono {H H' : Hp} {xs : List V} {cs : List Ltr} (s : TSame H H') (h : Lts H xs cs) : Lts H' xs cs := Paired.imp (fun _ _ r => IsLt.mono s r) h
theorem Prs.mono {H H' : Hp} {xs : List V} {cs : List (Int × Int)} (s : TSame H H') (h : Prs H xs cs) : Prs H' xs cs := Paired.imp (fun _ _ r => IsPr.mono s r) h
theorem cks_step {H H' : Hp} {xs : List V} {cs : List Clk} (s : Same H H') (h : Cks H xs cs) : Cks H' xs cs := h.mono (tsame_of s)
theorem lts_step {H H' : Hp} {xs : List V} {cs : List Ltr} (s : Same H H') (h : Lts H xs cs) : Lts H' xs cs := h.mono (tsame_of s)
theorem prs_step {H H' : Hp} {xs : List V} {cs : List (Int × Int)} (s : Same H H') (h : Prs H xs cs) : Prs H' xs cs := h.mono (tsame_of s)

/-! ### the same as data for == -/
def dSt : Stc → PyData
  | none => .none
  | some s => .tuple [.int s.1, .int s.2]
def dCk (c : Clk) : PyData := .tuple [.str c.1, dSt c.2]
def dLt (L : Ltr) : PyData := .tuple [.str L.name, .int L.sent, .int L.back, .int L.low, .int L.high]
def dPr (s : Int × Int) : PyData := .tuple [.int s.1, .int s.2]
section
variable {K : PySem.W.Frag} {H : Hp}
theorem dp_st {v : V} {o : Stc} (h : IsSt H v o) : Dp K H v (dSt o) := by
  cases o with
  | none =>
    cases h
    exact .non
  | some s =>
    obtain ⟨a, rfl, e⟩ := h
    exact dp_pair e
theorem dp_ck {v : V} {c : Clk} (h : IsCk H v c) : Dp K H v (dCk c) := by
  obtain ⟨a, u, rfl, e, q⟩ := h
  exact .tup (sqT_of e) (.cons (.str _) (.cons (dp_st q) .nil))
theorem dp_lt {v : V} {c : Ltr} (h : IsLt H v c) : Dp K H v (dLt c) := by
  obtain ⟨a, rfl, e⟩ := h
  exact .tup (sqT_of e) (.cons (.str _) (.cons (.int _) (.cons (.int _) (.cons (.int _) (.cons (.int _) .nil)))))
theorem dp_pr {v : V} {c : Int × Int} (h : IsPr H v c) : Dp K H v (dPr c) := by
  obtain ⟨a, rfl, e⟩ := h
  exact dp_pair e
theorem dp_all {α : Type} {R : V → α → Prop} {d : α → PyData} (hd : ∀ v a, R v a → Dp K H v (d a)) : ∀ {xs : List V} {ls : List α}, Paired R xs ls → DpAll K H xs (ls.map d)
  | _, _, .nil => .nil
  | _, _, .cons r t => .cons (hd _ _ r) (dp_all hd t)
theorem dp_lst {α : Type} {R : V → α → Prop} {d : α → PyData} {p : Addr} {xs : List V} {ls : List α} (hd : ∀ v a, R v a → Dp K H v (d a)) (e : H p = some (.lst xs)) (h : Paired R xs ls) : Dp K H (.ref p) (.list (ls.map d)) := .lst (sqL_of e) (dp_all hd h)
theorem dp_strs : ∀ (zs : List Str), DpAll K H (zs.map V.str) (zs.map PyData.str)
  | [] => .nil
  | z :: r => .cons (.str z) (dp_strs r)
theorem dp_lstrs {p : Addr} {zs : List Str} (e : H p = some (.lst (zs.map V.str))) : Dp K H (.ref p) (.list (zs.map PyData.str)) := .lst (sqL_of e) (dp_strs zs)
end
theorem shaped_list {α : Type} {d : α → PyData} (ls : List α) (h : ∀ a ∈ ls, (d a).canLay0 = true ∧ (d a).depth ≤ 10) : SeqAt.shaped (.list (ls.map d)) = true := by
  have h1 : PyData.canLayAll0 (ls.map d) = true ∧ PyData.depthAll (ls.map d) ≤ 10 := by
    induction ls with
    | nil => exact ⟨rfl, by simp [PyData.depthAll]⟩
    | cons a r ih =>
      obtain ⟨i1, i2⟩ := ih fun b hb => h b (List.mem_cons_of_mem _ hb)
      obtain ⟨a1, a2⟩ := h a List.mem_cons_self
      refine ⟨?_, ?_⟩
      · simp [PyData.canLayAll0, a1]
        simpa using i1
      · simp only [List.map_cons, PyData.depthAll]
        exact Nat.max_le.mpr ⟨a2, i2⟩
  unfold SeqAt.shaped
  have e1 : (PyData.list (ls.map d)).canLay0 = true := by
    simp only [PyData.canLay0]
    exact h1.1
  have e2 : (PyData.list (ls.map d)).depth ≤ 64 := by
    simp only [PyData.depth]
    omega
  rw [e1, decide_eq_true e2]
  rfl
theorem ok_dSt (o : Stc) : (dSt o).canLay0 = true ∧ (dSt o).depth ≤ 3 := by
  cases o with
  | none => exact ⟨rfl, by decide⟩
  | some s => exact ⟨rfl, by simp [dSt, PyData.depth, PyData.depthAll]⟩
theorem ok_dCk (c : Clk) (h : PyData.strOk c.1 = true) : (dCk c).canLay0 = true ∧ (dCk c).depth ≤ 10 := by
  obtain ⟨h1, h2⟩ := ok_dSt c.2
  refine ⟨?_, ?_⟩
  · simp [dCk, PyData.canLay0, PyData.canLayAll0, h, h1]
  · simp [dCk, PyData.depth, PyData.depthAll]
    omega
theorem ok_dLt (c : Ltr) (h : PyData.strOk c.name = true) : (dLt c).canLay0 = true ∧ (dLt c).depth ≤ 10 := by
  refine ⟨?_, ?_⟩
  · simp [dLt, PyData.canLay0, PyData.canLayAll0, h]
  · simp [dLt, PyData.depth, PyData.depthAll]
theorem ok_dPr (c : Int × Int) : (dPr c).canLay0 = true ∧ (dPr c).depth ≤ 10 := by
  refine ⟨?_, ?_⟩
  · simp [dPr, PyData.canLay0, PyData.canLayAll0]
  · simp [dPr, PyData.depth, PyData.depthAll]
theorem ok_dStr (z : Str) (h : PyData.strOk z = true) : (PyData.str z).canLay0 = true ∧ (PyData.str z).depth ≤ 10 := ⟨by simp [PyData.canLay0, h], by simp [PyData.depth]⟩
end Ts
namespace Ts
open PySem PySem.Spec PyProof.Rows L2
/-- values told by places, in the order of the places -/
theorem paired_range {α : Type} {R : V → α → Prop} {l : List α} {ys : List V} (h : Paired (fun i y => ∃ t, l[i]? = some t ∧ R y t) (List.range l.length) ys) : Paired R ys l := by
  have gen : ∀ (n : Nat) (ys : List V), n ≤ l.length → Paired (fun i y => ∃ t, l[i]? = some t ∧ R y t) (List.range n) ys → Paired R ys (l.take n) := by
    intro n
    induction n with
    | zero =>
      intro ys _ h
      simp at h
      cases h
      simp
      exact .nil
    | succ n ih =>
      intro ys hn h
      rw [List.range_succ] at h
      obtain ⟨ys', y, rfl, h1, t, ht, r⟩ := paired_filter.paired_snoc_inv h
      rw [List.take_add_one, ht]
      exact Paired.snoc r (ih ys' (by omega) h1)
  have := gen l.length ys (Nat.le_refl _) h
  rw [List.take_length] at this
  exact this
end Ts

/-! The plain law of counts: who bears a time, where that changes, what is borne by enough. -/
namespace Ts
open PySem PySem.Spec PyProof.Rows L2
def CkOk (c : Clk) : Prop := PyData.strOk c.1 = true ∧ ∀ s, c.2 = some s → s.1 ≤ s.2
def CksOk (cs : List Clk) : Prop := ∀ c ∈ cs, CkOk c
theorem CksOk.hd {c : Clk} {r : List Clk} (h : CksOk (c :: r)) : CkOk c := h c List.mem_cons_self
theorem CksOk.tl {c : Clk} {r : List Clk} (h : CksOk (c :: r)) : CksOk r := fun d hd => h d (List.mem_cons_of_mem _ hd)
theorem CksOk.take {cs : List Clk} (h : CksOk cs) (n : Nat) : CksOk (cs.take n) := fun d hd => h d (List.mem_of_mem_take hd)
def bearsO : Stc → Int → Bool
  | none, _ => false
  | some s, t => decide (s.1 ≤ t) && decide (t ≤ s.2)
def one (b : Bool) : Int := if b then 1 else 0
/-- how many bear a time -/
def manyAt : List Clk → Int → Int
  | [], _ => 0
  | c :: r, t => one (bearsO c.2 t) + manyAt r t
def dlt : Stc → Int → Int
  | none, _ => 0
  | some s, p => (if p = s.1 then 1 else 0) - (if p = s.2 + 1 then 1 else 0)
/-- how many more bear a time than the one ahead -/
def delta : List Clk → Int → Int
  | [], _ => 0
  | c :: r, p => dlt c.2 p + delta r p
def Edge (cs : List Clk) (p : Int) : Prop := ∃ c ∈ cs, ∃ s, c.2 = some s ∧ (p = s.1 ∨ p = s.2 + 1)
def lowsOf : List Clk → List Int
  | [] => []
  | c :: r => match c.2 with
    | none => lowsOf r
    | some s => s.1 :: lowsOf r
theorem mem_lows : ∀ {cs : List Clk} {p : Int}, p ∈ lowsOf cs ↔ ∃ c ∈ cs, ∃ s, c.2 = some s ∧ p = s.1
  | [], p => by simp [lowsOf]
  | (n, none) :: r, p => by
    have ih := mem_lows (cs := r) (p := p)
    refine Iff.trans (show p ∈ lowsOf r ↔ _ from ih) ⟨fun ⟨c, h, q⟩ => ⟨c, List.mem_cons_of_mem _ h, q⟩, fun ⟨c, h, s, e, q⟩ => ?_⟩
    rcases List.mem_cons.mp h with rfl | h
    · cases e
    · exact ⟨c, h, s, e, q⟩
  | (n, some s0) :: r, p => by
    have ih := mem_lows (cs := r) (p := p)
    refine Iff.trans (show p ∈ s0.1 :: lowsOf r ↔ _ from List.mem_cons) ⟨fun h => ?_, fun ⟨c, h, s, e, q⟩ => ?_⟩
    · rcases h with rfl | h
      · exact ⟨_, List.mem_cons_self, s0, rfl, rfl⟩
      · obtain ⟨c, h, q⟩ := ih.mp h
        exact ⟨c, List.mem_cons_of_mem _ h, q⟩
    · rcases List.mem_cons.mp h with rfl | h
      · cases e
        exact .inl q
      · exact .inr (ih.mpr ⟨c, h, s, e, q⟩)
theorem manyAt_app (a b : List Clk) (t : Int) : manyAt (a ++ b) t = manyAt a t + manyAt b t := by
  induction a with
  | nil => simp [manyAt]
  | cons c r ih =>
    show one (bearsO c.2 t) + manyAt (r ++ b) t = one (bearsO c.2 t) + manyAt r t + manyAt b t
    rw [ih]
    omega
theorem delta_app (a b : List Clk) (t : Int) : delta (a ++ b) t = delta a t + delta b t := by
  induction a with
  | nil => simp [delta]
  | cons c r ih =>
    show dlt c.2 t + delta (r ++ b) t = dlt c.2 t + delta r t + delta b t
    rw [ih]
    omega
theorem dlt_eq {o : Stc} (h : ∀ s, o = some s → s.1 ≤ s.2) (p : Int) : dlt o p = one (bearsO o p) - one (bearsO o (p - 1)) := by
  cases o with
  | none => rfl
  | some s =>
    have hs := h s rfl
    unfold dlt bearsO one
    simp only [Bool.and_eq_true, decide_eq_true_eq]
    split <;> split <;> split <;> split <;> omega
theorem delta_eq : ∀ {cs : List Clk}, CksOk cs → ∀ p, delta cs p = manyAt cs p - manyAt cs (p - 1)
  | [], _, p => rfl
  | c :: r, h, p => by
    show dlt c.2 p + delta r p = one (bearsO c.2 p) + manyAt r p - (one (bearsO c.2 (p - 1)) + manyAt r (p - 1))
    rw [dlt_eq h.hd.2, delta_eq h.tl]
    omega
theorem one_nonneg (b : Bool) : 0 ≤ one b ∧ one b ≤ 1 := by
  cases b <;> exact ⟨by decide, by decide⟩
theorem many_nonneg : ∀ (cs : List Clk) (t : Int), 0 ≤ manyAt cs t ∧ manyAt cs t ≤ cs.length
  | [], _ => ⟨Int.le_refl _, Int.le_refl _⟩
  | c :: r, t => by
    have h := many_nonneg r t
    have h1 := one_nonneg (bearsO c.2 t)
    show 0 ≤ one (bearsO c.2 t) + manyAt r t ∧ one (bearsO c.2 t) + manyAt r t ≤ ((r.length + 1 : Nat) : Int)
    omega
theorem dlt_pos {o : Stc} {p : Int} (h : 0 < dlt o p) : ∃ s, o = some s ∧ p = s.1 := by
  cases o with
  | none => simp [dlt] at h
  | some s =>
    refine ⟨s, rfl, ?_⟩
    by_cases e : p = s.1
    · exact e
    · have h : 0 < (if p = s.1 then (1 : Int) else 0) - (if p = s.2 + 1 then 1 else 0) := h
      rw [if_neg e] at h
      split at h <;> omega
theorem delta_pos : ∀ {cs : List Clk} {p : Int}, 0 < delta cs p → p ∈ lowsOf cs
  | [], p, h => by simp [delta] at h
  | c :: r, p, h => by
    have h : 0 < dlt c.2 p + delta r p := h
    rw [mem_lows]
    by_cases h1 : 0 < dlt c.2 p
    · obtain ⟨s, e1, e2⟩ := dlt_pos h1
      exact ⟨c, List.mem_cons_self, s, e1, e2⟩
    · obtain ⟨d, hd, s, e1, e2⟩ := mem_lows.mp (delta_pos (cs := r) (p := p) (by omega))
      exact ⟨d, List.mem_cons_of_mem _ hd, s, e1, e2⟩
theorem dlt_zero {o : Stc} {p : Int} (h : ∀ s, o = some s → p ≠ s.1 ∧ p ≠ s.2 + 1) : dlt o p = 0 := by
  cases o with
  | none => rfl
  | some s =>
    obtain ⟨h1, h2⟩ := h s rfl
    show (if p = s.1 then (1 : Int) else 0) - (if p = s.2 + 1 then 1 else 0) = 0
    rw [if_neg h1, if_neg h2]
    rfl
theorem delta_zero : ∀ {cs : List Clk} {p : Int}, ¬ Edge cs p → delta cs p = 0
  | [], _, _ => rfl
  | c :: r, p, h => by
    have h1 : dlt c.2 p = 0 := dlt_zero fun s e => ⟨fun q => h ⟨c, List.mem_cons_self, s, e, .inl q⟩, fun q => h ⟨c, List.mem_cons_self, s, e, .inr q⟩⟩
    have h2 : delta r p = 0 := delta_zero fun ⟨d, hd, x⟩ => h ⟨d, List.mem_cons_of_mem _ hd, x⟩
    show dlt c.2 p + delta r p = 0
    omega
theorem many_zero : ∀ {cs : List Clk} {t : Int}, (∀ c ∈ cs, bearsO c.2 t = false) → manyAt cs t = 0
  | [], _, _ => rfl
  | c :: r, t, h => by
    show one (bearsO c.2 t) + manyAt r t = 0
    rw [h c List.mem_cons_self, many_zero fun d hd => h d (List.mem_cons_of_mem _ hd)]
    rfl

/-! ### a step function and its steps -/
structure Steps (M : Int → Int) (pts : List Int) : Prop where
  sorted : pts.Pairwise (· < ·)
  jump : ∀ p, p ∉ pts → M p = M (p - 1)
  low : ∀ t, (∀ p ∈ pts, t < p) → M t = 0
  high : ∀ t, (∀ p ∈ pts, p ≤ t) → M t = 0
theorem steps_of {cs : List Clk} (h : CksOk cs) {pts : List Int} (hs : pts.Pairwise (· < ·)) (hm : ∀ p, p ∈ pts ↔ Edge cs p) : Steps (manyAt cs) pts where
  sorted := hs
  jump := fun p hp => by
    have e := delta_eq h p
    rw [delta_zero fun q => hp ((hm p).mpr q)] at e
    omega
  low := fun t ht => many_zero fun c hc => by
    obtain ⟨n, o⟩ := c
    cases o with
    | none => rfl
    | some s =>
      have := ht s.1 ((hm _).mpr ⟨_, hc, s, rfl, .inl rfl⟩)
      show (decide (s.1 ≤ t) && decide (t ≤ s.2)) = false
      rw [decide_eq_false (by omega)]
      rfl
  high := fun t ht => many_zero fun c hc => by
    obtain ⟨n, o⟩ := c
    cases o with
    | none => rfl
    | some s =>
      have := ht (s.2 + 1) ((hm _).mpr ⟨_, hc, s, rfl, .inr rfl⟩)
      show (decide (s.1 ≤ t) && decide (t ≤ s.2)) = false
      rw [decide_eq_false (show ¬ t ≤ s.2 by omega), Bool.and_false]
section
variable {M : Int → Int} {pts l1 l2 r : List Int} {p s t : Int}
theorem Steps.const (S : Steps M pts) : ∀ (n : Nat) (s : Int), (∀ p ∈ pts, p ≤ s ∨ s + n < p) → M (s + n) = M s
  | 0, s, _ => by simp
  | n + 1, s, h => by
    have e1 := S.const n s fun p hp => by
      rcases h p hp with q | q
      · exact .inl q
      · exact .inr (by omega)
    have e2 := S.jump (s + (n + 1 : Nat)) fun hp => by
      rcases h _ hp with q | q <;> omega
    rw [e2, ← e1]
    congr 1
    omega
theorem Steps.flat (S : Steps M pts) (h : s ≤ t) (hp : ∀ p ∈ pts, p ≤ s ∨ t < p) : M t = M s := by
  have e := S.const (t - s).toNat s fun p q => by
    rcases hp p q with z | z
    · exact .inl z
    · exact .inr (by omega)
  rw [← e]
  congr 1
  omega
theorem sorted_split (h : (l1 ++ p :: r).Pairwise (· < ·)) : (∀ q ∈ l1, q < p) ∧ ∀ q ∈ r, p < q := by
  rw [List.pairwise_append] at h
  obtain ⟨_, h2, h3⟩ := h
  rw [List.pairwise_cons] at h2
  exact ⟨fun q hq => h3 q hq p List.mem_cons_self, h2.1⟩
/-- M is c from the last of l1 up to the first of l2 -/
def Now (M : Int → Int) (l1 l2 : List Int) (c : Int) : Prop := ∀ t, (∀ p ∈ l1, p ≤ t) → (∀ p ∈ l2, t < p) → M t = c
theorem now_start (S : Steps M l2) : Now M [] l2 0 := fun t _ h => S.low t h
theorem now_step {c : Int} (S : Steps M (l1 ++ p :: r)) (h : Now M l1 (p :: r) c) : M p = c + (M p - M (p - 1)) ∧ Now M (l1 ++ [p]) r (M p) := by
  obtain ⟨h1, h2⟩ := sorted_split S.sorted
  have e : M (p - 1) = c := h (p - 1) (fun q hq => by have := h1 q hq; omega) (fun q hq => by
    rcases List.mem_cons.mp hq with rfl | hq
    · omega
    · have := h2 q hq; omega)
  refine ⟨by omega, fun t ht1 ht2 => ?_⟩
  refine S.flat (ht1 p (by simp)) fun q hq => ?_
  rcases List.mem_append.mp hq with hq | hq
  · exact .inl (by have := h1 q hq; omega)
  · rcases List.mem_cons.mp hq with rfl | hq
    · exact .inl (Int.le_refl _)
    · exact .inr (ht2 q hq)
theorem now_end {c : Int} (S : Steps M l1) (h : Now M l1 [] c) : c = 0 := by
  obtain ⟨t, ht⟩ : ∃ t : Int, ∀ p ∈ l1, p ≤ t := by
    clear h S
    induction l1 with
    | nil => exact ⟨0, fun p h => (List.not_mem_nil h).elim⟩
    | cons a r ih =>
      obtain ⟨t, ht⟩ := ih
      refine ⟨max a t, fun p hp => ?_⟩
      rcases List.mem_cons.mp hp with rfl | hp
      · omega
      · have := ht p hp; omega
  rw [← h t ht (fun p h => (List.not_mem_nil h).elim)]
  exact S.high t ht

/-! ### parts -/
structure PInv (M : Int → Int) (need : Int) (l1 l2 : List Int) (found : List (Int × Int)) (many : Int) (begin : Option Int) : Prop where
  now : Now M l1 l2 many
  non : begin = none → many < need
  beg : ∀ b, begin = some b → need ≤ many ∧ b ∈ l1 ∧ M (b - 1) < need ∧ (∀ t, b ≤ t → (∀ p ∈ l2, t < p) → need ≤ M t) ∧ ∀ x ∈ found, x.2 + 1 < b
  each : ∀ x ∈ found, x.1 ≤ x.2 ∧ M (x.1 - 1) < need ∧ M (x.2 + 1) < need ∧ (∀ t, x.1 ≤ t → t ≤ x.2 → need ≤ M t) ∧ x.2 + 1 ∈ l1
  ord : found.Pairwise fun x y => x.2 + 1 < y.1
  all : ∀ t, (∀ p ∈ l2, t < p) → need ≤ M t → (∃ x ∈ found, x.1 ≤ t ∧ t ≤ x.2) ∨ ∃ b, begin = some b ∧ b ≤ t
variable {need many : Int} {found : List (Int × Int)} {begin : Option Int}
theorem pinv_start (S : Steps M pts) (hn : 1 ≤ need) : PInv M need [] pts [] 0 none where
  now := now_start S
  non := fun _ => by omega
  beg := fun b h => nomatch h
  each := fun x h => (List.not_mem_nil h).elim
  ord := .nil
  all := fun t h1 h2 => by
    rw [S.low t h1] at h2
    omega
/-- nothing begins or ends -/
theorem pinv_stay (S : Steps M (l1 ++ p :: r)) (h : PInv M need l1 (p :: r) found many begin) (hc : (begin = none ∧ M p < need) ∨ (begin ≠ none ∧ need ≤ M p)) : PInv M need (l1 ++ [p]) r found (M p) begin := by
  obtain ⟨h1, h2⟩ := sorted_split S.sorted
  obtain ⟨e, nw⟩ := now_step S h.now
  have flat : ∀ t, p ≤ t → (∀ q ∈ r, t < q) → M t = M p := fun t a b => nw t (fun q hq => by
    rcases List.mem_append.mp hq with hq | hq
    · have := h1 q hq; omega
    · rw [List.mem_singleton.mp hq]; exact a) b
  have old : ∀ t, t < p → ∀ q ∈ p :: r, t < q := fun t a q hq => by
    rcases List.mem_cons.mp hq with rfl | hq
    · exact a
    · have := h2 q hq; omega
  refine ⟨nw, fun hb => ?_, fun b hb => ?_, fun x hx => ?_, h.ord, fun t a b => ?_⟩
  · rcases hc with hc | hc
    · exact hc.2
    · exact absurd hb hc.1
  · rcases hc with hc | hc
    · rw [hc.1] at hb; cases hb
    · obtain ⟨b1, b2, b3, b4, b5⟩ := h.beg b hb
      refine ⟨hc.2, List.mem_append_left _ b2, b3, fun t a c => ?_, b5⟩
      by_cases hlt : t < p
      · exact b4 t a (old t hlt)
      · rw [flat t (by omega) c]; exact hc.2
  · obtain ⟨x1, x2, x3, x4, x5⟩ := h.each x hx
    exact ⟨x1, x2, x3, x4, List.mem_append_left _ x5⟩
  · by_cases hlt : t < p
    · exact h.all t (old t hlt) b
    · rw [flat t (by omega) a] at b
      rcases hc with hc | hc
      · omega
      · cases hbg : begin with
        | none => exact absurd hbg hc.1
        | some b0 =>
          have := h1 b0 (h.beg b0 hbg).2.1
          exact .inr ⟨b0, rfl, by omega⟩
/-- a part begins -/
theorem pinv_begin (S : Steps M (l1 ++ p :: r)) (h : PInv M need l1 (p :: r) found many none) (hc : need ≤ M p) : PInv M need (l1 ++ [p]) r found (M p) (some p) := by
  obtain ⟨h1, h2⟩ := sorted_split S.sorted
  obtain ⟨e, nw⟩ := now_step S h.now
  have flat : ∀ t, p ≤ t → (∀ q ∈ r, t < q) → M t = M p := fun t a b => nw t (fun q hq => by
    rcases List.mem_append.mp hq with hq | hq
    · have := h1 q hq; omega
    · rw [List.mem_singleton.mp hq]; exact a) b
  have old : ∀ t, t < p → ∀ q ∈ p :: r, t < q := fun t a q hq => by
    rcases List.mem_cons.mp hq with rfl | hq
    · exact a
    · have := h2 q hq; omega
  have hn := h.non rfl
  have hp1 : M (p - 1) = many := h.now (p - 1) (fun q hq => by have := h1 q hq; omega) (old _ (by omega))
  refine ⟨nw, fun hb => (nomatch hb), fun b hb => ?_, fun x hx => ?_, h.ord, fun t a b => ?_⟩
  · cases hb
    refine ⟨hc, by simp, by omega, fun t a c => by rw [flat t a c]; exact hc, fun x hx => ?_⟩
    obtain ⟨x1, x2, x3, x4, x5⟩ := h.each x hx
    exact h1 _ x5
  · obtain ⟨x1, x2, x3, x4, x5⟩ := h.each x hx
    exact ⟨x1, x2, x3, x4, List.mem_append_left _ x5⟩
  · by_cases hlt : t < p
    · rcases h.all t (old t hlt) b with q | ⟨b0, q, _⟩
      · exact .inl q
      · cases q
    · exact .inr ⟨p, rfl, by omega⟩
/-- a part ends -/
theorem pinv_end {b : Int} (S : Steps M (l1 ++ p :: r)) (h : PInv M need l1 (p :: r) found many (some b)) (hc : M p < need) : PInv M need (l1 ++ [p]) r (found ++ [(b, p - 1)]) (M p) none := by
  obtain ⟨h1, h2⟩ := sorted_split S.sorted
  obtain ⟨e, nw⟩ := now_step S h.now
  have flat : ∀ t, p ≤ t → (∀ q ∈ r, t < q) → M t = M p := fun t a b => nw t (fun q hq => by
    rcases List.mem_append.mp hq with hq | hq
    · have := h1 q hq; omega
    · rw [List.mem_singleton.mp hq]; exact a) b
  have old : ∀ t, t < p → ∀ q ∈ p :: r, t < q := fun t a q hq => by
    rcases List.mem_cons.mp hq with rfl | hq
    · exact a
    · have := h2 q hq; omega
  obtain ⟨b1, b2, b3, b4, b5⟩ := h.beg b rfl
  have hbp := h1 b b2
  refine ⟨nw, fun _ => hc, fun b hb => (nomatch hb), fun x hx => ?_, ?_, fun t a c => ?_⟩
  · rcases List.mem_append.mp hx with hx | hx
    · obtain ⟨x1, x2, x3, x4, x5⟩ := h.each x hx
      exact ⟨x1, x2, x3, x4, List.mem_append_left _ x5⟩
    · rw [List.mem_singleton.mp hx]
      refine ⟨by dsimp only; omega, b3, ?_, fun t a c => b4 t a (old t (by dsimp only at c; omega)), by simp⟩
      show M (p - 1 + 1) < need
      rw [Int.sub_add_cancel]
      exact hc
  · rw [List.pairwise_append]
    refine ⟨h.ord, List.pairwise_singleton _ _, fun x hx y hy => ?_⟩
    rw [List.mem_singleton.mp hy]
    exact b5 x hx
  · by_cases hlt : t < p
    · rcases h.all t (old t hlt) c with ⟨x, hx, q⟩ | ⟨b0, q, q2⟩
      · exact .inl ⟨x, List.mem_append_left _ hx, q⟩
      · cases q
        exact .inl ⟨(b, p - 1), by simp, q2, by dsimp only; omega⟩
    · rw [flat t (by omega) a] at c
      omega
end
/-- what parts gives: all times that enough bear, as stretches apart, rising -/
structure PartsOk (M : Int → Int) (need : Int) (found : List (Int × Int)) : Prop where
  each : ∀ x ∈ found, x.1 ≤ x.2 ∧ M (x.1 - 1) < need ∧ M (x.2 + 1) < need ∧ ∀ t, x.1 ≤ t → t ≤ x.2 → need ≤ M t
  ord : found.Pairwise fun x y => x.2 + 1 < y.1
  all : ∀ t, need ≤ M t → ∃ x ∈ found, x.1 ≤ t ∧ t ≤ x.2
theorem parts_end {M : Int → Int} {need many : Int} {pts : List Int} {found : List (Int × Int)} {begin : Option Int} (S : Steps M pts) (hn : 1 ≤ need) (h : PInv M need pts [] found many begin) : PartsOk M need found := by
  have e := now_end S h.now
  have hb : begin = none := by
    cases q : begin with
    | none => rfl
    | some b =>
      have := (h.beg b q).1
      omega
  refine ⟨fun x hx => ?_, h.ord, fun t ht => ?_⟩
  · obtain ⟨x1, x2, x3, x4, x5⟩ := h.each x hx
    exact ⟨x1, x2, x3, x4⟩
  · rcases h.all t (fun p hp => (List.not_mem_nil hp).elim) ht with q | ⟨b, q, _⟩
    · exact q
    · rw [hb] at q
      cases q

/-! ### fewest -/
structure FInv (M : Int → Int) (good : Int → Prop) (l1 l2 : List Int) (most : Int) (best : Option Int) (many : Int) : Prop where
  now : Now M l1 l2 many
  m0 : 0 ≤ most ∧ many ≤ most
  le : ∀ p ∈ l1, M p ≤ most
  non : best = none → most = 0
  bst : ∀ b, best = some b → 0 < most ∧ b ∈ l1 ∧ good b ∧ M b = most ∧ ∀ p ∈ l1, M p = most → b ≤ p
theorem finv_start {M : Int → Int} {good : Int → Prop} {pts : List Int} (S : Steps M pts) : FInv M good [] pts 0 none 0 :=
  ⟨now_start S, ⟨Int.le_refl _, Int.le_refl _⟩, fun p h => (List.not_mem_nil h).elim, fun _ => rfl, fun b h => nomatch h⟩
theorem finv_stay {M : Int → Int} {good : Int → Prop} {l1 r : List Int} {p most many : Int} {best : Option Int} (S : Steps M (l1 ++ p :: r)) (h : FInv M good l1 (p :: r) most best many) (hc : M p ≤ most) : FInv M good (l1 ++ [p]) r most best (M p) := by
  obtain ⟨h1, h2⟩ := sorted_split S.sorted
  obtain ⟨e, nw⟩ := now_step S h.now
  refine ⟨nw, ⟨h.m0.1, hc⟩, fun q hq => ?_, h.non, fun b hb => ?_⟩
  · rcases List.mem_append.mp hq with hq | hq
    · exact h.le q hq
    · rw [List.mem_singleton.mp hq]; exact hc
  · obtain ⟨b1, b2, b3, b4, b5⟩ := h.bst b hb
    refine ⟨b1, List.mem_append_left _ b2, b3, b4, fun q hq e => ?_⟩
    rcases List.mem_append.mp hq with hq | hq
    · exact b5 q hq e
    · rw [List.mem_singleton.mp hq]
      have := h1 b b2
      omega
theorem finv_more {M : Int → Int} {good : Int → Prop} {l1 r : List Int} {p most many : Int} {best : Option Int} (S : Steps M (l1 ++ p :: r)) (h : FInv M good l1 (p :: r) most best many) (hc : most < M p) (hg : 0 < M p - M (p - 1) → good p) : FInv M good (l1 ++ [p]) r (M p) (some p) (M p) := by
  obtain ⟨h1, h2⟩ := sorted_split S.sorted
  obtain ⟨e, nw⟩ := now_step S h.now
  have m0 := h.m0
  refine ⟨nw, ⟨by omega, Int.le_refl _⟩, fun q hq => ?_, fun z => (nomatch z), fun b hb => ?_⟩
  · rcases List.mem_append.mp hq with hq | hq
    · have := h.le q hq; omega
    · rw [List.mem_singleton.mp hq]; exact Int.le_refl _
  · cases hb
    refine ⟨by omega, by simp, hg (by omega), rfl, fun q hq e => ?_⟩
    rcases List.mem_append.mp hq with hq | hq
    · have := h.le q hq; omega
    · rw [List.mem_singleton.mp hq]; exact Int.le_refl _
/-! ### such a list of stretches is the only one -/
structure Apart (f : List (Int × Int)) : Prop where
  each : ∀ x ∈ f, x.1 ≤ x.2
  ord : f.Pairwise fun x y => x.2 + 1 < y.1
def Cov (f : List (Int × Int)) (t : Int) : Prop := ∃ x ∈ f, x.1 ≤ t ∧ t ≤ x.2
theorem Apart.tl {x : Int × Int} {r : List (Int × Int)} (h : Apart (x :: r)) : Apart r ∧ ∀ y ∈ r, x.2 + 1 < y.1 := by
  obtain ⟨h1, h2⟩ := List.pairwise_cons.mp h.ord
  exact ⟨⟨fun y hy => h.each y (List.mem_cons_of_mem _ hy), h2⟩, h1⟩
theorem Apart.first {x : Int × Int} {r : List (Int × Int)} (h : Apart (x :: r)) {z : Int × Int} (hz : z ∈ x :: r) : x.1 ≤ z.1 := by
  rcases List.mem_cons.mp hz with rfl | hz
  · exact Int.le_refl _
  · have := h.tl.2 z hz
    have := h.each x List.mem_cons_self
    omega
theorem apart_le {x y : Int × Int} {r s : List (Int × Int)} (h1 : Apart (x :: r)) (h2 : Apart (y :: s)) (e : x.1 = y.1) (c : ∀ t, Cov (y :: s) t → Cov (x :: r) t) : y.2 ≤ x.2 := by
  by_cases h : y.2 ≤ x.2
  · exact h
  · have hx := h1.each x List.mem_cons_self
    obtain ⟨z, hz, z1, z2⟩ := c (x.2 + 1) ⟨y, List.mem_cons_self, by omega, by omega⟩
    rcases List.mem_cons.mp hz with rfl | hz
    · omega
    · have := h1.tl.2 z hz
      omega
theorem apart_one : ∀ {f g : List (Int × Int)}, Apart f → Apart g → (∀ t, Cov f t ↔ Cov g t) → f = g
  | [], [], _, _, _ => rfl
  | [], y :: s, _, h2, c => by
    obtain ⟨z, hz, _⟩ := (c y.1).mpr ⟨y, List.mem_cons_self, Int.le_refl _, h2.each y List.mem_cons_self⟩
    exact (List.not_mem_nil hz).elim
  | x :: r, [], h1, _, c => by
    obtain ⟨z, hz, _⟩ := (c x.1).mp ⟨x, List.mem_cons_self, Int.le_refl _, h1.each x List.mem_cons_self⟩
    exact (List.not_mem_nil hz).elim
  | x :: r, y :: s, h1, h2, c => by
    have hx := h1.each x List.mem_cons_self
    have hy := h2.each y List.mem_cons_self
    obtain ⟨z, hz, z1, _⟩ := (c x.1).mp ⟨x, List.mem_cons_self, Int.le_refl _, hx⟩
    obtain ⟨z', hz', z1', _⟩ := (c y.1).mpr ⟨y, List.mem_cons_self, Int.le_refl _, hy⟩
    have a1 := h2.first hz
    have a2 := h1.first hz'
    have e1 : x.1 = y.1 := by omega
    have b1 := apart_le h1 h2 e1 fun t => (c t).mpr
    have b2 := apart_le h2 h1 e1.symm fun t => (c t).mp
    have e2 : x.2 = y.2 := by omega
    have exy : x = y := Prod.ext e1 e2
    subst exy
    obtain ⟨t1, u1⟩ := h1.tl
    obtain ⟨t2, u2⟩ := h2.tl
    have er : r = s := apart_one t1 t2 fun t => by
      constructor
      · rintro ⟨z, hz, z1, z2⟩
        obtain ⟨z', hz', q1, q2⟩ := (c t).mp ⟨z, List.mem_cons_of_mem _ hz, z1, z2⟩
        have := u1 z hz
        rcases List.mem_cons.mp hz' with rfl | hz'
        · omega
        · exact ⟨z', hz', q1, q2⟩
      · rintro ⟨z, hz, z1, z2⟩
        obtain ⟨z', hz', q1, q2⟩ := (c t).mpr ⟨z, List.mem_cons_of_mem _ hz, z1, z2⟩
        have := u2 z hz
        rcases List.mem_cons.mp hz' with rfl | hz'
        · omega
        · exact ⟨z', hz', q1, q2⟩
    rw [er]
theorem PartsOk.cov {M : Int → Int} {need : Int} {f : List (Int × Int)} (h : PartsOk M need f) (t : Int) : Cov f t ↔ need ≤ M t :=
  ⟨fun ⟨x, hx, a, b⟩ => (h.each x hx).2.2.2 t a b, h.all t⟩
theorem PartsOk.one {M : Int → Int} {need : Int} {f g : List (Int × Int)} (h1 : PartsOk M need f) (h2 : PartsOk M need g) : f = g :=
  apart_one ⟨fun x hx => (h1.each x hx).1, h1.ord⟩ ⟨fun x hx => (h2.each x hx).1, h2.ord⟩ fun t => (h1.cov t).trans (h2.cov t).symm
end Ts

/-! Dicts; what turns keeps. -/
namespace Ts
open PySem PySem.Spec PyProof.Rows L2
section
variable {σ : L2.St} {H : Hp} {Q : VK} {v z : V} {p : Int} {s : Str} {td ty tv tx : TE} {d : Addr} {kvs : List (Key × V)} {nx bk ct : L2.St → Hp → Prop} {rt : VK}
theorem q_dnew (q : ∀ d H', H d = none → Same H H' → H' d = some (.dK []) → Q (.ref d) H') : tDNewK σ H Q := fun d hd => q d _ hd (same_upd hd) upd_same
theorem q_dget (q : td σ H fun x H1 => ty σ H1 fun y H2 => ∃ a v, x = .ref a ∧ DGet H2 a y (some v) ∧ Q v H2) : tDGet td ty σ H Q := q
theorem q_dget2 (q : td σ H fun x H1 => ∃ a, x = .ref a ∧ IsD H1 a ∧ ty σ H1 fun y H2 => tx σ H2 fun z H3 => ∃ o, DGet H3 a y o ∧ Q (o.getD z) H3) : tDGet2 td ty tx σ H Q := q
theorem q_dput (q : tv σ H fun v H1 => td σ H1 fun x H2 => ty σ H2 fun y H3 => ∃ a H4, x = .ref a ∧ DPut H3 a y v H4 ∧ nx σ H4) : sDPut td ty tv ⟨nx, rt, bk, ct⟩ σ H := q
theorem q_isD {P : Addr → Prop} (h : H d = some (.dK kvs)) (q : P d) : ∃ a, V.ref d = .ref a ∧ IsD H a ∧ P a := ⟨d, rfl, .inl ⟨kvs, .inl h⟩, q⟩
theorem q_dgetI {P : V → Prop} (h : H d = some (.dK kvs)) (hv : valV kvs (.inl p) = some v) (q : P v) : ∃ a v', V.ref d = .ref a ∧ DGet H a (.int p) (some v') ∧ P v' := ⟨d, v, rfl, hv ▸ DGet.k (k := .inl p) h, q⟩
theorem q_dgetS {P : V → Prop} (h : H d = some (.dK kvs)) (hv : valV kvs (.inr s) = some v) (q : P v) : ∃ a v', V.ref d = .ref a ∧ DGet H a (.str s) (some v') ∧ P v' := ⟨d, v, rfl, hv ▸ DGet.k (k := .inr s) h, q⟩
theorem q_dget2I {P : Option V → Prop} (h : H d = some (.dK kvs)) (q : P (valV kvs (.inl p))) : ∃ o, DGet H d (.int p) o ∧ P o := ⟨_, DGet.k (k := .inl p) h, q⟩
theorem q_dputI {P : Hp → Prop} (h : H d = some (.dK kvs)) (hl : kvs.length < 1000000) (q : P (upd H d (.dK (putK kvs (.inl p) v)))) : ∃ a H4, V.ref d = .ref a ∧ DPut H a (.int p) v H4 ∧ P H4 := ⟨d, _, rfl, DPut.k (k := .inl p) h (size_lt hl), q⟩
theorem q_dputS {P : Hp → Prop} (h : H d = some (.dK kvs)) (hl : kvs.length < 1000000) (q : P (upd H d (.dK (putK kvs (.inr s) v)))) : ∃ a H4, V.ref d = .ref a ∧ DPut H a (.str s) v H4 ∧ P H4 := ⟨d, _, rfl, DPut.k (k := .inr s) h (size_lt hl), q⟩
theorem q_listD (h : H d = some (.dK kvs)) (q : ∀ p H', Same H H' → H p = none → H' p = some (.lst (kvs.map fun kv => kV kv.1)) → Q (.ref p) H') : rListD [.ref d] H Q := ⟨d, kvs, rfl, h, fun p hp => q p _ (same_upd hp) hp upd_same⟩
end
theorem nd_put {κ : Type} [DecidableEq κ] {kvs : List (κ × V)} {k : κ} (v : V) (hn : (kvs.map (·.1)).Nodup) : ((putK kvs k v).map (·.1)).Nodup := by
  cases e : valV kvs k with
  | none => exact nd_putK v hn e
  | some x =>
    have a : (kvs.any fun kv => decide (kv.1 = k)) = true := by
      rw [valV_any, e]
      rfl
    unfold putK
    rw [if_pos a, List.map_map]
    have : (fun kv : κ × V => kv.1) ∘ (fun kv => if kv.1 = k then (kv.1, v) else kv) = fun kv => kv.1 := by
      funext kv
      show (if kv.1 = k then (kv.1, v) else kv).1 = kv.1
      split <;> rfl
    rw [this]
    exact hn
/-- the dict that turns fills -/
structure DInv (cs : List Clk) (n : Nat) (kvs : List (Key × V)) : Prop where
  nd : (kvs.map (·.1)).Nodup
  len : kvs.length ≤ 2 * n
  txt : ∀ s, valV kvs (.inr s) = none
  yes : ∀ p, Edge cs p → valV kvs (.inl p) = some (.int (delta cs p))
  no : ∀ p, ¬ Edge cs p → valV kvs (.inl p) = none
theorem DInv.get {cs : List Clk} {n : Nat} {kvs : List (Key × V)} (h : DInv cs n kvs) (p : Int) : (valV kvs (.inl p)).getD (.int 0) = .int (delta cs p) := by
  by_cases e : Edge cs p
  · rw [h.yes p e]
    rfl
  · rw [h.no p e, delta_zero e]
    rfl
theorem edge_snoc {cs : List Clk} {c : Clk} {p : Int} : Edge (cs ++ [c]) p ↔ Edge cs p ∨ ∃ s, c.2 = some s ∧ (p = s.1 ∨ p = s.2 + 1) := by
  constructor
  · rintro ⟨d, hd, x⟩
    rcases List.mem_append.mp hd with hd | hd
    · exact .inl ⟨d, hd, x⟩
    · rw [List.mem_singleton.mp hd] at x
      exact .inr x
  · rintro (⟨d, hd, x⟩ | x)
    · exact ⟨d, List.mem_append_left _ hd, x⟩
    · exact ⟨c, by simp, x⟩
theorem delta_snoc (cs : List Clk) (c : Clk) (p : Int) : delta (cs ++ [c]) p = delta cs p + dlt c.2 p := by
  rw [delta_app]
  show _ + (dlt c.2 p + 0) = _
  omega
theorem dinv_none {cs : List Clk} {c : Clk} {n : Nat} {kvs : List (Key × V)} (h : DInv cs n kvs) (e : c.2 = none) : DInv (cs ++ [c]) (n + 1) kvs := by
  have hz : ∀ p, delta (cs ++ [c]) p = delta cs p := fun p => by
    rw [delta_snoc, e]
    show _ + (0 : Int) = _
    omega
  have he : ∀ p, Edge (cs ++ [c]) p ↔ Edge cs p := fun p => by
    rw [edge_snoc, e]
    constructor
    · rintro (q | ⟨s, q, _⟩)
      · exact q
      · cases q
    · exact .inl
  have := h.len
  exact ⟨h.nd, by omega, h.txt, fun p q => by rw [hz]; exact h.yes p ((he p).mp q), fun p q => h.no p fun z => q ((he p).mpr z)⟩
theorem dinv_some {cs : List Clk} {c : Clk} {n : Nat} {kvs : List (Key × V)} {s : Int × Int} (h : DInv cs n kvs) (e : c.2 = some s) (hs : s.1 ≤ s.2) :
    DInv (cs ++ [c]) (n + 1) (putK (putK kvs (.inl s.1) (.int (delta cs s.1 + 1))) (.inl (s.2 + 1)) (.int (delta cs (s.2 + 1) - 1))) := by
  have hz : ∀ p, delta (cs ++ [c]) p = delta cs p + ((if p = s.1 then 1 else 0) - (if p = s.2 + 1 then 1 else 0)) := fun p => by
    rw [delta_snoc, e]
    rfl
  have he : ∀ p, Edge (cs ++ [c]) p ↔ Edge cs p ∨ p = s.1 ∨ p = s.2 + 1 := fun p => by
    rw [edge_snoc, e]
    constructor
    · rintro (q | ⟨s', q, q2⟩)
      · exact .inl q
      · cases q
        exact .inr q2
    · rintro (q | q)
      · exact .inl q
      · exact .inr ⟨s, rfl, q⟩
  have hv : ∀ p : Int, valV (putK (putK kvs (.inl s.1) (.int (delta cs s.1 + 1))) (.inl (s.2 + 1)) (.int (delta cs (s.2 + 1) - 1))) (.inl p) =
      if p = s.2 + 1 then some (V.int (delta cs (s.2 + 1) - 1)) else if p = s.1 then some (V.int (delta cs s.1 + 1)) else valV kvs (.inl p) := fun p => by
    rw [valV_put, valV_put]
    by_cases h1 : p = s.2 + 1
    · rw [if_pos (congrArg Sum.inl h1), if_pos h1]
    · rw [if_neg fun q => h1 (Sum.inl.inj q), if_neg h1]
      by_cases h2 : p = s.1
      · rw [if_pos (congrArg Sum.inl h2), if_pos h2]
      · rw [if_neg fun q => h2 (Sum.inl.inj q), if_neg h2]
  refine ⟨nd_put _ (nd_put _ h.nd), ?_, fun x => ?_, fun p q => ?_, fun p q => ?_⟩
  · have l1 := length_putK kvs (.inl s.1) (V.int (delta cs s.1 + 1))
    have l2 := length_putK (putK kvs (.inl s.1) (V.int (delta cs s.1 + 1))) (.inl (s.2 + 1)) (V.int (delta cs (s.2 + 1) - 1))
    have := h.len
    omega
  · rw [valV_put, valV_put, if_neg (fun q => nomatch q), if_neg (fun q => nomatch q)]
    exact h.txt x
  · rw [hv, hz]
    by_cases h1 : p = s.2 + 1
    · rw [if_pos h1, if_pos h1, if_neg (by omega), h1]
      congr 2
    · rw [if_neg h1, if_neg h1]
      by_cases h2 : p = s.1
      · rw [if_pos h2, if_pos h2, h2]
        congr 2
      · rw [if_neg h2, if_neg h2]
        have q' : Edge cs p := by
          rcases (he p).mp q with q | q | q
          · exact q
          · exact absurd q h2
          · exact absurd q h1
        rw [h.yes p q']
        congr 2
        omega
  · rw [hv]
    have n0 : ¬ Edge cs p := fun z => q ((he p).mpr (.inl z))
    rw [if_neg fun z => q ((he p).mpr (.inr (.inr z))), if_neg fun z => q ((he p).mpr (.inr (.inl z)))]
    exact h.no p n0
/-- the keys as numbers -/
theorem DInv.keys {cs : List Clk} {n : Nat} {kvs : List (Key × V)} (h : DInv cs n kvs) : ∃ ns : List Int, kvs.map (fun kv => kV kv.1) = ns.map V.int ∧ ns.Nodup ∧ (∀ p, p ∈ ns ↔ Edge cs p) := by
  have key : ∀ k ∈ kvs.map (·.1), ∃ p, k = Sum.inl p := by
    intro k hk
    cases k with
    | inl p => exact ⟨p, rfl⟩
    | inr s => exact absurd hk (valV_not (h.txt s))
  have ex : ∃ ns : List Int, kvs.map (·.1) = ns.map Sum.inl := by
    have gen : ∀ l : List Key, (∀ k ∈ l, ∃ p, k = Sum.inl p) → ∃ ns : List Int, l = ns.map Sum.inl := by
      intro l
      induction l with
      | nil => exact fun _ => ⟨[], rfl⟩
      | cons k r ih =>
        intro hk
        obtain ⟨p, rfl⟩ := hk k List.mem_cons_self
        obtain ⟨ns, rfl⟩ := ih fun k q => hk k (List.mem_cons_of_mem _ q)
        exact ⟨p :: ns, rfl⟩
    exact gen _ key
  obtain ⟨ns, e⟩ := ex
  refine ⟨ns, ?_, ?_, fun p => ?_⟩
  · have e2 : kvs.map (fun kv => kV kv.1) = (kvs.map (·.1)).map kV := by rw [List.map_map]; rfl
    rw [e2, e, List.map_map]
    rfl
  · have hn := h.nd
    rw [e] at hn
    exact List.Pairwise.of_map (S := (· ≠ ·)) Sum.inl (fun a b q z => q (congrArg Sum.inl z)) hn
  · have m : p ∈ ns ↔ (Sum.inl p : Key) ∈ kvs.map (·.1) := by
      rw [e]
      constructor
      · exact fun q => List.mem_map.mpr ⟨p, q, rfl⟩
      · intro q
        obtain ⟨p', hp, q⟩ := List.mem_map.mp q
        cases q
        exact hp
    rw [m]
    constructor
    · intro q
      by_cases z : Edge cs p
      · exact z
      · exact absurd q (valV_not (h.no p z))
    · intro q
      exact valV_in (h.yes p q)
theorem strict_of {ns ns' : List Int} (hp : ns'.Perm ns) (hs : ns'.Pairwise (· ≤ ·)) (hn : ns.Nodup) : ns'.Pairwise (· < ·) := by
  have h1 : ns'.Nodup := hp.nodup_iff.mpr hn
  have h2 := List.Pairwise.and hs h1
  exact h2.imp fun ⟨a, b⟩ => by omega
theorem take_snoc {α : Type} {cs : List α} {i : Nat} {c : α} (h : cs[i]? = some c) : cs.take (i + 1) = cs.take i ++ [c] := by
  rw [List.take_add_one, h]
  rfl
end Ts

/-! Signs of a text; parts of tuples; places of lists that change. -/
namespace Ts
open PySem PySem.Spec PyProof.Rows L2
section
variable {σ : L2.St} {H : Hp} {Q : VK} {K : PySem.W.Frag} {v : V} {i j : Int} {te : TE} {tl th : TO}
theorem q_notInS {c : Nat} {z : Str} (q : Q (.bl (!decide (c ∈ z.cps.toList))) H) : rNotInS (.str ⟨#[c]⟩) (.str z) H Q := ⟨c, z, rfl, rfl, q⟩
theorem q_lenLit {z : Str} (n : Nat) (e : z.length = n) (h : n ≤ 1000000) (q : Q (.int (n : Nat)) H) : rLen K [.str z] H Q := q_lenS (by rw [e]; exact size_of h) (by rw [e]; exact q)
theorem q_gSub {to ti : TE} {t : TSet} {nx : L2.St → Hp → Prop} (q : to σ H fun o H1 => ti σ H1 fun i H2 => t o i v H2 fun H3 => nx σ H3) : gSub to ti t v σ H nx := q
theorem q_setL {p : Addr} {xs : List V} {R : Hp → Prop} (h : H p = some (.lst xs)) (h0 : 0 ≤ i) (h1 : i < xs.length) (q : R (upd H p (.lst (xs.set i.toNat v)))) : rSetL (.ref p) (.int i) v H R := by
  obtain ⟨k, rfl⟩ : ∃ k : Nat, i = (k : Int) := ⟨i.toNat, by omega⟩
  exact ⟨p, xs, _, k, rfl, rfl, h, (by unfold ixN; rw [if_pos (by omega), if_pos (by omega)]; rfl), q⟩
theorem q_catF {a b : Addr} {xs ys : List V} (h1 : H a = some (.lst xs)) (h2 : H b = some (.lst ys)) (hl : xs.length + ys.length ≤ sizeLine) (q : ∀ p H', H p = none → Same H H' → H' p = some (.lst (xs ++ ys)) → Q (.ref p) H') : rCat (.ref a) (.ref b) H Q :=
  ⟨a, b, xs, ys, rfl, rfl, h1, h2, hl, fun p hp => q p _ hp (same_upd hp) upd_same⟩
theorem q_slT1 {a : Addr} {v0 v1 v2 v3 v4 : V} (h : H a = some (.tup [v0, v1, v2, v3, v4])) (q : ∀ p H', Same H H' → H' p = some (.tup [v1, v2, v3, v4]) → Q (.ref p) H') : rSlT K (.ref a) (some 1) none H Q :=
  ⟨a, _, rfl, sqT_of h, by simp [HT.sIx], fun p hp => q p _ (same_upd hp) (by rw [upd_same]; rfl)⟩
theorem sl_tupK {X : Cx} (K : PySem.W.Frag) (h : X.K = K := by rfl) : SlR X (rSlT K) := by subst h; exact sl_tup
/-- signs below 128 alone -/
def Asc (z : Str) : Prop := ∀ c ∈ z.cps.toList, c < 128
theorem Asc.app {a b : Str} (ha : Asc a) (hb : Asc b) : Asc (a ++ b) := fun c h => by
  rw [tl_app] at h
  rcases List.mem_append.mp h with h | h
  · exact ha c h
  · exact hb c h
theorem Asc.ok {z : Str} (h : Asc z) : PyData.strOk z = true := by
  unfold PyData.strOk
  rw [Array.all_eq_true]
  intro i hi
  have := h z.cps[i] (by simp)
  simp
  omega
theorem Low.asc {z : Str} (h : Low z) : Asc z := fun c hc => by have := h c hc; omega
theorem asc_one {c : Nat} (h : c < 128) : Asc ⟨#[c]⟩ := fun d hd => by
  simp at hd
  omega
theorem Asc.cut {z : Str} {lo hi : Option Int} (h : Asc z) : Asc (cutS z lo hi) := fun c hc => h c (List.mem_of_mem_drop (List.mem_of_mem_take (by
  have e : (cutS z lo hi).cps.toList = (z.cps.toList.drop (HT.sIx z.length 0 lo)).take (HT.sIx z.length z.length hi - HT.sIx z.length 0 lo) := by unfold cutS; simp
  rw [e] at hc
  exact hc)))
theorem q_ixLit {z : Str} (n : Nat) (e : z.length = n) (ha : z.cps.toList.all (fun c => decide (c < 128)) = true) (hn : n ≤ 1000000) (h0 : 0 ≤ i) (h1 : i < n) (q : ∀ c : Nat, c < 128 → Q (.str ⟨#[c]⟩) H) : rIxS (.str z) (.int i) H Q := by
  obtain ⟨k, rfl⟩ : ∃ k : Nat, i = (k : Int) := ⟨i.toNat, by omega⟩
  have hk : k < z.cps.toList.length := by rw [← tl_len, e]; omega
  refine ⟨z, _, z.cps.toList[k], rfl, rfl, by rw [e]; exact size_of hn, atI_nat (List.getElem?_eq_getElem hk), q _ ?_⟩
  exact of_decide_eq_true (List.all_eq_true.mp ha _ (List.getElem_mem hk))
theorem mem_abc {c : Nat} : c ∈ abc.cps.toList ↔ 97 ≤ c ∧ c ≤ 122 := by
  rw [show abc.cps.toList = (List.range 26).map (fun i => 97 + i) from by decide +kernel, List.mem_map]
  constructor
  · rintro ⟨i, hi, rfl⟩
    have := List.mem_range.mp hi
    omega
  · intro h
    exact ⟨c - 97, List.mem_range.mpr (by omega), by omega⟩
/-- a list of texts against the empty one -/
theorem q_neNilS {p r : Addr} {zs : List Str} (h1 : H p = some (.lst (zs.map V.str))) (h2 : H r = some (.lst [])) (hz : ∀ z ∈ zs, PyData.strOk z = true) (q : Q (.bl (!zs.isEmpty)) H) : rNeD K (.ref p) (.ref r) H Q := by
  refine ⟨.list (zs.map PyData.str), .list [], dp_lstrs h1, .lst (sqL_of h2) .nil, shaped_list zs fun a ha => ok_dStr a (hz a ha), rfl, ?_⟩
  cases zs with
  | nil => exact q
  | cons a r => exact q
theorem set4 (a b c d z : Int) (j : Nat) (hj : j < 4) : ∃ a' b' c' d' : Int, ([V.int a, .int b, .int c, .int d].set j (.int z)) = [V.int a', .int b', .int c', .int d'] := by
  rcases j with _ | _ | _ | _ | j
  · exact ⟨_, _, _, _, rfl⟩
  · exact ⟨_, _, _, _, rfl⟩
  · exact ⟨_, _, _, _, rfl⟩
  · exact ⟨_, _, _, _, rfl⟩
  · omega
end
theorem flip_ {α β : Type} {R : α → β → Prop} : ∀ {xs : List α} {ys : List β}, Paired R xs ys → Paired (fun y x => R x y) ys xs
  | _, _, .nil => .nil
  | _, _, .cons r t => .cons r (flip_ t)
/-! ### names and letters that are some -/
def IsName (z : Str) : Prop := 1 ≤ z.length ∧ z.length ≤ 12 ∧ Low z
def NumOk (x : Int) : Prop := 0 ≤ x ∧ x ≤ 1000000000000
def Good (L : Ltr) : Prop := NumOk L.sent ∧ NumOk L.back ∧ NumOk L.low ∧ NumOk L.high ∧ L.sent ≤ L.back ∧ L.low ≤ L.high
theorem Good.mem {L : Ltr} (h : Good L) : ∀ x ∈ [L.sent, L.back, L.low, L.high], NumOk x := by
  obtain ⟨h1, h2, h3, h4, _⟩ := h
  intro x hx
  simp at hx
  rcases hx with rfl | rfl | rfl | rfl <;> assumption
theorem Good.of {L : Ltr} (h : ∀ x ∈ [L.sent, L.back, L.low, L.high], NumOk x) (h1 : L.sent ≤ L.back) (h2 : L.low ≤ L.high) : Good L := ⟨h _ (by simp), h _ (by simp), h _ (by simp), h _ (by simp), h1, h2⟩
theorem map_at {α : Type} {f : α → V} {l : List α} {i : Nat} {x : V} (h : (l.map f)[i]? = some x) : ∃ t, l[i]? = some t ∧ x = f t := by
  rw [List.getElem?_map] at h
  cases e : l[i]? with
  | none => rw [e] at h; cases h
  | some t => rw [e] at h; cases h; exact ⟨t, rfl, rfl⟩
theorem take_all {α : Type} {l : List α} {i : Nat} {t : α} {p : α → Prop} (h : l[i]? = some t) (ht : p t) (hl : ∀ x ∈ l.take i, p x) : ∀ x ∈ l.take (i + 1), p x := by
  intro x hx
  rw [List.take_add_one, h] at hx
  rcases List.mem_append.mp hx with hx | hx
  · exact hl x hx
  · simp at hx
    rw [hx]
    exact ht
/-- both ways of an if lead on to one place -/
theorem q_join {t u : TS} {p : Prop} [Decidable p] {nx bk ct : L2.St → Hp → Prop} {rt : VK} {σ : L2.St} {H : Hp} (P : L2.St → Hp → Prop) (h1 : ∀ σ' H', P σ' H' → nx σ' H')
    (h2 : ∀ nx' : L2.St → Hp → Prop, (∀ σ' H', P σ' H' → nx' σ' H') → if p then t ⟨nx', rt, bk, ct⟩ σ H else u ⟨nx', rt, bk, ct⟩ σ H) : if p then t ⟨nx, rt, bk, ct⟩ σ H else u ⟨nx, rt, bk, ct⟩ σ H := h2 nx h1
theorem q_joinS {tt : TT} {t u : TS} {nx bk ct : L2.St → Hp → Prop} {rt : VK} {σ : L2.St} {H : Hp} (P : L2.St → Hp → Prop) (h1 : ∀ σ' H', P σ' H' → nx σ' H')
    (h2 : ∀ nx' : L2.St → Hp → Prop, (∀ σ' H', P σ' H' → nx' σ' H') → tIfS tt t u ⟨nx', rt, bk, ct⟩ σ H) : tIfS tt t u ⟨nx, rt, bk, ct⟩ σ H := h2 nx h1
theorem two_of {ys : List V} (h : Paired (fun (_ : Nat) v => ∃ z : Int, v = V.int z) ((List.range (Int.toNat 2)).filter fun _ => true) ys) : ∃ x y : Int, ys = [.int x, .int y] := by
  rw [filt_all] at h
  have e : List.range (Int.toNat 2) = [0, 1] := rfl
  rw [e] at h
  cases h with
  | cons h1 t =>
    cases t with
    | cons h2 t =>
      cases t
      obtain ⟨x, rfl⟩ := h1
      obtain ⟨y, rfl⟩ := h2
      exact ⟨x, y, rfl⟩
theorem shaped_lt {L : Ltr} (h : PyData.strOk L.name = true) : SeqAt.shaped (dLt L) = true := by
  obtain ⟨a, b⟩ := ok_dLt L h
  unfold SeqAt.shaped
  simp [a]
  omega
end Ts

/-! Clocks gathered: names in the order of their first, what all of one's letters have in common. -/
namespace Ts
open PySem PySem.Spec PyProof.Rows L2
def addN (acc : List Str) (n : Str) : List Str := if n ∈ acc then acc else acc ++ [n]
def firsts (ns : List Str) : List Str := ns.foldl addN []
theorem firsts_snoc (ns : List Str) (n : Str) : firsts (ns ++ [n]) = addN (firsts ns) n := by
  unfold firsts
  rw [List.foldl_append]
  rfl
theorem mem_addN {acc : List Str} {n m : Str} : m ∈ addN acc n ↔ m ∈ acc ∨ m = n := by
  unfold addN
  split
  · constructor
    · exact .inl
    · rintro (h | rfl)
      · exact h
      · assumption
  · simp
theorem mem_fold : ∀ (ns acc : List Str) (m : Str), m ∈ ns.foldl addN acc ↔ m ∈ acc ∨ m ∈ ns
  | [], acc, m => by simp
  | n :: r, acc, m => by
    rw [List.foldl_cons, mem_fold r, mem_addN, List.mem_cons, or_assoc]
theorem mem_firsts {ns : List Str} {m : Str} : m ∈ firsts ns ↔ m ∈ ns := by
  unfold firsts
  rw [mem_fold]
  simp
theorem nd_fold : ∀ (ns acc : List Str), acc.Nodup → (ns.foldl addN acc).Nodup
  | [], acc, h => h
  | n :: r, acc, h => by
    rw [List.foldl_cons]
    refine nd_fold r _ ?_
    unfold addN
    split
    · exact h
    · rw [List.nodup_append]
      refine ⟨h, by simp, fun a ha b hb => ?_⟩
      rw [List.mem_singleton.mp hb]
      rintro rfl
      contradiction
theorem nd_firsts (ns : List Str) : (firsts ns).Nodup := nd_fold ns [] .nil
theorem len_fold : ∀ (ns acc : List Str), (ns.foldl addN acc).length ≤ acc.length + ns.length
  | [], acc => Nat.le_refl _
  | n :: r, acc => by
    rw [List.foldl_cons]
    have h := len_fold r (addN acc n)
    have h2 : (addN acc n).length ≤ acc.length + 1 := by
      unfold addN
      split
      · omega
      · simp
    rw [List.length_cons]
    omega
theorem len_firsts (ns : List Str) : (firsts ns).length ≤ ns.length := by
  have := len_fold ns []
  simpa [firsts] using this

/-! ### what stretches have in common -/
def common (o : Stc) (p : Int × Int) : Stc := match o with
  | none => none
  | some a => if max a.1 p.1 ≤ min a.2 p.2 then some (max a.1 p.1, min a.2 p.2) else none
theorem common_no {a p : Int × Int} (h : ¬ max a.1 p.1 ≤ min a.2 p.2) : common (some a) p = none := if_neg h
theorem common_yes {a p : Int × Int} (h : max a.1 p.1 ≤ min a.2 p.2) : common (some a) p = some (max a.1 p.1, min a.2 p.2) := if_pos h
def gstep (o : Option Stc) (p : Int × Int) : Option Stc := some (match o with
  | none => some p
  | some c => common c p)
def gval (ps : List (Int × Int)) : Option Stc := ps.foldl gstep none
theorem gval_snoc (ps : List (Int × Int)) (p : Int × Int) : gval (ps ++ [p]) = gstep (gval ps) p := by
  unfold gval
  rw [List.foldl_append]
  rfl
theorem gval_some : ∀ {ps : List (Int × Int)}, ps ≠ [] → ∃ c, gval ps = some c := by
  intro ps h
  have gen : ∀ (ps : List (Int × Int)) (o : Stc), ∃ c, ps.foldl gstep (some o) = some c := by
    intro ps
    induction ps with
    | nil => exact fun o => ⟨o, rfl⟩
    | cons p r ih => exact fun o => ih _
  cases ps with
  | nil => exact absurd rfl h
  | cons p r => exact gen r _
def box (M m : Int) : Stc := if M ≤ m then some (M, m) else none
def mxF (M : Int) (ps : List (Int × Int)) : Int := ps.foldl (fun a p => max a p.1) M
def mnF (m : Int) (ps : List (Int × Int)) : Int := ps.foldl (fun a p => min a p.2) m
theorem common_box (M m : Int) (p : Int × Int) : common (box M m) p = box (max M p.1) (min m p.2) := by
  unfold box
  by_cases h : M ≤ m
  · rw [if_pos h]
    rfl
  · rw [if_neg h, if_neg (by omega)]
    rfl
theorem fold_box : ∀ (ps : List (Int × Int)) (M m : Int), ps.foldl gstep (some (box M m)) = some (box (mxF M ps) (mnF m ps))
  | [], M, m => rfl
  | p :: r, M, m => by
    rw [List.foldl_cons]
    show r.foldl gstep (some (common (box M m) p)) = _
    rw [common_box, fold_box r]
    rfl
theorem mxF_spec : ∀ (ps : List (Int × Int)) (M : Int), M ≤ mxF M ps ∧ (∀ x ∈ ps, x.1 ≤ mxF M ps) ∧ (mxF M ps = M ∨ ∃ x ∈ ps, mxF M ps = x.1)
  | [], M => ⟨Int.le_refl _, fun x h => (List.not_mem_nil h).elim, .inl rfl⟩
  | p :: r, M => by
    have e : mxF M (p :: r) = mxF (max M p.1) r := rfl
    obtain ⟨h1, h2, h3⟩ := mxF_spec r (max M p.1)
    rw [e]
    refine ⟨by omega, fun x hx => ?_, ?_⟩
    · rcases List.mem_cons.mp hx with rfl | hx
      · omega
      · exact h2 x hx
    · rcases h3 with h3 | ⟨x, hx, h3⟩
      · by_cases q : M ≤ p.1
        · exact .inr ⟨p, List.mem_cons_self, by omega⟩
        · exact .inl (by omega)
      · exact .inr ⟨x, List.mem_cons_of_mem _ hx, h3⟩
theorem mnF_spec : ∀ (ps : List (Int × Int)) (m : Int), mnF m ps ≤ m ∧ (∀ x ∈ ps, mnF m ps ≤ x.2) ∧ (mnF m ps = m ∨ ∃ x ∈ ps, mnF m ps = x.2)
  | [], m => ⟨Int.le_refl _, fun x h => (List.not_mem_nil h).elim, .inl rfl⟩
  | p :: r, m => by
    have e : mnF m (p :: r) = mnF (min m p.2) r := rfl
    obtain ⟨h1, h2, h3⟩ := mnF_spec r (min m p.2)
    rw [e]
    refine ⟨by omega, fun x hx => ?_, ?_⟩
    · rcases List.mem_cons.mp hx with rfl | hx
      · omega
      · exact h2 x hx
    · rcases h3 with h3 | ⟨x, hx, h3⟩
      · by_cases q : p.2 ≤ m
        · exact .inr ⟨p, List.mem_cons_self, by omega⟩
        · exact .inl (by omega)
      · exact .inr ⟨x, List.mem_cons_of_mem _ hx, h3⟩
/-- the greatest low and the least high tell it -/
theorem gval_mm {ps : List (Int × Int)} {M m : Int} (hok : ∀ p ∈ ps, p.1 ≤ p.2) (h1 : ∃ x ∈ ps, x.1 = M) (h2 : ∀ x ∈ ps, x.1 ≤ M) (h3 : ∃ x ∈ ps, x.2 = m) (h4 : ∀ x ∈ ps, m ≤ x.2) : gval ps = some (box M m) := by
  cases ps with
  | nil => obtain ⟨x, h, _⟩ := h1; exact (List.not_mem_nil h).elim
  | cons p r =>
    have e : gval (p :: r) = r.foldl gstep (some (box p.1 p.2)) := by
      unfold box
      rw [if_pos (hok p List.mem_cons_self)]
      rfl
    obtain ⟨a1, a2, a3⟩ := mxF_spec r p.1
    obtain ⟨b1, b2, b3⟩ := mnF_spec r p.2
    have eM : mxF p.1 r = M := by
      obtain ⟨x, hx, hx1⟩ := h1
      have q1 : mxF p.1 r ≤ M := by
        rcases a3 with a3 | ⟨y, hy, a3⟩
        · rw [a3]; exact h2 p List.mem_cons_self
        · rw [a3]; exact h2 y (List.mem_cons_of_mem _ hy)
      have q2 : x.1 ≤ mxF p.1 r := by
        rcases List.mem_cons.mp hx with rfl | hx
        · exact a1
        · exact a2 x hx
      omega
    have em : mnF p.2 r = m := by
      obtain ⟨x, hx, hx1⟩ := h3
      have q1 : m ≤ mnF p.2 r := by
        rcases b3 with b3 | ⟨y, hy, b3⟩
        · rw [b3]; exact h4 p List.mem_cons_self
        · rw [b3]; exact h4 y (List.mem_cons_of_mem _ hy)
      have q2 : mnF p.2 r ≤ x.2 := by
        rcases List.mem_cons.mp hx with rfl | hx
        · exact b1
        · exact b2 x hx
      omega
    rw [e, fold_box, eM, em]

/-! ### by names -/
def psOf (st : Ltr → Int × Int) (n : Str) (ls : List Ltr) : List (Int × Int) := (ls.filter fun L => decide (L.name = n)).map st
def gathL (st : Ltr → Int × Int) (ls : List Ltr) : List Clk := (firsts (ls.map Ltr.name)).map fun n => (n, (gval (psOf st n ls)).getD none)
theorem psOf_eq {st : Ltr → Int × Int} {n : Str} {ls : List Ltr} {L : Ltr} (h : L.name = n) : psOf st n (ls ++ [L]) = psOf st n ls ++ [st L] := by
  unfold psOf
  rw [List.filter_append, List.map_append]
  simp [h]
theorem psOf_ne {st : Ltr → Int × Int} {n : Str} {ls : List Ltr} {L : Ltr} (h : L.name ≠ n) : psOf st n (ls ++ [L]) = psOf st n ls := by
  unfold psOf
  rw [List.filter_append, List.map_append]
  simp [h]
theorem psOf_has {st : Ltr → Int × Int} {n : Str} {ls : List Ltr} (h : n ∈ ls.map Ltr.name) : psOf st n ls ≠ [] := by
  obtain ⟨L, hL, rfl⟩ := List.mem_map.mp h
  have : st L ∈ psOf st L.name ls := List.mem_map.mpr ⟨L, List.mem_filter.mpr ⟨hL, by simp⟩, rfl⟩
  intro e
  rw [e] at this
  exact (List.not_mem_nil this).elim
theorem psOf_mem {st : Ltr → Int × Int} {n : Str} {ls : List Ltr} {p : Int × Int} (h : p ∈ psOf st n ls) : ∃ L ∈ ls, L.name = n ∧ p = st L := by
  obtain ⟨L, hL, rfl⟩ := List.mem_map.mp h
  obtain ⟨h1, h2⟩ := List.mem_filter.mp hL
  exact ⟨L, h1, of_decide_eq_true h2, rfl⟩
theorem len_gath (st : Ltr → Int × Int) (ls : List Ltr) : (gathL st ls).length ≤ ls.length := by
  unfold gathL
  rw [List.length_map]
  have := len_firsts (ls.map Ltr.name)
  rwa [List.length_map] at this
/-- the dict that gathered fills -/
structure GInv (st : Ltr → Int × Int) (H : Hp) (ls : List Ltr) (kvs : List (Key × V)) : Prop where
  keys : kvs.map (·.1) = (firsts (ls.map Ltr.name)).map Sum.inr
  no : ∀ n, gval (psOf st n ls) = none → valV kvs (.inr n) = none
  yes : ∀ n c, gval (psOf st n ls) = some c → ∃ v, valV kvs (.inr n) = some v ∧ IsSt H v c
theorem GInv.mono {st : Ltr → Int × Int} {H H' : Hp} {ls : List Ltr} {kvs : List (Key × V)} (s : TSame H H') (h : GInv st H ls kvs) : GInv st H' ls kvs :=
  ⟨h.keys, h.no, fun n c e => by obtain ⟨v, h1, h2⟩ := h.yes n c e; exact ⟨v, h1, h2.mono s⟩⟩
theorem GInv.len {st : Ltr → Int × Int} {H : Hp} {ls : List Ltr} {kvs : List (Key × V)} (h : GInv st H ls kvs) : kvs.length ≤ ls.length := by
  have e := congrArg List.length h.keys
  simp only [List.length_map] at e
  have := len_firsts (ls.map Ltr.name)
  rw [List.length_map] at this
  omega
theorem keys_in {kvs : List (Key × V)} {k : Key} (v : V) (hk : k ∈ kvs.map (·.1)) : (putK kvs k v).map (·.1) = kvs.map (·.1) := by
  have a : (kvs.any fun kv => decide (kv.1 = k)) = true := by
    obtain ⟨kv, h1, h2⟩ := List.mem_map.mp hk
    exact List.any_eq_true.mpr ⟨kv, h1, decide_eq_true h2⟩
  unfold putK
  rw [if_pos a, List.map_map]
  have : (fun kv : Key × V => kv.1) ∘ (fun kv => if kv.1 = k then (kv.1, v) else kv) = fun kv => kv.1 := by
    funext kv
    show (if kv.1 = k then (kv.1, v) else kv).1 = kv.1
    split <;> rfl
  rw [this]
theorem keys_no {kvs : List (Key × V)} {k : Key} (v : V) (hk : k ∉ kvs.map (·.1)) : (putK kvs k v).map (·.1) = kvs.map (·.1) ++ [k] := by
  have a : ¬ (kvs.any fun kv => decide (kv.1 = k)) = true := by
    intro h
    obtain ⟨kv, h1, h2⟩ := List.any_eq_true.mp h
    exact hk (List.mem_map.mpr ⟨kv, h1, of_decide_eq_true h2⟩)
  unfold putK
  rw [if_neg a, List.map_append]
  rfl
theorem ginv_put {st : Ltr → Int × Int} {H : Hp} {ls : List Ltr} {L : Ltr} {kvs : List (Key × V)} {v : V} {c : Stc} (h : GInv st H ls kvs) (e : gstep (gval (psOf st L.name ls)) (st L) = some c) (hv : IsSt H v c) :
    GInv st H (ls ++ [L]) (putK kvs (.inr L.name) v) := by
  have hput : ∀ n : Str, valV (putK kvs (.inr L.name) v) (.inr n) = if n = L.name then some v else valV kvs (.inr n) := fun n => by
    rw [valV_put]
    by_cases q : n = L.name
    · rw [if_pos (congrArg Sum.inr q), if_pos q]
    · rw [if_neg fun z => q (Sum.inr.inj z), if_neg q]
  refine ⟨?_, fun n hn => ?_, fun n d hn => ?_⟩
  · rw [List.map_append, List.map_cons, List.map_nil, firsts_snoc]
    unfold addN
    by_cases q : L.name ∈ firsts (ls.map Ltr.name)
    · rw [keys_in v (by rw [h.keys]; exact List.mem_map.mpr ⟨_, q, rfl⟩), if_pos q]
      exact h.keys
    · rw [if_neg q, keys_no v, List.map_append, h.keys]
      · rfl
      · rw [h.keys]
        intro z
        obtain ⟨m, hm, em⟩ := List.mem_map.mp z
        cases em
        exact q hm
  · rw [hput]
    by_cases q : n = L.name
    · subst q
      rw [psOf_eq rfl, gval_snoc, e] at hn
      cases hn
    · rw [if_neg q]
      rw [psOf_ne (fun z => q z.symm)] at hn
      exact h.no n hn
  · rw [hput]
    by_cases q : n = L.name
    · subst q
      rw [psOf_eq rfl, gval_snoc, e] at hn
      cases hn
      rw [if_pos rfl]
      exact ⟨v, rfl, hv⟩
    · rw [if_neg q]
      rw [psOf_ne (fun z => q z.symm)] at hn
      exact h.yes n d hn
theorem ginv_nil {st : Ltr → Int × Int} {H : Hp} : GInv st H [] [] := ⟨rfl, fun _ _ => rfl, fun n c e => by cases e⟩
/-- the i-th key -/
theorem GInv.at_ {st : Ltr → Int × Int} {H : Hp} {ls : List Ltr} {kvs : List (Key × V)} (h : GInv st H ls kvs) {i : Nat} {k : Key} {v0 : V} (e : kvs[i]? = some (k, v0)) :
    ∃ n c v, k = .inr n ∧ (gathL st ls)[i]? = some (n, c) ∧ valV kvs (.inr n) = some v ∧ IsSt H v c := by
  have e1 : (kvs.map (·.1))[i]? = some k := by rw [List.getElem?_map, e]; rfl
  rw [h.keys, List.getElem?_map] at e1
  cases e2 : (firsts (ls.map Ltr.name))[i]? with
  | none => rw [e2] at e1; cases e1
  | some n =>
    rw [e2] at e1
    cases e1
    obtain ⟨c, hc⟩ := gval_some (psOf_has (st := st) (mem_firsts.mp (List.mem_of_getElem? e2)))
    obtain ⟨v, h1, h2⟩ := h.yes n c hc
    refine ⟨n, c, v, rfl, ?_, h1, h2⟩
    unfold gathL
    rw [List.getElem?_map, e2, Option.map_some, hc]
    rfl
theorem GInv.len2 {st : Ltr → Int × Int} {H : Hp} {ls : List Ltr} {kvs : List (Key × V)} (h : GInv st H ls kvs) : kvs.length = (gathL st ls).length := by
  have e := congrArg List.length h.keys
  simp only [List.length_map] at e
  unfold gathL
  rw [List.length_map]
  exact e

/-! ### reading -/
section
variable {σ : L2.St} {H : Hp} {Q : VK} {K : PySem.W.Frag} {v : V} {g : TG} {tt : TT} {te ty td : TE} {vs : List Nat} {d : Addr} {kvs : List (Key × V)} {s : Str}
theorem q_din (q : ty σ H fun y H1 => td σ H1 fun x H2 => ∃ a o, x = .ref a ∧ DGet H2 a y o ∧ Q (.bl o.isSome) H2) : tDIn ty td σ H Q := q
theorem q_dinS {P : Option V → Prop} (h : H d = some (.dK kvs)) (q : P (valV kvs (.inr s))) : ∃ a o, V.ref d = .ref a ∧ DGet H a (.str s) o ∧ P o := ⟨d, _, rfl, DGet.k (k := .inr s) h, q⟩
theorem q_dgetR {P : V → Prop} (h : Rd H d (.dK kvs)) (hv : valV kvs (.inr s) = some v) (q : P v) : ∃ a v', V.ref d = .ref a ∧ DGet H a (.str s) (some v') ∧ P v' := ⟨d, v, rfl, .inl ⟨kvs, .inr s, h, rfl, hv.symm⟩, q⟩
/-- a comprehension over a dict's keys, the dict locked -/
theorem q_lockKeys {j : Nat} (hj : σ[j]? = some (some (.ref d))) (h : H d = some (.dK kvs)) (hn : kvs.length ≤ 100000) (f : Nat → Bool) (S : Nat → Hp → V → Prop) (hm : ∀ i y H1 H2, TSame H1 H2 → S i H1 y → S i H2 y)
    (hs : ∀ (i : Nat) k v H' (QB : Hp → Prop) (QV : VK), kvs[i]? = some (k, v) → Rd H' d (.dK kvs) → TSame H H' → (f i = false → ∀ H2, Same H' H2 → QB H2) → (∀ y H2, f i = true → Same H' H2 → S i H2 y → QV y H2) → LcT g tt te σ vs (kV k) H' QB QV)
    (q : ∀ ys D H', Same H H' → H D = none → H' D = some (.lst ys) → Paired (fun i y => S i H' y) ((List.range kvs.length).filter f) ys → Q (.ref D) H') :
    tLockE (tLc (iKeys (tVar j)) g tt te vs) σ H Q := by
  refine ⟨d, _, h, trivial, fun od => ?_⟩
  have hne : ∀ b o, H b = some o → b ≠ d → (upd H d (.frz od (.dK kvs))) b = some o := fun b o e q => by rw [upd_ne q]; exact e
  have t0 : TSame H (upd H d (.frz od (.dK kvs))) := fun b xs e => hne b _ e fun z => by rw [z, h] at e; cases e
  have h0 : (upd H d (.frz od (.dK kvs))) d = some (.frz od (.dK kvs)) := upd_same
  refine ⟨_, hj, d, od, rfl, .inl ⟨kvs, h0, ?_⟩⟩
  show LcW (Itk d od kvs) σ (upd H d (.frz od (.dK kvs))) g tt te vs (fun v H' => H' d = some (.frz od (.dK kvs)) ∧ Q v (upd H' d (.dK kvs)))
  refine q_lcWalk walk_keys hn f S (fun H' s => s _ _ h0) (fun _ _ _ _ y => y.1) hm (fun i x H' QB QV _ y s => ?_) (fun ys D H' s hD hy pr => ?_)
  · obtain ⟨_, k, v, e, rfl⟩ := y
    exact hs i k v H' QB QV e (.inr ⟨od, s _ _ h0⟩) (t0.trans (tsame_of s))
  · have hd' : H' d = some (.frz od (.dK kvs)) := s _ _ h0
    have nD : D ≠ d := fun z => by rw [z, h0] at hD; cases hD
    have t1 : TSame H' (upd H' d (.dK kvs)) := fun b xs e => by
      rw [upd_ne fun z => by rw [z, hd'] at e; cases e]
      exact e
    refine ⟨hd', q ys D _ (fun b o e => ?_) ?_ (by rw [upd_ne nD]; exact hy) (Paired.imp (fun i y r => hm i y _ _ t1 r) pr)⟩
    · by_cases z : b = d
      · rw [z, upd_same]
        rw [z, h] at e
        exact e
      · rw [upd_ne z]
        exact s _ _ (hne b o e z)
    · rw [upd_ne nD] at hD
      exact hD
end
end Ts

/-! Over the whole: a course of time, who is right, how many are wrong. -/
namespace Ts
open PySem PySem.Spec PyProof.Rows L2
theorem nodup_le {α : Type} [DecidableEq α] : ∀ {l1 l2 : List α}, l1.Nodup → (∀ x ∈ l1, x ∈ l2) → l1.length ≤ l2.length
  | [], _, _, _ => Nat.zero_le _
  | a :: r, l2, h, s => by
    have ha := s a List.mem_cons_self
    obtain ⟨h1, h2⟩ := List.nodup_cons.mp h
    have h3 := nodup_le (l2 := l2.erase a) h2 fun x hx => (List.mem_erase_of_ne (fun e => h1 (by rw [← e]; exact hx))).mpr (s x (List.mem_cons_of_mem _ hx))
    rw [List.length_erase_of_mem ha] at h3
    have h4 := List.length_pos_of_mem ha
    rw [List.length_cons]
    omega
/-! ### how many are wrong -/
theorem seven : ∀ m : Fin 41, m.val % 7 ≠ 0 → ∀ d : Fin 41, d.val < m.val → 7 * d.val % m.val = 0 → d.val = 0 := by decide +kernel
theorem seven_inj {m k j : Nat} {c : Int} (hm : m ≤ 40) (h7 : m % 7 ≠ 0) (hk : k < m) (hj : j < m) (e : ((k : Int) * 7 + c) % (m : Int) = ((j : Int) * 7 + c) % (m : Int)) : k = j := by
  have main : ∀ a b : Nat, a ≤ b → b < m → ((b : Int) * 7 + c) % (m : Int) = ((a : Int) * 7 + c) % (m : Int) → a = b := by
    intro a b hab hb h
    have h2 := Int.emod_eq_emod_iff_emod_sub_eq_zero.mp h
    have h3 : ((b : Int) * 7 + c) - ((a : Int) * 7 + c) = ((7 * (b - a) : Nat) : Int) := by omega
    rw [h3] at h2
    have h4 : 7 * (b - a) % m = 0 := by
      have : ((7 * (b - a) % m : Nat) : Int) = 0 := by rw [Int.natCast_emod]; exact h2
      omega
    have := seven ⟨m, by omega⟩ h7 ⟨b - a, by omega⟩ (by show b - a < m; omega) h4
    have : b - a = 0 := this
    omega
  by_cases h : k ≤ j
  · exact main k j h hj e.symm
  · exact (main j k (by omega) hk e).symm
/-- the law's rule who is right -/
def isGood (m w : Nat) (c : Int) (k : Nat) : Bool := if m % 7 = 0 then decide (w ≤ k) else decide ((w : Int) ≤ ((k : Int) * 7 + c) % (m : Int))
theorem len_bad {m w : Nat} {c : Int} (h0 : 1 ≤ m) (hm : m ≤ 40) : ((List.range m).filter fun k => !isGood m w c k).length ≤ w := by
  by_cases h7 : m % 7 = 0
  · have h := nodup_le (l1 := (List.range m).filter fun k => !isGood m w c k) (l2 := List.range w) (List.Pairwise.filter _ List.nodup_range) (fun k hk => by
      obtain ⟨_, h2⟩ := List.mem_filter.mp hk
      unfold isGood at h2
      rw [if_pos h7] at h2
      rw [List.mem_range]
      simp at h2
      exact h2)
    rwa [List.length_range] at h
  · have nd : (((List.range m).filter fun k => !isGood m w c k).map fun k : Nat => (((k : Int) * 7 + c) % (m : Int)).toNat).Nodup := by
      rw [List.nodup_iff_pairwise_ne, List.pairwise_map]
      refine List.Pairwise.imp_of_mem ?_ (List.nodup_iff_pairwise_ne.mp (List.Pairwise.filter (fun k => !isGood m w c k) (List.nodup_range (n := m))))
      intro a b ha hb hne e
      have ha1 := List.mem_range.mp (List.mem_filter.mp ha).1
      have hb1 := List.mem_range.mp (List.mem_filter.mp hb).1
      have a0 := Int.emod_nonneg ((a : Int) * 7 + c) (show (m : Int) ≠ 0 by omega)
      have b0 := Int.emod_nonneg ((b : Int) * 7 + c) (show (m : Int) ≠ 0 by omega)
      exact hne (seven_inj (c := c) hm h7 ha1 hb1 (by omega))
    have h := nodup_le (l2 := List.range w) nd (fun x hx => by
      obtain ⟨k, hk, rfl⟩ := List.mem_map.mp hx
      obtain ⟨_, h2⟩ := List.mem_filter.mp hk
      unfold isGood at h2
      rw [if_neg h7] at h2
      have a0 := Int.emod_nonneg ((k : Int) * 7 + c) (show (m : Int) ≠ 0 by omega)
      simp at h2
      rw [List.mem_range]
      omega)
    rwa [List.length_map, List.length_range] at h

/-! ### what stretches that all have a time have in common -/
theorem gval_has {ps : List (Int × Int)} {t : Int} (hne : ps ≠ []) (h : ∀ p ∈ ps, p.1 ≤ t ∧ t ≤ p.2) : ∃ s : Int × Int, gval ps = some (some s) ∧ s.1 ≤ t ∧ t ≤ s.2 := by
  cases ps with
  | nil => exact absurd rfl hne
  | cons p r =>
    have hp := h p List.mem_cons_self
    have e : gval (p :: r) = r.foldl gstep (some (box p.1 p.2)) := by
      unfold box
      rw [if_pos (by omega)]
      rfl
    obtain ⟨a1, a2, a3⟩ := mxF_spec r p.1
    obtain ⟨b1, b2, b3⟩ := mnF_spec r p.2
    have q1 : mxF p.1 r ≤ t := by
      rcases a3 with a3 | ⟨y, hy, a3⟩
      · omega
      · have := h y (List.mem_cons_of_mem _ hy); omega
    have q2 : t ≤ mnF p.2 r := by
      rcases b3 with b3 | ⟨y, hy, b3⟩
      · omega
      · have := h y (List.mem_cons_of_mem _ hy); omega
    refine ⟨(mxF p.1 r, mnF p.2 r), ?_, q1, q2⟩
    rw [e, fold_box]
    unfold box
    rw [if_pos (by omega)]
theorem gval_le {ps : List (Int × Int)} {s : Int × Int} (h : ∀ p ∈ ps, p.1 ≤ p.2) (e : gval ps = some (some s)) : s.1 ≤ s.2 := by
  cases ps with
  | nil => cases e
  | cons p r =>
    have e2 : gval (p :: r) = r.foldl gstep (some (box p.1 p.2)) := by
      unfold box
      rw [if_pos (h p List.mem_cons_self)]
      rfl
    rw [e2, fold_box] at e
    unfold box at e
    split at e
    · cases e
      assumption
    · cases e

/-! ### how many bear a time -/
theorem many_count : ∀ (cs : List Clk) (t : Int), manyAt cs t + ((cs.filter fun c => !bearsO c.2 t).length : Nat) = (cs.length : Nat)
  | [], t => rfl
  | c :: r, t => by
    have ih := many_count r t
    have e : manyAt (c :: r) t = one (bearsO c.2 t) + manyAt r t := rfl
    rw [e]
    cases hb : bearsO c.2 t with
    | true =>
      rw [List.filter_cons, if_neg (by rw [hb]; decide), List.length_cons]
      show (1 : Int) + manyAt r t + _ = _
      omega
    | false =>
      rw [List.filter_cons, if_pos (by rw [hb]; rfl), List.length_cons, List.length_cons]
      show (0 : Int) + manyAt r t + _ = _
      omega
/-- the letters of the first i clocks -/
structure WInv (nmf : Nat → Str) (good : Nat → Bool) (st : Ltr → Int × Int) (t n : Int) (i : Nat) (ls : List Ltr) : Prop where
  each : ∀ L ∈ ls, ∃ k, k < i ∧ L.name = nmf k ∧ L.back ≤ n ∧ (st L).1 ≤ (st L).2 ∧ (good k = true → (st L).1 ≤ t ∧ t ≤ (st L).2)
  has : ∀ k, k < i → ∃ L ∈ ls, L.name = nmf k
section
variable {nmf : Nat → Str} {good : Nat → Bool} {st : Ltr → Int × Int} {t n : Int} {m w : Nat} {ls : List Ltr}
theorem WInv.mem (h : WInv nmf good st t n m ls) {z : Str} : z ∈ firsts (ls.map Ltr.name) ↔ ∃ k, k < m ∧ z = nmf k := by
  rw [mem_firsts]
  constructor
  · intro hz
    obtain ⟨L, hL, rfl⟩ := List.mem_map.mp hz
    obtain ⟨k, hk, e, _⟩ := h.each L hL
    exact ⟨k, hk, e⟩
  · rintro ⟨k, hk, rfl⟩
    obtain ⟨L, hL, e⟩ := h.has k hk
    exact List.mem_map.mpr ⟨L, hL, e⟩
theorem nd_names (hinj : ∀ a b, a < m → b < m → nmf a = nmf b → a = b) : ((List.range m).map nmf).Nodup := by
  rw [List.nodup_iff_pairwise_ne, List.pairwise_map]
  refine List.Pairwise.imp_of_mem ?_ (List.nodup_iff_pairwise_ne.mp (List.nodup_range (n := m)))
  intro a b ha hb hne e
  exact hne (hinj a b (List.mem_range.mp ha) (List.mem_range.mp hb) e)
theorem WInv.len (h : WInv nmf good st t n m ls) (hinj : ∀ a b, a < m → b < m → nmf a = nmf b → a = b) : (gathL st ls).length = m := by
  have e : (gathL st ls).length = (firsts (ls.map Ltr.name)).length := by unfold gathL; rw [List.length_map]
  have h1 := nodup_le (l2 := (List.range m).map nmf) (nd_firsts (ls.map Ltr.name)) fun z hz => by
    obtain ⟨k, hk, rfl⟩ := h.mem.mp hz
    exact List.mem_map.mpr ⟨k, List.mem_range.mpr hk, rfl⟩
  have h2 := nodup_le (l2 := firsts (ls.map Ltr.name)) (nd_names hinj) fun z hz => by
    obtain ⟨k, hk, rfl⟩ := List.mem_map.mp hz
    exact h.mem.mpr ⟨k, List.mem_range.mp hk, rfl⟩
  rw [List.length_map, List.length_range] at h1 h2
  omega
theorem WInv.clk (h : WInv nmf good st t n m ls) {c : Clk} (hc : c ∈ gathL st ls) : ∃ k, k < m ∧ c.1 = nmf k ∧ ∀ s, c.2 = some s → s.1 ≤ s.2 := by
  obtain ⟨z, hz, rfl⟩ := List.mem_map.mp hc
  obtain ⟨k, hk, e⟩ := h.mem.mp hz
  refine ⟨k, hk, e, fun s es => ?_⟩
  obtain ⟨o, ho⟩ := gval_some (psOf_has (st := st) (mem_firsts.mp hz))
  have es : (gval (psOf st z ls)).getD none = some s := es
  rw [ho] at es
  have es : o = some s := es
  rw [es] at ho
  refine gval_le (fun p hp => ?_) ho
  obtain ⟨L, hL, _, rfl⟩ := psOf_mem hp
  obtain ⟨_, _, _, _, q, _⟩ := h.each L hL
  exact q
/-- a right clock bears the time -/
theorem WInv.right (h : WInv nmf good st t n m ls) (hinj : ∀ a b, a < m → b < m → nmf a = nmf b → a = b) {c : Clk} (hc : c ∈ gathL st ls) {k : Nat} (hk : k < m) (e : c.1 = nmf k) (g : good k = true) : ∃ s, c.2 = some s ∧ s.1 ≤ t ∧ t ≤ s.2 := by
  obtain ⟨z, hz, rfl⟩ := List.mem_map.mp hc
  have e : z = nmf k := e
  obtain ⟨s, h1, h2⟩ := gval_has (ps := psOf st z ls) (t := t) (psOf_has (mem_firsts.mp hz)) fun p hp => by
    obtain ⟨L, hL, el, rfl⟩ := psOf_mem hp
    obtain ⟨j, hj, ej, _, _, q⟩ := h.each L hL
    have : j = k := hinj j k hj hk (by rw [← ej, el, e])
    subst this
    exact q g
  exact ⟨s, by show (gval (psOf st z ls)).getD none = _; rw [h1]; rfl, h2⟩
theorem WInv.many (h : WInv nmf good st t n m ls) (hinj : ∀ a b, a < m → b < m → nmf a = nmf b → a = b) (hw : ((List.range m).filter fun k => !good k).length ≤ w) : (m : Int) - w ≤ manyAt (gathL st ls) t := by
  have e := many_count (gathL st ls) t
  rw [h.len hinj] at e
  have nd : (((gathL st ls).filter fun c => !bearsO c.2 t).map Prod.fst).Nodup := by
    have n1 : ((gathL st ls).map Prod.fst).Nodup := by
      have : (gathL st ls).map Prod.fst = firsts (ls.map Ltr.name) := by
        unfold gathL
        rw [List.map_map]
        exact List.map_id _
      rw [this]
      exact nd_firsts _
    exact List.Nodup.sublist (List.Sublist.map _ List.filter_sublist) n1
  have hl := nodup_le (l2 := ((List.range m).filter fun k => !good k).map nmf) nd fun z hz => by
    obtain ⟨c, hc, rfl⟩ := List.mem_map.mp hz
    obtain ⟨h1, h2⟩ := List.mem_filter.mp hc
    obtain ⟨k, hk, ek, _⟩ := h.clk h1
    refine List.mem_map.mpr ⟨k, List.mem_filter.mpr ⟨List.mem_range.mpr hk, ?_⟩, ek.symm⟩
    cases g : good k with
    | false => rfl
    | true =>
      obtain ⟨s, es, s1, s2⟩ := h.right hinj h1 hk ek g
      rw [es] at h2
      have : bearsO (some s) t = true := by
        show (decide (s.1 ≤ t) && decide (t ≤ s.2)) = true
        rw [decide_eq_true s1, decide_eq_true s2]
        rfl
      rw [this] at h2
      cases h2
  rw [List.length_map, List.length_map] at hl
  omega
end
/-! ### the first low and the last high -/
theorem parts_first {M : Int → Int} {need t : Int} {x : Int × Int} {r : List (Int × Int)} (h : PartsOk M need (x :: r)) (ht : need ≤ M t) : x.1 ≤ t := by
  obtain ⟨y, hy, h1, h2⟩ := h.all t ht
  have hx := (h.each x List.mem_cons_self).1
  rcases List.mem_cons.mp hy with rfl | hy
  · exact h1
  · have := (List.pairwise_cons.mp h.ord).1 y hy
    omega
theorem parts_last {M : Int → Int} {need t : Int} {x : Int × Int} {r : List (Int × Int)} (h : PartsOk M need (r ++ [x])) (ht : need ≤ M t) : t ≤ x.2 := by
  obtain ⟨y, hy, h1, h2⟩ := h.all t ht
  rcases List.mem_append.mp hy with hy | hy
  · have h3 := (List.pairwise_append.mp h.ord).2.2 y hy x (by simp)
    have hx := (h.each x (by simp)).1
    omega
  · rw [List.mem_singleton.mp hy] at h2
    exact h2
/-! ### the course of time -/
structure LineOk (f : Int) (C T : List Int) : Prop where
  len : C.length = T.length
  pair : ∀ (i j : Nat) (x y u v : Int), i ≤ j → C[i]? = some x → C[j]? = some y → T[i]? = some u → T[j]? = some v → x ≤ y ∧ u ≤ v ∧ 1000 * (v - u - (y - x)) ≤ (y - x) * f ∧ 1000 * (y - x - (v - u)) ≤ (y - x) * f
  nn : ∀ u ∈ T, 0 ≤ u
theorem line_one {f x u : Int} (h : 0 ≤ u) : LineOk f [x] [u] := by
  refine ⟨rfl, fun i j a b c d hij h1 h2 h3 h4 => ?_, fun v hv => by rw [List.mem_singleton.mp hv]; exact h⟩
  have e1 : x = a := by
    cases i with
    | zero => simpa using h1
    | succ i => simp at h1
  have e2 : x = b := by
    cases j with
    | zero => simpa using h2
    | succ i => simp at h2
  have e3 : u = c := by
    cases i with
    | zero => simpa using h3
    | succ i => simp at h3
  have e4 : u = d := by
    cases j with
    | zero => simpa using h4
    | succ i => simp at h4
  subst e1 e2
  subst e3
  subst e4
  refine ⟨by omega, by omega, ?_, ?_⟩ <;> simp
theorem line_snoc {f g e x u : Int} {C T : List Int} (h : LineOk f C T) (hx : C[C.length - 1]? = some x) (hu : T[C.length - 1]? = some u) (f0 : 0 ≤ f) (f1 : f ≤ 999) (g0 : 0 ≤ g) (e0 : e ≤ g * f / 1000) (e1 : -(g * f / 1000) ≤ e) :
    LineOk f (C ++ [x + g]) (T ++ [u + g + e]) := by
  have hl := h.len
  have hpos : 0 < C.length := by
    have := (List.getElem?_eq_some_iff.mp hx).1
    omega
  have hgf0 : 0 ≤ g * f := Int.mul_nonneg g0 f0
  have hgf1 : g * f ≤ g * 999 := Int.mul_le_mul_of_nonneg_left f1 g0
  have u0 : 0 ≤ u := h.nn u (List.mem_of_getElem? hu)
  refine ⟨by simp [hl], fun i j a b c d hij h1 h2 h3 h4 => ?_, fun v hv => ?_⟩
  · by_cases hj : j < C.length
    · rw [List.getElem?_append_left hj] at h2
      rw [List.getElem?_append_left (by omega)] at h1 h3 h4
      exact h.pair i j a b c d hij h1 h2 h3 h4
    · have hj2 : j = C.length := by
        have := (List.getElem?_eq_some_iff.mp h2).1
        simp at this
        omega
      subst hj2
      have eb : x + g = b := by simpa using h2
      have ed : u + g + e = d := by rw [hl] at h4; simpa using h4
      by_cases hi : i < C.length
      · rw [List.getElem?_append_left hi] at h1
        rw [List.getElem?_append_left (by omega)] at h3
        obtain ⟨q1, q2, q3, q4⟩ := h.pair i (C.length - 1) a x c u (by omega) h1 hx h3 hu
        have em : (b - a) * f = (x - a) * f + g * f := by
          rw [← Int.add_mul]
          congr 1
          omega
        rw [em]
        omega
      · have hi2 : i = C.length := by omega
        subst hi2
        rw [h2] at h1
        rw [h4] at h3
        cases h1
        cases h3
        refine ⟨by omega, by omega, ?_, ?_⟩ <;> simp
  · rcases List.mem_append.mp hv with hv | hv
    · exact h.nn v hv
    · rw [List.mem_singleton.mp hv]
      omega
end Ts

/-! A def with defaults as it stands. -/
namespace Ts
open PySem PySem.Spec PyProof.Rows L2
/-- a def of the text whose last parameters have the defaults dvs: called with all, or without these -/
structure DefD (K : PySem.W.Frag) (nm qual : Str) (st : Stmt) (ps : List Str) (dvs : List V) (f : Addr) (fd : FuncData) : Prop where
  F : FunD K nm qual (defArgs st) (defBody st) (defScope st) dvs [] f fd
  b : Binds K fd ps []
  bd : ∃ ds, Vals dvs ds ∧ Binds K fd ps ds
theorem DefD.mk1 {K : PySem.W.Frag} {nm qual : Str} {st : Stmt} {ps : List Str} {f : Addr} {fd : FuncData} {v : V} {n : Nat} (F : FunD K nm qual (defArgs st) (defBody st) (defScope st) [v] [] f fd) (hn : n + 1 = ps.length)
    (h0 : ∀ (T : Addr) (kV doc pm : Value) (an : Option Addr) (cdv ct : Value) (us its : List Value), us.length = n → its.length = 1 →
      ∃ k, bindArgs (PySem.W.fnOf nm qual (defArgs st) (defBody st) (defScope st) (.ref T) kV doc pm an cdv ct) ⟨us, []⟩ = seqItems? (.ref T) >>= k ∧ k (some its.toArray) = pure (ps.zip (us ++ its.drop 0)))
    (h1 : ∀ (T : Addr) (kV doc pm : Value) (an : Option Addr) (cdv ct : Value) (us its : List Value), us.length = n + 1 → its.length = 1 →
      ∃ k, bindArgs (PySem.W.fnOf nm qual (defArgs st) (defBody st) (defScope st) (.ref T) kV doc pm an cdv ct) ⟨us, []⟩ = seqItems? (.ref T) >>= k ∧ k (some its.toArray) = pure (ps.zip (us ++ its.drop 1))) : DefD K nm qual st ps [v] f fd := by
  refine ⟨F, ?_, FunD.binds1 F n 0 (by simp) (by simpa using hn) h0⟩
  obtain ⟨ds, h2, h3⟩ := FunD.binds1 F (n + 1) 1 (by simp) (by simpa using hn) h1
  cases h2
  exact h3
theorem DefD.okX {P : Program} {w : World} {K : PySem.W.Frag} {mg : Str → Option Value} {base : Heap} {nm qual : Str} {st : Stmt} {ps N : List Str} {dvs : List V} {f : Addr} {fd : FuncData} {k : Nat} {sp : Sp} (D : DefD K nm qual st ps dvs f fd) (S : FnScope N ps (defScope st)) (len : ∀ vs H Q E, sp vs H Q E → vs.length = ps.length)
    (hbody : ∀ (cdv : Value) (A : Around) (outer : List Env) (s : Shared) (H : Hp) (vs : List V) (Q : VK) (E : XK), Room k (A.deeper (envOfC qual (defScope st) s.heap.objs.size f cdv)) → sp vs H Q E →
      ∃ t, PSs (cxOf (L2.CX P w) P w K mg base N qual (defScope st) f cdv A outer s H E) (defBody st) t ∧ t { nx := fun _ H' => Q .non H', rt := Q } (start N vs) H) : FnOk P w K mg base (L2.CX P w) (k + 1) f fd ps sp := FunD.ok D.F S len hbody
end Ts
namespace Ts
open PySem PySem.Spec PyProof.Rows L2
theorem q_callSD {σ : L2.St} {H : Hp} {Q : VK} {sp : Sp} {dvs : List V} {E : L2.St → XK} {tr : TA} (q : tr σ H fun vs H1 => sp (vs ++ dvs) H1 Q (E σ)) : tCallSD sp dvs E tr σ H Q := q
end Ts
namespace Ts
open PySem PySem.Spec PyProof.Rows L2
/-! ### a call with the defaulted parameters told by name, inside a try -/
theorem kb_of {K : PySem.W.Frag} {nm qual : Str} {st : Stmt} {ps ks : List Str} {f : Addr} {fd : FuncData} {v : V} {n : Nat} (F : FunD K nm qual (defArgs st) (defBody st) (defScope st) [v] [] f fd)
    (h : ∀ (T : Addr) (kV doc pm : Value) (an : Option Addr) (cdv ct : Value) (us its ws : List Value), us.length = n → its.length = 1 → ws.length = ks.length →
      ∃ k, bindArgs (PySem.W.fnOf nm qual (defArgs st) (defBody st) (defScope st) (.ref T) kV doc pm an cdv ct) ⟨us, ks.zip ws⟩ = seqItems? (.ref T) >>= k ∧ k (some its.toArray) = pure (ps.zip (us ++ ws))) :
    KBn K fd ps n ks (fun us ws => us ++ ws) (fun vs zs => vs ++ zs) := by
  obtain ⟨oc, od, dV, kV, doc, pm, an, cdv, ct, osl, rfl, lk, hcd, hD, hK⟩ := F.ex
  rcases hD with ⟨e, _⟩ | ⟨_, T, o, its, m, rfl, lT, oT, rT⟩
  · cases e
  · refine ⟨fun s us ws X l1 l2 => ?_, fun r1 r2 => r1.append r2⟩
    obtain ⟨k, e1, e2⟩ := h T kV doc pm an cdv ct us its ws l1 rT.length.symm l2
    refine BindsTo.of_looks fun M => ?_
    rw [e1]
    exact looks_items X lT oT (.of_pure e2)
def tCallSK (n m : Nat) (sp : Sp) (gV : List V → List V → List V) (E : L2.St → XK) (t tk : TA) : TE := fun σ H Q => t σ H fun vs H1 => tk σ H1 fun zs H2 => vs.length = n ∧ zs.length = m ∧ sp (gV vs zs) H2 Q (E σ)
section
variable {X : Cx} {CX : CXT} {k n : Nat} {f : Addr} {fd : FuncData} {ps ks : List Str} {sp : Sp} {E : L2.St → XK} {x : Str} {p pos : Pos} {e : Expr} {es : List Expr} {kws : List Keyword} {t tk : TA} {g : List Value → List Value → List Value} {gV : List V → List V → List V}
theorem run_fnSK {pins : List (Addr × Obj)} {σ : L2.St} {H : Hp} {s : Shared} {Q : VK} {us ws : List Value} {vs zs : List V} (F : FnOk X.prog X.w X.K X.mg X.base CX k f fd ps sp) (hr : Room k X.A) (hb : KBn X.K fd ps n ks g gV) (hx : PassesAt CX X σ (E σ))
    (I : Inv X pins σ H s) (r : Vals vs us) (rz : Vals zs ws) (l1 : vs.length = n) (l2 : zs.length = ks.length) (h : sp (gV vs zs) H Q (E σ)) : wpAny (model X.prog X.w) X.A (call (.ref f) us (ks.zip ws)) (EP X pins σ Q) X.xe s := by
  have r2 := hb.rel r rz
  refine wpAny_call (codeAny_mono (F.run X.A X.stack s H ⟨us, ks.zip ws⟩ (g us ws) (gV vs zs) Q (E σ) hr I.env0 (hb.to s us ws I.kIn (r.length.symm.trans l1) (rz.length.symm.trans l2)) r2 h) fun r s' hq => ?_)
  cases r with
  | error e => exact hx pins H s e s' I hq
  | ok fl =>
    cases fl with
    | ret u => exact I.after hq
    | next => exact False.elim hq
    | brk => exact False.elim hq
    | cont => exact False.elim hq
theorem pe_callSK (F : FnOk X.prog X.w X.K X.mg X.base CX k f fd ps sp) (hr : Room k X.A) (hg : Gl X x) (hm : X.mg x = some (.ref f)) (hk : PySem.W.keepIn X.K (.ref f) = true) (hb : KBn X.K fd ps n ks g gV) (hx : ∀ σ, PassesAt CX X σ (E σ))
    (ha : PA X (e :: es) t) (hkw : PK X kws tk) (hall : (backToKw pos (keywordEach kws X.env)).all (·.1.isSome) = true := by rfl) (hks : (backToKw pos (keywordEach kws X.env)).filterMap (·.1) = ks := by rfl)
    (hdb : (x == ("__debug__" : Str)) = false := by decide) (he : starEach (e :: es) X.env = (false, eval e X.env) :: starEach es X.env := by rfl)
    (hpl : ((backTo pos (starEach (e :: es) X.env)).any (·.1) || (backToKw pos (keywordEach kws X.env)).any (·.1.isNone)) = false := by rfl) :
    PE X (.Call (.Name x p) (e :: es) kws pos) (tCallSK n ks.length sp gV E t tk) := by
  refine ⟨fun pins s σ H Q I h => ?_⟩
  refine wpAny_Call_Name_kw (ld_glob I hg hm ?_ hdb)
  refine PySem.W.callWith_KW (h₀ := X.base) I.ok.mod.kin hk hall (thn (ha.run pos pins s σ H _ I h) fun us s1 ⟨vs, H1, I1, r, q⟩ => ?_) hpl he
  refine thn (hkw.run pos pins s1 σ H1 _ I1 q) fun ws s2 ⟨zs, H2, I2, rz, l1, l2, q2⟩ => ⟨I2.kIn, ?_⟩
  rw [hks]
  exact run_fnSK F hr hb (hx σ) I2 r rz l1 l2 q2
end
theorem q_callSK {σ : L2.St} {H : Hp} {Q : VK} {n m : Nat} {sp : Sp} {gV : List V → List V → List V} {E : L2.St → XK} {t tk : TA} (q : t σ H fun vs H1 => tk σ H1 fun zs H2 => vs.length = n ∧ zs.length = m ∧ sp (gV vs zs) H2 Q (E σ)) : tCallSK n m sp gV E t tk σ H Q := q
end Ts

/-! Letters as rows of a text. -/
namespace Ts
open PySem PySem.Spec PyProof.Rows L2
/-- a number as a text -/
def nT (n : Int) : Str := Str.ofString (toString n)
theorem nT_len {n : Int} (h : NumOk n) : (nT n).length ≤ 13 := PyProof.Rows.toString_length_le h.1 (by decide) (by
  have := h.2
  have e : (10 : Int) ^ 13 = 10000000000000 := by decide
  omega)
theorem nT_log {n : Int} (h : NumOk n) : n.natAbs.log2 < 1920 := PyProof.Rows.shown (N := 2 ^ 50) (by
  have := h.1
  have e : (2 : Int) ^ 50 = 1125899906842624 := by decide
  omega) (by
  have := h.2
  have e : (2 : Int) ^ 50 = 1125899906842624 := by decide
  omega) (by decide +kernel)
/-- a letter's row without its line feed -/
def rowS (L : Ltr) : Str := L.name ++ " sent " ++ nT L.sent ++ " back " ++ nT L.back ++ " swears " ++ nT L.low ++ " to " ++ nT L.high
theorem l_sent : (" sent " : Str).length = 6 := by decide +kernel
theorem l_back : (" back " : Str).length = 6 := by decide +kernel
theorem l_swears : (" swears " : Str).length = 8 := by decide +kernel
theorem l_to : (" to " : Str).length = 4 := by decide +kernel
theorem l_nl : ("\n" : Str).length = 1 := by decide +kernel
theorem l_emp : (Str.empty : Str).length = 0 := by decide +kernel
theorem rowS_len {L : Ltr} (hn : L.name.length ≤ 12) (h : Good L) : (rowS L).length ≤ 88 := by
  have h1 := nT_len h.1
  have h2 := nT_len h.2.1
  have h3 := nT_len h.2.2.1
  have h4 := nT_len h.2.2.2.1
  unfold rowS
  simp only [PySem.strLen_append, l_sent, l_back, l_swears, l_to]
  omega
section
variable {σ : L2.St} {H : Hp} {Q : VK} {i : Int} {z : Str} {te to : TE} {t : TE} {ts : List TE} {acc : Str} {QS : Str → Hp → Prop}
def tJoin (ts : List TE) : TE := fun σ H Q => tJs ts Str.empty σ H fun out H1 => Q (.str out) H1
theorem pe_joinT {X : Cx} {v1 v2 : Expr} {rest : List Expr} {pos : Pos} (h : PJ X (v1 :: v2 :: rest) ts) : PE X (.JoinedStr (v1 :: v2 :: rest) pos) (tJoin ts) := pe_joined h
theorem q_tJoin (q : tJs ts Str.empty σ H fun out H1 => Q (.str out) H1) : tJoin ts σ H Q := q
def rStrI : List V → Hp → VK → Prop := fun xs H Q => ∃ i, xs = [.int i] ∧ i.natAbs.log2 < 1920 ∧ Q (.str (nT i)) H
theorem call_strI {X : Cx} : CallR X (.type "str") rStrI := call_str_int
theorem q_strI (h : i.natAbs.log2 < 1920) (q : Q (.str (nT i)) H) : rStrI [.int i] H Q := ⟨i, rfl, h, q⟩
theorem q_fmtS (q : te σ H fun x H1 => (∃ y : Str, x = .str y ∧ y.length ≤ sizeLine ∧ Q (.str y) H1) ∨ ∃ i : Int, x = .int i ∧ i.natAbs.log2 < 1920 ∧ Q (.str (nT i)) H1) : tFmt te σ H Q := q
theorem q_orS {A : Str → Prop} {B : Int → Prop} (h : z.length ≤ 1000000) (q : A z) : (∃ y : Str, V.str z = .str y ∧ y.length ≤ sizeLine ∧ A y) ∨ ∃ i : Int, V.str z = .int i ∧ i.natAbs.log2 < 1920 ∧ B i := .inl ⟨z, rfl, size_of h, q⟩
theorem q_orI {A : Str → Prop} {B : Int → Prop} (h : i.natAbs.log2 < 1920) (q : B i) : (∃ y : Str, V.int i = .str y ∧ y.length ≤ sizeLine ∧ A y) ∨ ∃ j : Int, V.int i = .int j ∧ j.natAbs.log2 < 1920 ∧ B j := .inr ⟨i, rfl, h, q⟩
theorem q_jsNil (q : QS acc H) : tJs [] acc σ H QS := q
theorem q_jsCons (q : t σ H fun x H1 => ∃ y : Str, x = .str y ∧ (acc ++ y).length ≤ sizeLine ∧ tJs ts (acc ++ y) σ H1 QS) : tJs (t :: ts) acc σ H QS := q
theorem q_jsPart {P : Str → Prop} (h : (acc ++ z).length ≤ 1000000) (q : P z) : ∃ y : Str, V.str z = .str y ∧ (acc ++ y).length ≤ sizeLine ∧ P y := ⟨z, rfl, size_of h, q⟩
theorem q_tM1 {r : V → List V → Hp → VK → Prop} (q : to σ H fun x H1 => (∃ a, x = .str a) ∧ te σ H1 fun y H2 => r x [y] H2 Q) : tM1 r to te σ H Q := q
theorem q_isTxt {P : Prop} (q : P) : (∃ a, V.str z = .str a) ∧ P := ⟨⟨z, rfl⟩, q⟩
end
theorem take_snocL {α : Type} {cs : List α} {i : Nat} {c : α} (h : cs[i]? = some c) : cs.take (i + 1) = cs.take i ++ [c] := by
  rw [List.take_add_one, h]
  rfl
theorem emp_app (z : Str) : Str.empty ++ z = z := str_ext (by rw [tl_app]; rfl)
/-- rows, each with its line feed -/
def rowsS : List Ltr → Str
  | [] => ""
  | L :: r => rowS L ++ "\n" ++ rowsS r
theorem app_assoc (a b c : Str) : a ++ b ++ c = a ++ (b ++ c) := str_ext (by rw [tl_app, tl_app, tl_app, tl_app, List.append_assoc])
theorem app_emp (a : Str) : a ++ "" = a := str_ext (by
  rw [tl_app]
  have : ("" : Str).cps.toList = [] := by decide +kernel
  rw [this, List.append_nil])
theorem rowsS_snoc : ∀ (ls : List Ltr) (L : Ltr), rowsS (ls ++ [L]) = rowsS ls ++ rowS L ++ "\n"
  | [], L => by
    show rowS L ++ "\n" ++ "" = "" ++ rowS L ++ "\n"
    rw [app_emp]
    congr 1
    exact (emp_app _).symm
  | M :: r, L => by
    show rowS M ++ "\n" ++ rowsS (r ++ [L]) = rowS M ++ "\n" ++ rowsS r ++ rowS L ++ "\n"
    rw [rowsS_snoc r L]
    simp only [app_assoc]
theorem rowsS_join : ∀ (ls : List Ltr), Str.join "" (ls.map fun L => rowS L ++ "\n") = rowsS ls
  | [] => by
    show Str.empty = ""
    exact str_ext (by decide +kernel)
  | [L] => by
    show rowS L ++ "\n" = rowS L ++ "\n" ++ ""
    rw [app_emp]
  | L :: M :: r => by
    show rowS L ++ "\n" ++ "" ++ Str.join "" ((M :: r).map fun L => rowS L ++ "\n") = rowS L ++ "\n" ++ rowsS (M :: r)
    rw [rowsS_join (M :: r), app_emp]
theorem rowsS_len : ∀ {ls : List Ltr}, (∀ L ∈ ls, L.name.length ≤ 12 ∧ Good L) → (rowsS ls).length ≤ 89 * ls.length
  | [], _ => by
    have : (rowsS []).length = 0 := by decide +kernel
    omega
  | L :: r, h => by
    have h1 := rowsS_len (ls := r) fun M hM => h M (List.mem_cons_of_mem _ hM)
    have h2 := rowS_len (h L List.mem_cons_self).1 (h L List.mem_cons_self).2
    show (rowS L ++ "\n" ++ rowsS r).length ≤ _
    rw [PySem.strLen_append, PySem.strLen_append, l_nl, List.length_cons]
    omega
theorem rows_sum : ∀ {ls : List Ltr}, (∀ L ∈ ls, L.name.length ≤ 12 ∧ Good L) → ((ls.map fun L => rowS L ++ "\n").map (·.length)).sum ≤ 89 * ls.length
  | [], _ => by simp
  | L :: r, h => by
    have h1 := rows_sum (ls := r) fun M hM => h M (List.mem_cons_of_mem _ hM)
    have h2 := rowS_len (h L List.mem_cons_self).1 (h L List.mem_cons_self).2
    rw [List.map_cons, List.map_cons, List.sum_cons, PySem.strLen_append, l_nl, List.length_cons]
    omega
/-! ### letters drawn, cuts of lists -/
theorem lts_ofP {Pz : Ltr → Prop} {H : Hp} {l : List Nat} {ys : List V} (h : Paired (fun (_ : Nat) v => ∃ L, IsLt H v L ∧ Pz L) l ys) : ∃ ls, Lts H ys ls ∧ (∀ L ∈ ls, Pz L) ∧ ls.length = l.length := by
  induction h with
  | nil => exact ⟨[], .nil, fun _ h => (List.not_mem_nil h).elim, rfl⟩
  | cons h1 _ ih =>
    obtain ⟨L, a, b⟩ := h1
    obtain ⟨ls, c, d, e⟩ := ih
    refine ⟨L :: ls, .cons a c, fun M hM => ?_, by rw [List.length_cons, List.length_cons, e]⟩
    rcases List.mem_cons.mp hM with rfl | hM
    · exact b
    · exact d M hM
theorem cutV_map {α : Type} (g : α → V) (ns : List α) (lo hi : Option Int) : ∃ ms : List α, cutV (ns.map g) lo hi = ms.map g ∧ ms.length ≤ ns.length := by
  refine ⟨(ns.drop (HT.sIx ns.length 0 lo)).take (HT.sIx ns.length ns.length hi - HT.sIx ns.length 0 lo), ?_, ?_⟩
  · unfold cutV
    rw [List.length_map, ← List.map_drop, ← List.map_take]
  · rw [List.length_take, List.length_drop]
    omega
theorem q_slLst {K : PySem.W.Frag} {a : Addr} {xs : List V} {lo hi : Option Int} {H : Hp} {Q : VK} (h : SqL K H a xs) (q : ∀ p H', Same H H' → H p = none → H' p = some (.lst (cutV xs lo hi)) → Q (.ref p) H') : rSlL K (.ref a) lo hi H Q := ⟨a, xs, rfl, h, fun p hp => q p _ (same_upd hp) hp upd_same⟩
end Ts

/-! Which answer is due of sure; plain laws. -/
namespace Ts
open PySem PySem.Spec PyProof.Rows L2
theorem many_le : ∀ {cs : List Clk} {s t : Int}, (∀ c ∈ cs, bearsO c.2 s = true → bearsO c.2 t = true) → manyAt cs s ≤ manyAt cs t
  | [], _, _, _ => Int.le_refl _
  | c :: r, s, t, h => by
    have h1 := many_le (cs := r) fun d hd => h d (List.mem_cons_of_mem _ hd)
    have h2 := h c List.mem_cons_self
    show one (bearsO c.2 s) + manyAt r s ≤ one (bearsO c.2 t) + manyAt r t
    have h3 : one (bearsO c.2 s) ≤ one (bearsO c.2 t) := by
      cases e : bearsO c.2 s with
      | true => rw [h2 e]; exact Int.le_refl _
      | false => exact (one_nonneg _).1
    omega
/-- a time that enough bear: there is a low that enough bear -/
theorem low_many {cs : List Clk} {t need : Int} (h1 : 1 ≤ need) (h : need ≤ manyAt cs t) : ∃ l ∈ lowsOf cs, need ≤ manyAt cs l := by
  have ex : ∃ l ∈ lowsOf cs, l ≤ t := by
    by_cases z : ∀ c ∈ cs, bearsO c.2 t = false
    · have := many_zero z
      omega
    · have : ∃ c ∈ cs, bearsO c.2 t = true := Classical.byContradiction fun q => z fun c hc => by
        cases e : bearsO c.2 t with
        | false => rfl
        | true => exact absurd ⟨c, hc, e⟩ q
      obtain ⟨c, hc, hb⟩ := this
      obtain ⟨nm, o⟩ := c
      cases o with
      | none => cases hb
      | some s =>
        have hb : (decide (s.1 ≤ t) && decide (t ≤ s.2)) = true := hb
        rw [Bool.and_eq_true] at hb
        exact ⟨s.1, mem_lows.mpr ⟨_, hc, s, rfl, rfl⟩, of_decide_eq_true hb.1⟩
  obtain ⟨l0, m0, le0⟩ := ex
  obtain ⟨a1, a2, a3⟩ := mxF_spec (((lowsOf cs).filter fun l => decide (l ≤ t)).map fun l => (l, l)) l0
  have hin : ∀ l ∈ lowsOf cs, l ≤ t → l ≤ mxF l0 (((lowsOf cs).filter fun l => decide (l ≤ t)).map fun l => (l, l)) := fun l hl ht =>
    a2 (l, l) (List.mem_map.mpr ⟨l, List.mem_filter.mpr ⟨hl, decide_eq_true ht⟩, rfl⟩)
  have hm : ∃ p, p = mxF l0 (((lowsOf cs).filter fun l => decide (l ≤ t)).map fun l => (l, l)) ∧ p ∈ lowsOf cs ∧ p ≤ t := by
    rcases a3 with e | ⟨x, hx, e⟩
    · exact ⟨_, rfl, by rw [e]; exact m0, by rw [e]; exact le0⟩
    · obtain ⟨l, hl, rfl⟩ := List.mem_map.mp hx
      obtain ⟨q1, q2⟩ := List.mem_filter.mp hl
      exact ⟨_, rfl, by rw [e]; exact q1, by rw [e]; exact of_decide_eq_true q2⟩
  obtain ⟨p, ep, hp1, hp2⟩ := hm
  rw [← ep] at hin
  refine ⟨p, hp1, Int.le_trans h (many_le fun c hc hb => ?_)⟩
  obtain ⟨nm, o⟩ := c
  cases o with
  | none => cases hb
  | some s =>
    have hb : (decide (s.1 ≤ t) && decide (t ≤ s.2)) = true := hb
    rw [Bool.and_eq_true] at hb
    have b1 := of_decide_eq_true hb.1
    have b2 := of_decide_eq_true hb.2
    have := hin s.1 (mem_lows.mpr ⟨_, hc, s, rfl, rfl⟩) b1
    show (decide (s.1 ≤ p) && decide (p ≤ s.2)) = true
    rw [decide_eq_true this, decide_eq_true (show p ≤ s.2 by omega)]
    rfl
/-! ### small steps -/
theorem q_tup4 {K : PySem.W.Frag} {H : Hp} {j k l m : Nat} {p : Addr} {x y z u : V} {σ : L2.St} {R : L2.St → Hp → Prop} (h : SqT K H p [x, y, z, u]) (q : R ((((σ.set j (some x)).set k (some y)).set l (some z)).set m (some u)) H) :
    gTup K 4 (gCons (gName j) (gCons (gName k) (gCons (gName l) (gCons (gName m) gNil)))) (.ref p) σ H R := ⟨p, [x, y, z, u], rfl, h, rfl, x, _, rfl, y, _, rfl, z, _, rfl, u, [], rfl, rfl, q⟩
/-- any statement leads on to one place -/
theorem q_joinA {t : TS} {nx bk ct : L2.St → Hp → Prop} {rt : VK} {σ : L2.St} {H : Hp} (P : L2.St → Hp → Prop) (h1 : ∀ σ' H', P σ' H' → nx σ' H')
    (h2 : ∀ nx' : L2.St → Hp → Prop, (∀ σ' H', P σ' H' → nx' σ' H') → t ⟨nx', rt, bk, ct⟩ σ H) : t ⟨nx, rt, bk, ct⟩ σ H := h2 nx h1
theorem q_orW {tt tu : TT} {σ : L2.St} {H : Hp} {QB : Bool → Hp → Prop} (q : tt σ H fun c H1 => if c = true then QB true H1 else tu σ H1 QB) : tOr tt tu σ H QB := q
theorem lay_all {α : Type} {d : α → PyData} : ∀ (ls : List α), (∀ a ∈ ls, (d a).canLay0 = true ∧ (d a).depth ≤ 10) → PyData.canLayAll0 (ls.map d) = true ∧ PyData.depthAll (ls.map d) ≤ 10
  | [], _ => ⟨rfl, by simp [PyData.depthAll]⟩
  | a :: r, h => by
    obtain ⟨i1, i2⟩ := lay_all r fun b hb => h b (List.mem_cons_of_mem _ hb)
    obtain ⟨a1, a2⟩ := h a List.mem_cons_self
    refine ⟨?_, ?_⟩
    · simp [PyData.canLayAll0, a1]
      simpa using i1
    · simp only [List.map_cons, PyData.depthAll]
      exact Nat.max_le.mpr ⟨a2, i2⟩
/-- what sure gives, as data -/
def dSure (lo hi : Int) (zs : List Str) (ss : List (Int × Int)) : PyData := .tuple [.int lo, .int hi, .list (zs.map .str), .list (ss.map dPr)]
theorem shaped_sure (lo hi : Int) {zs : List Str} (ss : List (Int × Int)) (h : ∀ z ∈ zs, PyData.strOk z = true) : SeqAt.shaped (dSure lo hi zs ss) = true := by
  obtain ⟨a1, a2⟩ := lay_all (d := PyData.str) zs fun z hz => ok_dStr z (h z hz)
  obtain ⟨b1, b2⟩ := lay_all (d := dPr) ss fun z _ => ok_dPr z
  have e1 : (dSure lo hi zs ss).canLay0 = true := by
    simp only [dSure, PyData.canLay0, PyData.canLayAll0, a1, b1, Bool.and_true]
  have e2 : (dSure lo hi zs ss).depth ≤ 64 := by
    simp only [dSure, PyData.depth, PyData.depthAll]
    omega
  unfold SeqAt.shaped
  rw [e1, decide_eq_true e2]
  rfl
theorem dp_sure {K : PySem.W.Frag} {H : Hp} {p pw ps : Addr} {lo hi : Int} {zs : List Str} {ys : List V} {ss : List (Int × Int)} (h : H p = some (.tup [.int lo, .int hi, .ref pw, .ref ps])) (hw : H pw = some (.lst (zs.map V.str))) (hs : H ps = some (.lst ys)) (hy : Prs H ys ss) : Dp K H (.ref p) (dSure lo hi zs ss) :=
  .tup (sqT_of h) (.cons (.int _) (.cons (.int _) (.cons (dp_lstrs hw) (.cons (dp_lst (fun _ _ h => dp_pr h) hs hy) .nil))))
/-! ### put in -/
theorem mem_insT {α : Type} {ls : List α} {x y : α} {p : Nat} : y ∈ ls.take p ++ [x] ++ ls.drop p ↔ y = x ∨ y ∈ ls := by
  have e : y ∈ ls ↔ y ∈ ls.take p ∨ y ∈ ls.drop p := by rw [← List.mem_append, List.take_append_drop]
  rw [List.mem_append, List.mem_append, List.mem_singleton, e]
  constructor
  · rintro ((h | h) | h)
    · exact .inr (.inl h)
    · exact .inl h
    · exact .inr (.inr h)
  · rintro (h | h | h)
    · exact .inl (.inr h)
    · exact .inl (.inl h)
    · exact .inr h
theorem prd_takeD {α β : Type} {R : α → β → Prop} : ∀ {xs : List α} {ys : List β} (p : Nat), Paired R xs ys → Paired R (xs.take p) (ys.take p) ∧ Paired R (xs.drop p) (ys.drop p)
  | _, _, 0, h => ⟨by simp; exact .nil, by simpa using h⟩
  | _, _, _ + 1, .nil => ⟨by simp; exact .nil, by simp; exact .nil⟩
  | _, _, p + 1, .cons r t => by
    obtain ⟨h1, h2⟩ := prd_takeD p t
    exact ⟨by simpa using Paired.cons r h1, by simpa using h2⟩
theorem prd_ins {α β : Type} {R : α → β → Prop} {xs : List α} {ys : List β} {x : α} {y : β} (p : Nat) (h : Paired R xs ys) (r : R x y) : Paired R (xs.take p ++ [x] ++ xs.drop p) (ys.take p ++ [y] ++ ys.drop p) := by
  obtain ⟨h1, h2⟩ := prd_takeD p h
  exact Paired.app (Paired.snoc r h1) h2
theorem len_insT {α : Type} {ls : List α} {x : α} {p : Nat} : (ls.take p ++ [x] ++ ls.drop p).length = ls.length + 1 := by
  simp
  omega
theorem q_repI {l : Addr} {k z : Int} {H : Hp} {Q : VK} (h : H l = some (.lst [.int z])) (h0 : 0 ≤ k) (h1 : k ≤ 1000) (q : ∀ p H', Same H H' → H' p = some (.lst ((List.replicate k.toNat z).map V.int)) → Q (.ref p) H') : rRep (.ref l) (.int k) H Q := by
  refine ⟨l, k, _, rfl, rfl, h, by omega, by omega, size_of (by simp; omega), fun p hp => ?_⟩
  have e : (List.replicate k.toNat [V.int z]).flatten = (List.replicate k.toNat z).map V.int := by simp
  rw [e]
  exact q p _ (same_upd hp) upd_same
end Ts

/-! A list comprehension whose element may raise out of the def (x = [f(y) for ..], f may raise). -/
namespace Ts
open PySem PySem.Spec PyProof.Rows L2
/-- what the block owes X when something leaves it -/
abbrev owes (X : Cx) (ce : Env) : Value → Shared → Prop := notedBy (model X.prog X.w) X.A ce (CompFails (model X.prog X.w) X.A X.xe ce)
/-- the block's context -/
abbrev blkX (X : Cx) (s : Shared) (H : Hp) (scope : Scope) (ce : Env) (fp : List Addr) : Cx := (X.blk s H scope ce fp).tr [] (owes X ce)
theorem ns_of_keep {h h' : Heap} {a : Addr} {m : Str → Option Value} (k : ∀ o, h.get? a = some o → h'.get? a = some o) (n : h.Ns a m) : h'.Ns a m := by
  obtain ⟨o, es, ep, ho, r⟩ := n
  exact ⟨o, es, ep, k _ ho, r⟩
/-- the block's own dict let go: what flies stays as it was -/
theorem held_but {B h h' : Heap} {l : List Env} {a C L : Addr} {Z : Obj → Prop} {m m' : Str → Option Value} (hh : HandSPX.HeldZ B l a Z L h) (hC : h.Ns C m) (hC' : h'.Ns C m') (sb : Heap.SameBut C h h') :
    ∀ B' : Heap, (∀ b o, B'.get? b = some o → b ≠ C ∧ B.get? b = some o) → HandSPX.HeldZ B' l a Z L h' := by
  intro B' hB
  obtain ⟨h1, h2, h3, oe, vs, T, oT, ts, e1, e2, e3, e4, e5, e6, e7, e8, e9⟩ := hh
  obtain ⟨oc, es, ep, ho, r⟩ := hC
  have nB : ∀ b, B.get? b = none → B'.get? b = none := fun b hb => by
    cases q : B'.get? b with
    | none => rfl
    | some o => rw [(hB b o q).2] at hb; cases hb
  have nf : ∀ (o : Obj) (fs : Array Value), h.get? C = some o → o.data = .fields fs → False := fun o fs q d => by
    rw [ho] at q
    cases q
    rw [r.1] at d
    cases d
  have aC : a ≠ C := fun e => nf oe vs (e ▸ e1) e3
  have tC : T ≠ C := fun e => nf oT ts (e ▸ e7) e8
  have kp : ∀ b o, b ≠ C → h.get? b = some o → h'.get? b = some o := fun b o hb q => (sb.2 b hb).trans q
  refine ⟨fun b o q => kp b o (hB b o q).1 (h1 b o (hB b o q).2), nB a h2, ?_, oe, vs, T, oT, ts, kp _ _ aC e1, e2, e3, e4, nB T e5, e6, kp _ _ tC e7, e8, e9⟩
  have fr : h'.FunFrames B l := Heap.FunFrames.sameBut sb hC' h3
  refine funFrames_none fr fun b hb => nB b ?_
  exact (h3.mem hb).1
theorem hide_one (h : Heap) (C : Addr) : ∃ G : Heap, (∀ b, b ≠ C → G.get? b = h.get? b) ∧ G.get? C = none := by
  obtain ⟨G, g1, g2⟩ := restrict h fun b => decide (b ≠ C)
  exact ⟨G, fun b hb => g1 b (decide_eq_true hb), g2 C (decide_eq_false (fun z => z rfl))⟩
/-- what a callee lets out of the element, the block passes on to X -/
theorem passBlk {X : Cx} {E : XK} (tk : Takes X (fun cls d _ H => E cls d H)) (hst : X.stack = X.env :: X.outer) (hfr : X.env.frame = some X.env.locals) {pins0 : List (Addr × Obj)} {σ0 : L2.St} {H0 : Hp} {s0 : Shared} (I0 : Inv X pins0 σ0 H0 s0) {fp : List Addr}
    (f0 : ∀ b ∈ fp, FpOk X pins0 H0 b ∧ b < s0.heap.objs.size) {scope : Scope} {cl : List (Str × Addr)} {C : Addr} (hC : FpOk X pins0 H0 C) (σ : L2.St) :
    PassesAt (L2.CX X.prog X.w) (blkX X s0 H0 scope (compEnvC scope cl C X.env) fp) σ (fun cls d H => E cls d H) := by
  intro pins H s e s1 I c
  obtain ⟨a, B, sI, pI, σI, HI, cls, d, rfl, II, nb, up, sky, na, os, ag, w⟩ := XE.of_call (W := fun cls d _ H => E cls d H) I (fun _ _ _ h => h) c
  have fly : HandSPX.FlyingZ B X.stack a (Zc cls d) s1.heap := by
    obtain ⟨a0, B0, H1, cls0, d0, ea, fl, _⟩ := c
    cases ea
    obtain ⟨_, _, _, oe, vs, T, oT, ts, e1, _, e3, e4, _, _, e7, e8, e9⟩ := fl
    rcases sky with ⟨_, _, _, oe2, vs2, q1, _, q3, q4⟩ | fl2 | ⟨_, _, _, oe2, vs2, T2, oT2, ts2, q1, _, q3, q4, _, _, q7, q8, q9⟩
    · rw [e1] at q1
      cases q1
      rw [e3] at q3
      cases q3
      rw [e4] at q4
      cases q4
    · exact fl2
    · rw [e1] at q1
      cases q1
      rw [e3] at q3
      cases q3
      rw [e4] at q4
      cases q4
      rw [e7] at q7
      cases q7
      rw [e8] at q8
      cases q8
      rw [e9] at q9
      cases q9
  have hA : X.A.frames = some (X.env :: X.outer) := by rw [I0.ok.frames, hst]
  rw [hst] at fly
  -- noted in the def's own frame
  show wpAny (model X.prog X.w) X.A (noteFrame (.ref a) X.env) _ _ s1
  refine HandSPX.looks_onZ Zc.steady hA hfr fly fun h1 held up1 => ?_
  -- back in the def
  have J : Inv X pins0 σ0 HI sI := I0.call' (ch := fp) II.os II.base II.hok II.bare fun b hb => ⟨(f0 b hb).1.2.2.2.1, (f0 b hb).1.2.1, (f0 b hb).1.2.2.2.2.1, (f0 b hb).1.2.2.2.2.2⟩
  have hCI : HI C = none := II.free
  obtain ⟨m, hn, _⟩ := II.loc
  have hn : sI.heap.Ns C m := hn
  have cF : C ∉ frs X.stack := fun z => by
    rcases List.mem_cons.mp (J.stkSub C z) with z | z
    · exact hC.2.1 z
    · exact hC.2.2.1 z
  have hn1 : h1.Ns C m := ns_of_keep (fun o q => held.1 _ _ (nb C o q cF)) hn
  refine ⟨m, hn1, fun h2 m2 hn2 sb => ?_⟩
  obtain ⟨B2, b1, b2⟩ := hide_one B C
  obtain ⟨G, g1, g2⟩ := hide_one sI.heap C
  have held2 : HandSPX.HeldZ B2 (X.env :: X.outer) a (Zc cls d) X.env.locals h2 := held_but held hn1 hn2 sb B2 fun b o q => by
    have hb : b ≠ C := fun z => by rw [z, b2] at q; cases q
    exact ⟨hb, by rw [← b1 b hb]; exact q⟩
  have J2 : Inv X pins0 σ0 HI { sI with heap := G, toks := sI.toks } := J.turned (t' := sI.toks) (fun b o hb q => (g1 b hb).trans q) hCI hC.2.1 hC.2.2.2.1 hC.2.2.2.2.1 hC.2.2.2.2.2
  unfold PySem.passOn
  obtain ⟨_, _, _, oe, vs, T, oT, ts, e1, _, e3, e4, _⟩ := id held2
  refine wpAny_bind (wpAny_field e1 e3 e4 ?_)
  rw [if_neg (show ¬ ((Value.ref T == Value.none) = true) from by simp)]
  have ef : (compEnvC scope cl C X.env).frame = some X.env.locals := hfr
  rw [ef]
  refine wpAny_bind (HandSPX.setFlight_onZ held2 fun h3 held3 up3 => ?_)
  refine wpAny_throw (tk _ _ ⟨a, B2, _, pins0, σ0, HI, cls, d, rfl, J2, fun b o q hb => ?_, fun b o q hnf => ?_, ?_, na, os, ag, w⟩)
  · have hbC : b ≠ C := fun z => by
      have q' : G.get? b = some o := q
      rw [z, g2] at q'
      cases q'
    have q' : G.get? b = some o := q
    rw [g1 b hbC] at q'
    rw [b1 b hbC]
    exact nb b o q' hb
  · have hbC : b ≠ C := fun z => by
      have q' : G.get? b = some o := q
      rw [z, g2] at q'
      cases q'
    have q' : G.get? b = some o := q
    rw [g1 b hbC] at q'
    obtain ⟨sl, u1⟩ := up b o q' hnf
    obtain ⟨sl2, u2⟩ := up1 b _ u1 hnf
    have u3 : h2.get? b = _ := (sb.2 b hbC).trans u2
    obtain ⟨sl3, u4⟩ := up3 b _ u3 hnf
    exact ⟨sl3, u4⟩
  · rw [hst]
    exact .inr (.inr held3)
/-- a block that begins where an own list stands, its element may raise -/
theorem lcX_core {X : Cx} {pins : List (Addr × Obj)} {s : Shared} {σ : L2.St} {H : Hp} {Q : VK} {elt tg iter : Expr} {ifs : List Expr} {scope : Scope} {own : List (Str × Nat)} {pos pos' : Pos} {wi : TI} {g : TG} {tt : TT} {te : TE} {use : Option (Value → Sem Unit)} {Qf : Value → Shared → Prop}
    (hcalm : X.calm = true) (hnd : X.N.Nodup) (I : Inv X pins σ H s) (hi : PI X tg iter wi) (ok : BlkOk X.N X.env.scope scope own)
    (hg : ∀ (s : Shared) (H : Hp) (C : Addr) (cl : List (Str × Addr)) (fp : List Addr), PG (blkX X s H scope (compEnvC scope cl C X.env) fp) tg g)
    (ht : ∀ (s : Shared) (H : Hp) (C : Addr) (cl : List (Str × Addr)) (fp : List Addr), PTs (blkX X s H scope (compEnvC scope cl C X.env) fp) ifs tt)
    (he : ∀ (pins : List (Addr × Obj)) (σ : L2.St) (s : Shared) (H : Hp) (C : Addr) (cl : List (Str × Addr)) (fp : List Addr), Inv X pins σ H s → (∀ b ∈ fp, FpOk X pins H b ∧ b < s.heap.objs.size) → FpOk X pins H C → PE (blkX X s H scope (compEnvC scope cl C X.env) fp) elt te)
    (hfold : ∀ x, foldedSetIterable iter X.env x = pure x) (h : tLc wi g tt te (own.map (·.2)) σ H Q)
    (hend : ∀ D ce s' m H', Inv X pins σ H' s' → Q (.ref D) H' → s'.heap.Ns ce.locals m → FpOk X pins H' ce.locals → compEnds (model X.prog X.w) X.A X.xe use Qf (.ref D) ce (.ok .next) s') :
    wpAny (model X.prog X.w) X.A (comprehension (.ListComp elt [⟨tg, iter, ifs, 0⟩] scope pos) scope X.env pos' (newList []) false (eval iter X.env) use) Qf X.xe s := by
  have caught : ∀ y ∈ scope.names, y.2 = .free → ∃ c, X.env.cells.lookup y.1 = some c := fun y hy e =>
    (ok.free y hy e).elim (fun k => I.ok.has _ (.inl k)) fun k => I.ok.has _ (.inr k)
  refine comprehension_at (use := use) rfl hfold (closure_ok caught) ok.kind (fun y hy e => by rw [ok.uniq y hy, e]) ?_
  refine thn (hi.run pins s σ H _ I h) fun xv sa ha => thn ha fun itv sb hb => ?_
  obtain ⟨it, fp, tn, J, Hb, eit, Ib, T, stb, fb, turn0⟩ := hb
  subst eit
  refine wpAny_newObj_type (newEnv_comp ?_) (by show 0 ≤ sizeLine; decide)
  generalize eD : sb.heap.objs.size = D
  have nD : Hb D = none := Ib.hok.fresh (Nat.le_of_eq eD)
  obtain ⟨W, ⟨m0, w0⟩, turn⟩ := turn0 D nD
  generalize ec : ({ sb with heap := sb.heap.push { cls := .type "list", data := .seq ([] : List Value).toArray } } : Shared) = sc
  have hcs : sc.heap = sb.heap.push { cls := .type "list", data := .seq ([] : List Value).toArray } := by rw [← ec]
  have Ic : Inv X pins σ (upd Hb D (.lst [])) sc := by
    subst ec
    refine Ib.laid (t' := sb.toks) (fun b o q => Heap.get?_push_of_some _ q) (Nat.le_of_eq eD) ⟨Nat.zero_le _, [], 0, .nil, ?_⟩
    rw [← eD]
    exact Heap.get?_push_size _ rfl
  have old : ∀ b ∈ fp, b < sb.heap.objs.size := fun b hb => by
    obtain ⟨o, q, _⟩ := T.obj _ _ stb b hb
    exact Heap.lt_size q
  have fc : ∀ b ∈ fp, FpOk X pins (upd Hb D (.lst [])) b ∧ b < sc.heap.objs.size := fun b hb => by
    have lt := old b hb
    refine ⟨⟨?_, (fb b hb).2⟩, ?_⟩
    · rw [upd_ne (fun z => absurd lt (by rw [z, ← eD]; exact Nat.lt_irrefl _))]
      exact (fb b hb).1
    · rw [hcs, Heap.size_push]
      exact Nat.lt_succ_of_lt lt
  have stc : tn 0 sc.heap := T.keep _ _ _ stb fun b _ o q => by
    rw [hcs]
    exact Heap.get?_push_of_some _ q
  have nC0 : (upd Hb D (.lst [])) sc.heap.objs.size = none := Ic.hok.fresh (Nat.le_refl _)
  have hC : FpOk X pins (upd Hb D (.lst [])) sc.heap.objs.size := Ic.fpOk (Nat.le_refl _) nC0
  have Ie := block_start Ic ok hnd fc
  generalize ecl : cellsFrom (sc.heap.objs.size + 1) scope.names (cloFrom X.env.cells scope.names []) = cl at Ie
  have pg := hg sc (upd Hb D (.lst [])) sc.heap.objs.size cl fp
  have pt := ht sc (upd Hb D (.lst [])) sc.heap.objs.size cl fp
  have pe := he pins σ sc (upd Hb D (.lst [])) sc.heap.objs.size cl fp Ic fc hC
  show codeAny _ _ (.compStart (.ListComp elt [⟨tg, iter, ifs, 0⟩] scope pos) 0 (.ref it) (.ref D) (compEnvC scope cl sc.heap.objs.size X.env)) (compEnds (model X.prog X.w) X.A X.xe use Qf (.ref D) (compEnvC scope cl sc.heap.objs.size X.env)) { sc with heap := pushCells (sc.heap.push { cls := .type "dict", data := .dict #[] }) scope.names }
  have nfp : ∀ b ∈ fp, (upd Hb D (.lst [])) b = none := fun b hb => (fc b hb).1.1
  generalize ece : compEnvC scope cl sc.heap.objs.size X.env = ce at Ie pg pt pe ⊢
  have lce : ce.locals = sc.heap.objs.size := by subst ece; rfl
  generalize eH : upd Hb D (.lst []) = Hc at Ic Ie pg pt pe w0 nfp fc hC
  generalize ee : ({ sc with heap := pushCells (sc.heap.push { cls := .type "dict", data := .dict #[] }) scope.names } : Shared) = se at Ie ⊢
  have ste : tn 0 se.heap := T.keep _ _ _ stc fun b _ o q => by
    subst ee
    exact pushCells_keeps _ _ _ _ (Heap.get?_push_of_some _ q)
  have Ie : Inv (blkX X sc Hc scope ce fp) [] (wipe σ (own.map (·.2))) Hc se := Ie.toTry (owes X ce)
  have stat : ∀ {σ' : L2.St} {H' : Hp} {s' : Shared}, Inv (blkX X sc Hc scope ce fp) [] σ' H' s' → (∀ b ∈ fp, H' b = none) → ∀ b ∈ fp, FpOk (blkX X sc Hc scope ce fp) [] H' b := fun {σ' H' s'} I' hn b hb =>
    ⟨hn b hb, (I'.ok.exf b hb).1, I'.ok.exfs b hb, .inl hb, fun x c q => (I'.ok.exf b hb).2 x c q, fun p hp => absurd (show p ∈ ([] : List (Addr × Obj)) ++ [] from hp) (by simp)⟩
  have errs : (notedBy (model X.prog X.w) X.A ce fun e s' => compEnds (model X.prog X.w) X.A X.xe use Qf (.ref D) ce (.error e) s') = owes X ce := by
    cases use <;> rfl
  have loop : codeAny (model X.prog X.w) X.A (.compLoop (.ListComp elt [⟨tg, iter, ifs, 0⟩] scope pos) 0 (.ref it) (.ref D) ce) (compEnds (model X.prog X.w) X.A X.xe use Qf (.ref D) ce) se := by
    refine compLoop_any (fun n s' => ∃ i H', Inv (blkX X sc Hc scope ce fp) [] (wipe σ (own.map (·.2))) H' s' ∧ tn i s'.heap ∧ (∀ b ∈ fp, H' b = none) ∧ W i n H') ?_ m0 ⟨0, Hc, Ie, ste, nfp, w0⟩
    rintro n s5 ⟨i, H5, I5, st5, n5, w5⟩
    rw [errs]
    rcases turn i n H5 w5 with ⟨stop, qq⟩ | ⟨go, Nx, hNx, step⟩
    · refine thn (T.done (blkX X sc Hc scope ce fp) rfl rfl rfl hcalm i [] s5 _ H5 _ I5 (stat I5 n5) st5 stop) fun r s6 hr6 => ?_
      obtain ⟨er, I6⟩ := hr6
      subst er
      have I7 : Inv X pins σ H5 s6 := Ic.call' (ch := fp) I6.os I6.base I6.hok I6.bare fun b hb => ⟨(fc b hb).1.2.2.2.1, (fc b hb).1.2.1, (fc b hb).1.2.2.2.2.1, (fc b hb).1.2.2.2.2.2⟩
      have nC : H5 ce.locals = none := I6.free
      obtain ⟨m, hn, _⟩ := I6.loc
      refine hend D ce s6 m H5 I7 qq hn ?_
      have f2 := hC.2
      rw [← lce] at f2
      exact ⟨nC, f2⟩
    · refine thn (T.item (blkX X sc Hc scope ce fp) rfl rfl rfl hcalm i [] s5 _ H5 _ I5 (stat I5 n5) st5 go) fun r s6 hr6 => ?_
      obtain ⟨u, er, h6⟩ := hr6
      subst er
      refine thn h6 fun _ s7 hr7 => ?_
      obtain ⟨x, H7, I7, r7, y7, st7, n7⟩ := hr7
      have I7p := I7.pinned (stat I7 n7) (T.obj _ _ st7)
      refine thn (pg.run _ s7 _ H7 x u _ I7p r7 (step x H7 y7)) fun _ s8 hr8 => ?_
      obtain ⟨σ8, H8, I8, hw8, q8⟩ := hr8
      refine thn (pt.run _ s8 σ8 H8 _ I8 q8) fun b s9 hr9 => ?_
      obtain ⟨H9, I9, q9⟩ := hr9
      have close : ∀ {s' : Shared} {H' : Hp}, Inv (blkX X sc Hc scope ce fp) ([] ++ pinsAt fp s7.heap) σ8 H' s' → Nx H' → ∃ m, m < n ∧ ∃ i H', Inv (blkX X sc Hc scope ce fp) [] (wipe σ (own.map (·.2))) H' s' ∧ tn i s'.heap ∧ (∀ b ∈ fp, H' b = none) ∧ W i m H' := fun {s' H'} I' nx => by
        obtain ⟨m', hm, w'⟩ := hNx H' nx
        have still : ∀ b ∈ fp, ∀ o, s7.heap.get? b = some o → s'.heap.get? b = some o ∧ H' b = none := fun b hb o q =>
          ⟨(I'.pin (b, o) (List.mem_append_right _ (List.mem_append_right _ (mem_pinsAt hb q)))).1, (I'.pin (b, o) (List.mem_append_right _ (List.mem_append_right _ (mem_pinsAt hb q)))).2.1⟩
        refine ⟨m', hm, i + 1, H', (I'.unpinned (pins := [])).weak (by rw [← hw8, wipe_length]) (fun j v q => ?_), T.keep _ _ _ st7 fun b hb o q => (still b hb o q).1, fun b hb => ?_, w'⟩
        · rw [← hw8] at q
          exact (wipe_some q).1
        · obtain ⟨o, q, _⟩ := T.obj _ _ st7 b hb
          exact (still b hb o q).2
      cases b with
      | false =>
        rw [if_neg (by decide)] at q9 ⊢
        exact close I9 q9
      | true =>
        rw [if_pos rfl] at q9 ⊢
        refine thn (pe.run _ s9 σ8 H9 _ I9 q9) fun z s10 hr10 => ?_
        obtain ⟨yv, H10, I10, r10, acc, hD10, hz10, nx⟩ := hr10
        exact app_ok (X := blkX X sc Hc scope ce fp) I10 hD10 hz10 r10 fun s11 I11 => close I11 nx
  exact codeAny_compStart_list loop (T.self X.A 0 _ _ _ ste loop)
/-- name = [..] on one line, the name a local, the element may raise -/
theorem ps_setLcX {X : Cx} {i : Nat} {y : Str} {py : Pos} {elt tg iter : Expr} {ifs : List Expr} {scope : Scope} {own : List (Str × Nat)} {pos spos : Pos} {wi : TI} {g : TG} {tt : TT} {te : TE} (hcalm : X.calm = true) (hnd : X.N.Nodup) (hy : X.N[i]? = some y) (hyl : X.env.scope.names.lookup y = some .local)
    (hsw : swapsWith (.ListComp elt [⟨tg, iter, ifs, 0⟩] scope pos) (some (.Name y py)) spos.line X.env = pure true) (hi : PI X tg iter wi) (ok : BlkOk X.N X.env.scope scope own)
    (hg : ∀ (s : Shared) (H : Hp) (C : Addr) (cl : List (Str × Addr)) (fp : List Addr), PG (blkX X s H scope (compEnvC scope cl C X.env) fp) tg g)
    (ht : ∀ (s : Shared) (H : Hp) (C : Addr) (cl : List (Str × Addr)) (fp : List Addr), PTs (blkX X s H scope (compEnvC scope cl C X.env) fp) ifs tt)
    (he : ∀ (pins : List (Addr × Obj)) (σ : L2.St) (s : Shared) (H : Hp) (C : Addr) (cl : List (Str × Addr)) (fp : List Addr), Inv X pins σ H s → (∀ b ∈ fp, FpOk X pins H b ∧ b < s.heap.objs.size) → FpOk X pins H C → PE (blkX X s H scope (compEnvC scope cl C X.env) fp) elt te)
    (hfold : ∀ x, foldedSetIterable iter X.env x = pure x := by intro _; rfl) :
    PS X (.Assign [.Name y py] (.ListComp elt [⟨tg, iter, ifs, 0⟩] scope pos) spos) (tAsg (tLc wi g tt te (own.map (·.2))) (gName i)) := by
  refine ⟨fun pins s σ H D I h => ?_⟩
  have h : tLc wi g tt te (own.map (·.2)) σ H (fun x H1 => gName i x σ H1 D.nx) := h
  rw [exec_Assign_Name_used _ _ _ _ hsw]
  refine wpAny_bind (wpAny_standAt (wpAny_bind ?_))
  show wpAny _ X.A (do let _ ← comprehension (.ListComp elt [⟨tg, iter, ifs, 0⟩] scope pos) scope X.env (firstIterPos [⟨tg, iter, ifs, 0⟩] pos) (newList []) false (eval iter X.env) (some (assign (.Name y py) X.env))) _ _ s
  have run := lcX_core (pos := pos) (pos' := firstIterPos [⟨tg, iter, ifs, 0⟩] pos) (use := some (assign (.Name y py) X.env)) (Qf := fun _ s' => SP X pins D .next s') hcalm hnd I hi ok hg ht he hfold h fun L ce s' m H' I' q hn f => by
    show wpAny _ _ (assign (.Name y py) X.env (.ref L)) _ _ _
    refine wpAny_assign_Name (store_ok2 (v := V.ref L) I' hnd hy (.inl hyl) rfl (fun s2 I2 hw => ?_) (.inr hyl))
    obtain ⟨a, sb, ha⟩ := hw
    obtain ⟨f0, f1, f2, f3, f4, f5⟩ := f
    have apart : ce.locals ≠ a := ha.elim (fun z => by rw [z]; exact f1) fun z e => f4 y a z e.symm
    exact ⟨m, hn.sameBut sb apart, fun h3 sb3 => ⟨_, H', I2.turned (t' := s2.toks) (fun b o hb q => (sb3.2 b hb).trans q) f0 f1 f3 f4 f5, q⟩⟩
  exact wpAny_bind (thn run fun _ s' hq => wpAny_pure (wpAny_pure hq))
end Ts

/-! Methods and makings inside a try; list.remove of data; len(set(texts)). -/
namespace Ts
open PySem PySem.Spec PyProof.Rows L2
/-- a class of the text: what it is made of -/
structure OwnC (K : PySem.W.Frag) (mg : Str → Option Value) (nm : Str) (C f : Addr) (fs : List Str) : Prop where
  cls : Cls K C
  at_ : mg nm = some (.ref C)
  make : Mk K C f
  nf : ∀ z ∈ fs, NoAttr K C z
section
variable {X : Cx} {CX : CXT} {k n : Nat} {f C : Addr} {fd : FuncData} {ps ks : List Str} {sp : Sp} {dvs : List V} {ds : List Value} {E : L2.St → XK} {x m : Str} {p pos apos : Pos} {e o : Expr} {es : List Expr} {kws : List Keyword} {ta : TE} {t tk : TA} {g : List Value → List Value → List Value} {gV : List V → List V → List V}
/-- a method of the class, its raise wished at the slots -/
def tMethS (C : Addr) (m : Str) (sp : Sp) (dvs : List V) (E : L2.St → XK) (ta : TE) (t : TA) : TE := fun σ H Q => ta σ H fun x H1 => ∃ a dx fs, x = .ref a ∧ H1 a = some (.ins C dx fs) ∧ fs.lookup m = none ∧ t σ H1 fun vs H2 => sp (x :: (vs ++ dvs)) H2 Q (E σ)
theorem pe_methSD {pl : Sem Bool} (ho : PE X o ta) (cl : Cls X.K C) (me : Meth X.K C m f) (F : FnOk X.prog X.w X.K X.mg X.base CX k f fd ps sp) (room : Room k X.A) (bi : Binds X.K fd ps ds) (dv : Vals dvs ds) (pass : ∀ σ, PassesAt CX X σ (E σ)) (args : PA X (e :: es) t)
    (hst : starEach (e :: es) X.env = (false, eval e X.env) :: starEach es X.env := by rfl) (hpl : (backTo pos (starEach es X.env)).any (·.1) = false := by rfl)
    (ht : eval (.Call (.Attribute o m apos) (e :: es) [] pos) X.env = (do
      let obj ← eval o X.env
      standAt apos.atName
      let (fn, self) ← holding [obj] (getMethod obj m pl)
      callWith pos fn self (backTo pos (starEach (e :: es) X.env)) (backToKw pos (keywordEach [] X.env))) := by rfl) :
    PE X (.Call (.Attribute o m apos) (e :: es) [] pos) (tMethS C m sp dvs E ta t) := by
  refine ⟨fun pins s σ H Q J q0 => ?_⟩
  refine PySem.W.methodCall_KW (pl := pl) (thn (ho.run pins s σ H _ J q0) fun u s1 ⟨y, H1, J1, ry, a, dx, fs, ey, ea, none_, q1⟩ => ?_) ht
  subst ey
  obtain rfl : u = Value.ref a := ry
  refine getmeth_ok J1 ea cl me none_ ?_
  refine PySem.W.callWith_K (first := [.ref a]) (h₀ := X.base) J.ok.mod.kin me.kp (thn (args.run pos pins s1 σ H1 _ J1 q1) fun us s2 ⟨vs, H2, J2, rv, q2⟩ => ⟨J2.kIn, ?_⟩) hst hpl
  exact run_fnSD (us := .ref a :: us) (vs := .ref a :: vs) F room bi dv (pass σ) J2 (.cons rfl rv) q2
/-- the same, the last parameters told by name -/
def tMethK (C : Addr) (m : Str) (n mm : Nat) (sp : Sp) (gV : List V → List V → List V) (E : L2.St → XK) (ta : TE) (t tk : TA) : TE := fun σ H Q => ta σ H fun x H1 => ∃ a dx fs, x = .ref a ∧ H1 a = some (.ins C dx fs) ∧ fs.lookup m = none ∧
  t σ H1 fun vs H2 => tk σ H2 fun zs H3 => (x :: vs).length = n ∧ zs.length = mm ∧ sp (gV (x :: vs) zs) H3 Q (E σ)
theorem pe_methSK {pl : Sem Bool} (ho : PE X o ta) (cl : Cls X.K C) (me : Meth X.K C m f) (F : FnOk X.prog X.w X.K X.mg X.base CX k f fd ps sp) (room : Room k X.A) (kb : KBn X.K fd ps n ks g gV) (pass : ∀ σ, PassesAt CX X σ (E σ)) (args : PA X (e :: es) t) (named : PK X kws tk)
    (hall : (backToKw pos (keywordEach kws X.env)).all (·.1.isSome) = true := by rfl) (hks : (backToKw pos (keywordEach kws X.env)).filterMap (·.1) = ks := by rfl)
    (hst : starEach (e :: es) X.env = (false, eval e X.env) :: starEach es X.env := by rfl)
    (hpl : ((backTo pos (starEach (e :: es) X.env)).any (·.1) || (backToKw pos (keywordEach kws X.env)).any (·.1.isNone)) = false := by rfl)
    (ht : eval (.Call (.Attribute o m apos) (e :: es) kws pos) X.env = (do
      let obj ← eval o X.env
      standAt apos.atName
      let (fn, self) ← holding [obj] (getMethod obj m pl)
      callWith pos fn self (backTo pos (starEach (e :: es) X.env)) (backToKw pos (keywordEach kws X.env))) := by rfl) :
    PE X (.Call (.Attribute o m apos) (e :: es) kws pos) (tMethK C m n ks.length sp gV E ta t tk) := by
  refine ⟨fun pins s σ H Q J q0 => ?_⟩
  refine PySem.W.methodCall_KW (pl := pl) (thn (ho.run pins s σ H _ J q0) fun u s1 ⟨y, H1, J1, ry, a, dx, fs, ey, ea, none_, q1⟩ => ?_) ht
  subst ey
  obtain rfl : u = Value.ref a := ry
  refine getmeth_ok J1 ea cl me none_ ?_
  refine PySem.W.callWith_KW (first := [.ref a]) (h₀ := X.base) J.ok.mod.kin me.kp hall (thn (args.run pos pins s1 σ H1 _ J1 q1) fun us s2 ⟨vs, H2, J2, rv, q2⟩ => ?_) hpl hst
  refine thn (named.run pos pins s2 σ H2 _ J2 q2) fun ws s3 ⟨zs, H3, J3, rz, l1, l2, q3⟩ => ⟨J3.kIn, ?_⟩
  rw [hks]
  exact run_fnSK (us := .ref a :: us) (vs := .ref a :: vs) F room kb (pass σ) J3 (.cons rfl rv) rz l1 l2 q3
/-- an instance made inside a try -/
def tMakeS (C : Addr) (sp : Sp) (E : L2.St → XK) (t : TA) : TE := fun σ H Q => t σ H fun vs H1 => ∀ b d, H1 b = none → H1 d = none → d ≠ b →
  sp (.ref b :: vs) (upd (upd H1 d (.own b)) b (.ins C d [])) (fun v H2 => v = .non ∧ Q (.ref b) H2) (E σ)
theorem run_makeS {pins : List (Addr × Obj)} {σ : L2.St} {H : Hp} {s : Shared} {Q : VK} {us : List Value} {vs : List V} (M : Mk X.K C f) (F : FnOk X.prog X.w X.K X.mg X.base CX k f fd ps sp) (room : Room (k + 1) X.A) (bi : Binds X.K fd ps [])
    (pass : PassesAt CX X σ (E σ)) (J : Inv X pins σ H s) (rv : Vals vs us)
    (q : ∀ b d, H b = none → H d = none → d ≠ b → sp (.ref b :: vs) (upd (upd H d (.own b)) b (.ins C d [])) (fun v H2 => v = .non ∧ Q (.ref b) H2) (E σ)) :
    wpAny (model X.prog X.w) X.A (call (.ref C) us) (EP X pins σ Q) X.xe s := by
  have q1 := q (s.heap.objs.size + 1) s.heap.objs.size (J.hok.fresh (Nat.le_succ _)) (J.hok.fresh (Nat.le_refl _)) (Nat.ne_of_lt (Nat.lt_succ_self _))
  have J2 := Inv.made (C := C) J
  have r2 : Vals (V.ref (s.heap.objs.size + 1) :: vs) (Value.ref (s.heap.objs.size + 1) :: us) := .cons rfl rv
  have hl : (Value.ref (s.heap.objs.size + 1) :: us ++ []).length = ps.length := by
    have e := r2.length
    rw [F.len _ _ _ _ q1] at e
    rw [List.append_nil]
    exact e.symm
  have b2 := bi _ (Value.ref (s.heap.objs.size + 1) :: us) J2.kIn hl
  rw [List.append_nil] at b2
  refine wpAny_call (make_map (f := f) J.kIn M.makes M.init (beq_iff_eq.mp M.fn) (codeAny_mono (F.run _ X.stack _ _ ⟨Value.ref (s.heap.objs.size + 1) :: us, []⟩ (Value.ref (s.heap.objs.size + 1) :: us) _ _ (E σ) (room.make C us [])
    (J2.env0.make C us []) b2 r2 q1) fun r s' hz => ?_))
  cases r with
  | error ex => exact pass pins _ _ ex s' J2 hz
  | ok fl =>
    cases fl with
    | ret u =>
      obtain ⟨v, H', J3, ru, ev, q3⟩ := J2.after hz
      subst ev
      exact ⟨ru, ⟨V.ref (s.heap.objs.size + 1), H', J3, rfl, q3⟩⟩
    | next => exact False.elim hz
    | brk => exact False.elim hz
    | cont => exact False.elim hz
theorem pe_makeS (M : Mk X.K C f) (F : FnOk X.prog X.w X.K X.mg X.base CX k f fd ps sp) (room : Room (k + 1) X.A) (gl : Gl X x) (at_ : X.mg x = some (.ref C)) (bi : Binds X.K fd ps []) (pass : ∀ σ, PassesAt CX X σ (E σ))
    (args : PA X (e :: es) t) (hdb : (x == ("__debug__" : Str)) = false := by decide) (he : starEach (e :: es) X.env = (false, eval e X.env) :: starEach es X.env := by rfl) (hpl : (backTo pos (starEach es X.env)).any (·.1) = false := by rfl) :
    PE X (.Call (.Name x p) (e :: es) [] pos) (tMakeS C sp E t) := by
  refine ⟨fun pins s σ H Q J q => ?_⟩
  refine wpAny_Call_Name_kw (ld_glob J gl at_ ?_ hdb)
  refine PySem.W.callWith_K (h₀ := X.base) J.ok.mod.kin M.kp (thn (args.run pos pins s σ H _ J q) fun us s1 ⟨vs, H1, J1, rv, q1⟩ => ⟨J1.kIn, ?_⟩) he hpl
  exact run_makeS M F room bi (pass σ) J1 rv q1
end
theorem pe_fldK {X : Cx} {u : Expr} {z : Str} {at_ : Pos} {tu : TE} (K : PySem.W.Frag) (ue : PE X u tu) (base : attributeBase u z X.env (eval u X.env) = eval u X.env) (k : X.K = K := by rfl) : PE X (.Attribute u z at_) (tFld K tu z) := by subst k; exact pe_fld ue base
theorem ps_fldK {X : Cx} {u y : Expr} {z : Str} {at_ at2 : Pos} {tu ty : TE} (K : PySem.W.Frag) (ue : PE X u tu) (ye : PE X y ty) (sw : swapsWith y (some (.Attribute u z at2)) at_.line X.env = pure false) (k : X.K = K := by rfl) : PS X (.Assign [.Attribute u z at2] y at_) (sFld K tu ty z) := by subst k; exact ps_fld ue ye sw
/-! ### list.remove of an item, the items read as data -/
theorem eraseIdx_len {α : Type} (l : List α) (j : Nat) : (l.eraseIdx j).length ≤ l.length := by
  rw [List.length_eraseIdx]
  split <;> omega
def rRemD (K : PySem.W.Frag) : V → List V → Hp → VK → Prop := fun x xs H Q => ∃ (a : Addr) (y : V) (vs : List V) (d : PyData) (ds : List PyData) (j : Nat) (z : PyData), x = V.ref a ∧ xs = [y] ∧ H a = some (.lst vs) ∧ DpAll K H vs ds ∧ Dp K H y d ∧
  SeqAt.shaped (.list ds) = true ∧ SeqAt.shaped d = true ∧ ds[j]? = some z ∧ PyData.eqv z d = true ∧ (∀ (m : Nat) (z' : PyData), m < j → ds[m]? = some z' → PyData.eqv z' d = false) ∧ Q .non (upd H a (.lst (vs.eraseIdx j)))
theorem mt_removeD {X : Cx} (hu : X.A.units + 65 < cLine) : MtM X "list.remove" (rRemD X.K) := by
  intro pins s σ H x xs v us Q J rx rxs q0
  obtain ⟨a, y, vs, d, ds, j, z, rfl, rfl, hH, hds, hy, sl, sd, hz, hzj, hno, q⟩ := q0
  cases rx
  obtain ⟨u, rfl, ru⟩ := rxs.one
  obtain ⟨bs, r1⟩ := Dp.reads J d y u hy ru
  obtain ⟨sz, its, n, rv, lenE, e⟩ := J.lstM hH
  have lay : PyData.canLayAll0 ds = true := SeqAt.canLay_of_shaped sl
  have roomD : X.A.units + 1 + min (PyData.depthAll ds) d.depth < cLine := room_in_shaped sd hu
  obtain ⟨as, h4⟩ := Dp.readsAll J ds _ its hds rv
  have hn : its.length = ds.length := SeqAt.ReadsAll.length ds its as h4
  have em : its.map (SeqAt.readOf s.heap) = ds := SeqAt.readsAll_map ds its as lay h4
  obtain ⟨hjd, _⟩ := List.getElem?_eq_some_iff.mp hz
  have hjl : j < its.length := by omega
  have hj : j < its.toArray.size := by simpa using hjl
  have at_ : ∀ (m : Nat) (hm : m < its.toArray.size) (z' : PyData), ds[m]? = some z' → SeqAt.readOf s.heap its.toArray[m] = z' := by
    intro m hm z' hz'
    have hml : m < its.length := by simpa using hm
    rw [← em, List.getElem?_map, List.getElem?_eq_getElem hml] at hz'
    have e1 : SeqAt.readOf s.heap its[m] = z' := Option.some.inj (show some (SeqAt.readOf s.heap its[m]) = some z' from hz')
    simpa using e1
  refine call_meets PySem.F.slot_list_remove ⟨_, e, rfl⟩ PySem.F.entry_list_remove (PySem.F.args_list_remove_2 _ _)
    (SeqAt.list_removeAt a its.toArray n none #[] u (fun w => PyData.eqv (SeqAt.readOf s.heap w) d) j hj ?_ ?_ (by rw [List.size_toArray]; omega)) ⟨e, SeqAt.items_eqAt (vs := its.toArray) (show ReadsAll s.heap its.toArray.toList ds as from h4) r1 lay (SeqAt.canLay_of_shaped sd) roomD, ?_⟩
  · show PyData.eqv (SeqAt.readOf s.heap its.toArray[j]) d = true
    rw [at_ j hj z hz]
    exact hzj
  · intro m hm hmj
    have hmd : m < ds.length := by omega
    have hz' : ds[m]? = some ds[m] := List.getElem?_eq_getElem hmd
    show PyData.eqv (SeqAt.readOf s.heap its.toArray[m]) d = false
    rw [at_ m hm _ hz']
    exact hno m _ hmj hz'
  · have rr := rv.eraseIdx j
    refine ⟨.non, _, J.lset (its' := its.eraseIdx j) (t' := s.toks) hH e ?_ rr ?_, rfl, q⟩
    · show its.toArray.eraseIdxIfInBounds j = (its.eraseIdx j).toArray
      rw [List.eraseIdxIfInBounds_toArray]
    · have z2 := eraseIdx_len vs j
      omega
theorem units_65 {k : Nat} {A : Around} (r : Room k A) : A.units + 65 < cLine := by have := r.un; omega
theorem mt_removeK {X : Cx} (K : PySem.W.Frag) (few : X.A.units + 65 < cLine) (k : X.K = K := by rfl) : MtM X "list.remove" (rRemD K) := by subst k; exact mt_removeD few
end Ts

/-! A set made of a list of texts, and how many it holds. -/
namespace Ts
open PySem PySem.Spec PyProof.Rows L2
/-- the texts of the first i of zs -/
abbrev seen (zs : List Str) (i : Nat) : Str → Bool := fun z => decide (z ∈ firsts (zs.take i))
abbrev seenN (zs : List Str) (i : Nat) : Nat := (firsts (zs.take i)).length
theorem firsts_step {zs : List Str} {i : Nat} {z : Str} (e : zs[i]? = some z) : firsts (zs.take (i + 1)) = addN (firsts (zs.take i)) z := by
  rw [take_snocL e, firsts_snoc]
section
variable {pr : Program} {wo : World} {B : Around}
/-- the walk that fills it -/
theorem set_fill_txt {Fin : Result → Shared → Prop} {it : Addr} {foot wet : List Addr} {Gn : Array GenState → Array GenState → Prop} {m : Nat} {Is : Nat → Value → Prop} {Sta : Nat → Shared → Prop} (walk : WalksS pr wo B.in1 it foot wet Gn m Is Sta) (D : Addr) (free : D ∉ foot) (zs : List Str) (zl : zs.length = m) (few : m + 1 < scanBound)
    (txt : ∀ i v, Is i v → ∃ z t, zs[i]? = some z ∧ v = .str z t) :
    ∀ (d i : Nat) (sh : Shared), m - i = d → i ≤ m → Sta i sh → sh.heap.SetOf (PySem.strKind pr wo) D (seen zs i) (seenN zs i) →
      (∀ sh', Moved (D :: wet) Gn sh sh' → sh'.heap.SetOf (PySem.strKind pr wo) D (seen zs m) (seenN zs m) → Fin (.ok (.ret .none)) sh') →
      codeAny (model pr wo) B (.builtin "set.update.loop" ⟨[.ref D, .ref it], []⟩) Fin sh := by
  have dry : D ∉ wet := fun z => free (walk.sub _ z)
  have more : ∀ b ∈ wet, b ∈ D :: wet := fun b z => List.mem_cons_of_mem _ z
  intro d
  induction d with
  | zero =>
    intro i sh ed hi sta own fin
    obtain rfl : i = m := by omega
    refine codeAny_builtin PyProof.Rows.F.entry_set_update_loop ?_; rw [Around.under_plainId PyProof.Rows.F.plain_set_update_loop _]
    show wpAny _ B.in1 (pyNext (.ref it) >>= _) _ _ sh
    refine wpAny_bind (walk.done sh _ _ sta fun sh' mv => ?_)
    show wpAny _ B.in1 (ret Value.none) _ _ sh'
    obtain ⟨ob, el, ep, tb, at0, tail⟩ := own
    exact wpAny_pure (fin sh' (mv.mono more) ⟨ob, el, ep, tb, mv.heap D _ dry at0, tail⟩)
  | succ d ih =>
    intro i sh ed hi sta own fin
    have lt : i < m := by omega
    refine codeAny_builtin PyProof.Rows.F.entry_set_update_loop ?_; rw [Around.under_plainId PyProof.Rows.F.plain_set_update_loop _]
    show wpAny _ B.in1 (pyNext (.ref it) >>= _) _ _ sh
    refine wpAny_bind (walk.item i sh _ _ lt sta fun v sh' pv sta' mv => ?_)
    obtain ⟨z, t, ez, rfl⟩ := txt i v pv
    have own' : sh'.heap.SetOf (PySem.strKind pr wo) D (seen zs i) (seenN zs i) := by
      obtain ⟨ob, el, ep, tb, at0, tail⟩ := own
      exact ⟨ob, el, ep, tb, mv.heap D _ dry at0, tail⟩
    show wpAny _ B.in1 (holding [Value.str z t] (setAdd D (.str z t)) >>= _) _ _ sh'
    refine wpAny_bind (wpAny_holding ?_)
    unfold setAdd
    refine wpAny_holding (wpAny_bind ((PySem.strKind pr wo).pyHash (k := z) (strKind_is _ _ _ _) ?_))
    have room : seenN zs i + 1 < scanBound := by
      have a := len_firsts (zs.take i)
      rw [List.length_take] at a
      show (firsts (zs.take i)).length + 1 < scanBound
      omega
    refine wpAny_setAddHashed_of (knd := PySem.strKind pr wo) (s := { sh' with toks := sh'.toks + 1 }) (strKind_is _ _ _ _) rfl own' room fun hp same own2 => ?_
    have own3 : hp.SetOf (PySem.strKind pr wo) D (seen zs (i + 1)) (seenN zs (i + 1)) := by
      refine SetOf_congr own2 (fun y => ?_) ?_
      · show (decide (y ∈ firsts (zs.take i)) || decide (y = z)) = decide (y ∈ firsts (zs.take (i + 1)))
        rw [firsts_step ez]
        unfold addN
        by_cases q : z ∈ firsts (zs.take i)
        · by_cases e : y = z
          · subst e; simp [q]
          · simp [q, e]
        · simp [q]
      · show (if decide (z ∈ firsts (zs.take i)) = true then (firsts (zs.take i)).length else (firsts (zs.take i)).length + 1) = (firsts (zs.take (i + 1))).length
        rw [firsts_step ez]
        unfold addN
        by_cases q : z ∈ firsts (zs.take i)
        · simp [q]
        · simp [q]
    refine wpAny_pure ⟨plainId_quiet PyProof.Rows.F.plain_set_update_loop _, ih (i + 1) _ (by omega) lt (walk.frame _ sh' _ _ sta' (Nat.le_succ _) fun b hb u e => ?_) own3 fun sh2 mv2 own4 => ?_⟩
    · rw [same.2 b (fun z : b = D => free (by rw [← z]; exact hb))]; exact e
    · refine fin sh2 (Moved.trans walk.gtrans ((mv.mono more).then_heap (Nat.le_succ _) fun b u hb e => ?_) mv2) own4
      rw [same.2 b (fun z : b = D => hb (by rw [z]; exact List.mem_cons_self))]; exact e
end
section
variable {pr : Program} {wo : World} {B : Around} {Ex : Value → Shared → Prop} {sh : Shared}
theorem strs_get : ∀ {us : List Value} {zs : List Str}, StrsAre us zs → ∀ (i : Nat) (v : Value), us[i]? = some v → ∃ z t, zs[i]? = some z ∧ v = .str z t
  | _, _, .nil, i, v, e => by simp at e
  | _, _, .cons a t r, 0, v, e => by simp at e; exact ⟨a, t, rfl, e.symm⟩
  | _, _, .cons a t r, i + 1, v, e => by simp at e; simpa using strs_get r i v e
/-- what an empty new set is -/
abbrev newSet (led : Bool) : Obj := { cls := .type "set", dict := none, data := .set #[] 0 (.fresh 0 0 led) }
theorem set_of_txts {l : Addr} {itms : Array Value} {zs : List Str} {Qs : Value → Shared → Prop}
    (calm : B.handled = none) (isl : sh.heap.IsList l itms) (txts : StrsAre itms.toList zs) (few : zs.length + 1 < scanBound)
    (fin : ∀ (hp : Heap) (tk : Nat), hp.SetOf (PySem.strKind pr wo) sh.heap.objs.size (seen zs zs.length) (seenN zs zs.length) →
      (∀ b o, b < sh.heap.objs.size → sh.heap.get? b = some o → hp.get? b = some o) → Qs (.ref sh.heap.objs.size) { sh with heap := hp, toks := tk }) :
    wpAny (model pr wo) B (call (.type "set") [.ref l]) Qs Ex sh := by
  have zl : zs.length = itms.size := by rw [← StrsAre.len_eq txts, Array.length_toList]
  have lS : l < sh.heap.objs.size := by
    obtain ⟨ol, hol, _⟩ := isl
    exact Heap.lt_size hol
  obtain ⟨c0, tl0, mro0⟩ := PySem.F.called_set.mro; have made0 := PySem.F.called_set.made; have sub0 := PySem.F.called_set.sub
  refine wpAny_call (codeAny_of_tree (show wpAny _ _ (callAny (.type "set") _) _ _ _ from wpAny_pure ⟨Code.quiet_builtin _ (by decide +kernel), codeAny_builtin PySem.F.entry_type_call ?_⟩))
  rw [Around.under_plain (weight_type_call_type "set" [.ref l] []) rfl]
  have nt0 := PySem.F.called_set.notType; have cr0 := PySem.F.called_set.canCreate; have tc0 := PySem.F.typeCall_set_1 (.ref l)
  repeat (any_goals first | assumption | wp_step)
  refine codeAny_mono (code_set_new_1 (.ref l) (E := Ex) (Q₁ := fun u sh₁ => ∃ led : Bool, u = .ref sh.heap.objs.size ∧ sh₁ = { sh with heap := sh.heap.push (newSet led) }) fun led => ⟨led, rfl, rfl⟩) fun r sh₁ hr => ?_
  cases r with
  | error e => exact hr
  | ok fl =>
    cases fl with
    | ret u =>
      obtain ⟨led, rfl, rfl⟩ := hr
      have at0 : (sh.heap.push (newSet led)).get? sh.heap.objs.size = some (newSet led) := Heap.get?_push_size _ rfl
      have ty0 : Shared.TypeIs { sh with heap := sh.heap.push (newSet led) } (.ref sh.heap.objs.size) "set" := ⟨_, at0, rfl⟩
      have look0 := PySem.F.called_set.init.lookup; have bind0 := PySem.F.called_set.init.bind (.ref sh.heap.objs.size)
      repeat (any_goals first | assumption | wp_step)
      refine codeAny_mono (codeAny_call_builtin (R := wants (fun r sh₂ => r = .none ∧ ∃ hp tk, sh₂ = { sh with heap := hp, toks := tk } ∧
          hp.SetOf (PySem.strKind pr wo) sh.heap.objs.size (seen zs zs.length) (seenN zs zs.length) ∧
          (∀ b o, b < sh.heap.objs.size → sh.heap.get? b = some o → hp.get? b = some o)) Ex) PySem.F.called_set.init.plain PySem.F.entry_set_init (check_set_init_1 ty0 ?_)) fun r₂ sh₂ hr₂ => ?_
      · obtain ⟨⟨clsL, dictL, dataL, slotsL⟩, atl, cl, nl, dl⟩ := id isl
        simp only at cl dl; subst cl; subst dl
        have atl' : (sh.heap.push (newSet led)).get? l = some { cls := .type "list", dict := dictL, data := .seq itms nl, slots := slotsL } := Heap.get?_push_of_some _ atl
        have subS := PySem.F.sub_list_set; have subF := PySem.F.sub_list_frozenset
        have noD : (Value.type "list" == Value.type "dict") = false := by decide
        have isl' : (sh.heap.push (newSet led)).IsList l itms := ⟨_, atl', rfl, nl, rfl⟩
        unfold Builtin.«set.__init__» noKeywords Builtin.Frozenset.updateFrom
        generalize gPI : pyIter = PI; wp_walk; subst gPI
        refine wpAny_pyIter_list isl' (wpAny_bind (wpAny_runValue ?_))
        have calm3 : B.in1.in1.in1.handled = none := by simp [calm]
        have neI : l ≠ (sh.heap.push (newSet led)).objs.size := by rw [Heap.size_push]; exact Nat.ne_of_lt (Nat.lt_succ_of_lt lS)
        have free0 : sh.heap.objs.size ∉ [(sh.heap.push (newSet led)).objs.size, l] := by
          rw [Heap.size_push]; simp only [List.mem_cons, List.mem_singleton, List.not_mem_nil, or_false, not_or]; exact ⟨Nat.ne_of_lt (Nat.lt_succ_self _), Nat.ne_of_gt lS⟩
        refine set_fill_txt ((Walks.list calm3 _ l neI itms).toS) sh.heap.objs.size free0 zs zl (by rw [← zl]; exact few) (fun i v hv => strs_get txts i v (by rw [Array.getElem?_toList]; exact hv)) (itms.size - 0) 0 _ (by omega) (Nat.zero_le _)
          ⟨⟨_, Heap.get?_push_size _ rfl, rfl, rfl⟩, (isl'.push _)⟩ ?own0 ?end0
        case own0 =>
          have get0 : ((sh.heap.push (newSet led)).push { cls := .type "list_iterator", data := .fields #[.ref l, .int 0 0] }).get? sh.heap.objs.size = some (newSet led) := Heap.get?_push_of_some _ at0
          exact SetOf_congr ((PyProof.Rows.setObjOf_fresh (knd := PySem.strKind pr wo) led).setOf get0 (by unfold scanBound; omega)) (fun _ => rfl) rfl
        case end0 =>
          intro sh' mv own
          obtain ⟨hp, ge, dr, tk, os'⟩ := sh'
          obtain rfl : ge = sh.gens := mv.gens
          obtain rfl : dr = sh.drawn := mv.drawn
          obtain rfl : os' = sh.os := mv.os
          rw [← zl] at own
          show wpAny _ _ _ _ _ _
          refine wpAny_pure ?_
          show wpAny _ _ (ret Value.none) _ _ _
          refine wpAny_pure ⟨rfl, hp, tk, rfl, own, fun b o hb e => mv.heap b o ?_ (Heap.get?_push_of_some _ (Heap.get?_push_of_some _ e))⟩
          rw [Heap.size_push]
          simp only [List.mem_cons, List.mem_singleton, List.not_mem_nil, or_false, not_or]; exact ⟨Nat.ne_of_lt hb, Nat.ne_of_lt (Nat.lt_succ_of_lt hb)⟩
      · cases r₂ with
        | error e => exact hr₂
        | ok fl₂ =>
          cases fl₂ with
          | ret r =>
            obtain ⟨rfl, hp, tk, rfl, own, keep⟩ := hr₂
            repeat (any_goals first | assumption | wp_step)
            exact fin _ _ own keep
          | _ => exact hr₂.elim
    | _ => exact hr.elim
end
section
variable {X : Cx}
/-- len(set(zs)) of a list of texts -/
def tLenTx (K : PySem.W.Frag) (ta : TE) : TE := fun σ H Q => ta σ H fun x H1 => ∃ l, ∃ zs : List Str, x = .ref l ∧ SqL K H1 l (zs.map V.str) ∧ zs.length ≤ 4000 ∧ Q (.int (firsts zs).length) H1
theorem pe_lenTx {a : Expr} {ta : TE} {p p2 q pos : Pos} (calm : X.calm = true) (gl : Gl X "len") (ml : X.mg "len" = none) (gs : Gl X "set") (ms : X.mg "set" = none) (arg : PE X a ta)
    (st : starEach [a] X.env = (false, eval a X.env) :: starEach [] X.env := by rfl) : PE X (.Call (.Name "len" p) [.Call (.Name "set" p2) [a] [] q] [] pos) (tLenTx X.K ta) := by
  refine ⟨fun pins s σ H Q J q0 => Call_ (ld_blt J gl ml boot_len ?_)⟩
  refine PyProof.Rows.callWith_builtin1 (PyProof.Rows.args_cons (Call_ (ld_blt J gs ms boot_set ?_)) rfl) rfl rfl
  refine PyProof.Rows.callWith_type1 (PyProof.Rows.args_cons (thn (arg.run pins s σ H _ J q0) fun v s1 ⟨x, H1, J1, rx, l, zs, ex, sq, few, q1⟩ => PyProof.Rows.args_nil ?_) st) st rfl
  subst ex
  cases rx
  obtain ⟨its, rv, pl, sz⟩ := J1.list sq
  refine set_of_txts (J1.ok.hd calm) pl.isList (by simpa using strsAre_of rv) (by unfold scanBound; omega) fun hp tk own keep => PyProof.Rows.args_nil ?_
  have eN : seenN zs zs.length = (firsts zs).length := by show (firsts (zs.take zs.length)).length = _; rw [List.take_length]
  rw [eN] at own
  have lN := len_firsts zs
  obtain ⟨o, es, ep, t, at0, hex, hd, _, _, _, hf, hn⟩ := own
  have J2 : Inv X pins σ H1 { s1 with heap := hp, toks := tk } := J1.kept fun b o e => keep b o (Heap.lt_size e) e
  exact call_len_set at0 hex hd hf (by rw [hn] <;> omega) ⟨.int (firsts zs).length, H1, J2.tok _, ⟨_, by rw [hn]⟩, q1⟩
end
end Ts

local macro_rules | `(tactic| walk_at "ts hp") => `(tactic| first | assumption | (apply Ts.same_get; (focus assumption); walk_at "ts hp"))
local macro_rules | `(tactic| walk_at "ts sq") => `(tactic| first | assumption | ((with_reducible apply Ts.sqL_of); walk_at "ts hp") | ((with_reducible apply Ts.sqT_of); walk_at "ts hp") | ((with_reducible apply L2.Same.seq); (focus assumption); walk_at "ts sq") | ((with_reducible apply Ts.Same.sqT); (focus assumption); walk_at "ts sq"))
local macro_rules | `(tactic| walk_at "ts same") => `(tactic| first | assumption | exact L2.Same.refl _ | ((with_reducible apply Ts.same_step); (focus assumption); walk_at "ts same"))
local macro_rules | `(tactic| walk_at "ts call") => `(tactic| fail "no call")
local macro_rules | `(tactic| walk_at "ts 1") => `(tactic| first
  | with_reducible apply Ts.q_seq
  | with_reducible apply Ts.q_set
  | with_reducible apply Ts.q_asg
  | ((with_reducible apply Ts.q_lst2); (focus walk_at "ts sq"))
  | ((with_reducible apply Ts.q_tup2); (focus walk_at "ts sq"))
  | ((with_reducible apply Ts.q_tup5); (focus walk_at "ts sq"))
  | with_reducible apply Ts.q_name
  | with_reducible apply Ts.q_gSub
  | with_reducible apply Ts.q_ret
  | with_reducible apply Ts.q_ifS
  | with_reducible apply Ts.q_next
  | with_reducible apply Ts.q_drop
  | with_reducible apply Ts.q_retN
  | with_reducible apply Ts.q_op
  | with_reducible apply Ts.q_c
  | ((with_reducible apply Ts.q_var); (focus rfl))
  | with_reducible apply Ts.q_I0
  | ((with_reducible apply Ts.q_mod); (focus omega))
  | ((with_reducible apply Ts.q_mulR); (focus omega))
  | ((with_reducible apply Ts.q_mulL); (focus omega))
  | ((with_reducible apply Ts.q_fdiv); (focus omega))
  | with_reducible apply Ts.q_pow12
  | with_reducible apply Ts.q_pow24
  | with_reducible apply Ts.q_pow40
  | with_reducible apply Ts.q_un
  | with_reducible apply Ts.q_rU
  | with_reducible apply Ts.q_test
  | with_reducible apply Ts.q_tB
  | with_reducible apply Ts.q_bl
  | with_reducible apply Ts.q_eqI
  | with_reducible apply Ts.q_neI
  | with_reducible apply Ts.q_eqS
  | with_reducible apply Ts.q_neS
  | with_reducible apply Ts.q_eqB
  | with_reducible apply Ts.q_neB
  | with_reducible apply Ts.q_cons
  | with_reducible apply Ts.q_nil
  | with_reducible apply Ts.q_tup
  | with_reducible apply Ts.q_lst
  | with_reducible apply Ts.q_call
  | with_reducible apply Ts.q_callS
  | with_reducible apply Ts.q_callSD
  | with_reducible apply Ts.q_callSK
  | with_reducible apply Ts.q_CB
  | with_reducible apply Ts.q_bm
  | with_reducible apply Ts.q_bm0
  | with_reducible apply Ts.q_and
  | with_reducible apply Ts.q_or
  | with_reducible apply Ts.q_not
  | with_reducible apply Ts.q_andV
  | with_reducible apply Ts.q_orV
  | with_reducible apply Ts.q_notV
  | with_reducible apply Ts.q_ifE
  | with_reducible apply Ts.q_iteT
  | with_reducible apply Ts.q_iteF
  | with_reducible apply Ts.q_iteNT
  | with_reducible apply Ts.q_iteNF
  | ((with_reducible apply Ts.iteD_yes); (focus decide +kernel))
  | ((with_reducible apply Ts.iteD_no); (focus decide +kernel))
  | ((with_reducible apply Ts.iteN_yes); (focus decide +kernel))
  | ((with_reducible apply Ts.iteN_no); (focus decide +kernel))
  | ((with_reducible apply Ts.iteN_len); (focus rfl))
  | ((with_reducible apply Ts.q_lenL); (focus walk_at "ts sq"))
  | ((with_reducible apply Ts.q_lenT); (focus walk_at "ts sq"))
  | ((with_reducible apply Ts.q_max2); intro z z0 z1 zo)
  | ((with_reducible apply Ts.q_min2); intro z z0 z1 zo)
  | with_reducible apply Ts.q_for
  | with_reducible apply Ts.q_iList
  | with_reducible apply Ts.q_iTup
  | with_reducible apply Ts.q_iStr
  | with_reducible apply Ts.q_iRng1
  | with_reducible apply Ts.q_lc
  | with_reducible apply Ts.q_dget
  | with_reducible apply Ts.q_dget2
  | with_reducible apply Ts.q_dput
  | ((with_reducible apply Ts.q_dnew); intro d H2 hd sm ed)
  | ((with_reducible apply Ts.q_isD); (focus walk_at "ts hp"))
  | ((with_reducible apply Ts.q_tyL); (focus walk_at "ts hp"))
  | with_reducible apply Ts.q_yes
  | with_reducible apply Ts.q_sl
  | with_reducible apply Ts.q_noPart
  | with_reducible apply Ts.q_part
  | with_reducible apply Ts.q_partI
  | with_reducible apply Ts.q_intI
  | ((with_reducible apply Ts.q_intB); intro z z0 z1 zt zf)
  | ((with_reducible apply Ts.q_sort2); (focus walk_at "ts sq"); intro u v p H2 huv hor sm eo)
  | with_reducible apply Ts.q_isNN
  | with_reducible apply Ts.q_isNI
  | with_reducible apply Ts.q_isNR
  | with_reducible apply Ts.q_notNN
  | with_reducible apply Ts.q_notNI
  | with_reducible apply Ts.q_notNR
  | with_reducible apply Ts.q_isi_int_int
  | with_reducible apply Ts.q_isi_int_bool
  | with_reducible apply Ts.q_isi_str_str
  | ((with_reducible apply Ts.q_isi_tup_tup); (focus walk_at "ts hp"))
  | ((with_reducible apply Ts.q_isi_lst_lst); (focus walk_at "ts hp"))
  | walk_at "ts call"
  | walk_at "ts newo"
  | ((with_reducible apply Ts.q_ixL); (focus walk_at "ts sq"); (focus walk_at "ts at"))
  | ((with_reducible apply Ts.q_ixT); (focus walk_at "ts sq"); (focus walk_at "ts at")))
local macro_rules | `(tactic| walk_at "ts") => `(tactic| repeat walk_at "ts 1")
local macro_rules | `(tactic| walk_at "ts newo") => `(tactic| ((with_reducible refine And.intro (Ts.size_of ?hs) ?_); (case hs => exact Nat.le_of_ble_eq_true rfl); intro p hp; (generalize hG : L2.upd _ p _ = H2); have sm := hG ▸ Ts.same_upd hp; have eo := hG ▸ L2.upd_same; clear hG))
local macro_rules | `(tactic| walk_at "ts at") => `(tactic| first | exact Ts.at0 rfl | exact Ts.at1 rfl | exact Ts.at2 rfl | exact Ts.at3 rfl | exact Ts.at4 rfl)
local macro_rules | `(tactic| walk_at "ts allin") => `(tactic| (unfold Ts.AllIn; refine ⟨by omega, by omega, ?_⟩; first | walk_at "ts allin" | (unfold Ts.AllIn; trivial)))
local macro_rules | `(tactic| walk_at "ts if") => `(tactic| first | with_reducible refine Ts.q_iteD (fun h => ?_) (fun h => ?_) | with_reducible refine Ts.q_iteN (fun h => ?_) (fun h => ?_))
local macro_rules | `(tactic| walk_at "ts kill") => `(tactic| try (exfalso; omega; done))
local macro_rules | `(tactic| walk_at "ts all") => `(tactic| repeat' (first | walk_at "ts 1" | (walk_at "ts if" <;> walk_at "ts kill")))
local macro_rules | `(tactic| walk_at "ts ck") => `(tactic| first | assumption | (apply Ts.cks_step; (focus assumption); walk_at "ts ck") | (apply Ts.lts_step; (focus assumption); walk_at "ts ck") | (apply Ts.prs_step; (focus assumption); walk_at "ts ck"))
local macro_rules | `(tactic| walk_at "ts toif") => `(tactic| repeat ((fail_if_success (with_reducible apply Ts.q_ifS)); walk_at "ts 1"))



namespace Law
open PySem PySem.Spec PyProof.Rows L2 Ts
def topS (i : Nat) : Stmt := PySem.Challenge.pw_timestretch_k10_watches_kept.main.body.getD i (.Pass ⟨0, 0, 0, 0⟩)
abbrev s_is_name : Stmt := topS 17
abbrev s_checked : Stmt := topS 18
abbrev s_need_off : Stmt := topS 19
abbrev s_slack : Stmt := topS 20
abbrev s_brought : Stmt := topS 21
abbrev s_common : Stmt := topS 23
abbrev s_gathered : Stmt := topS 24
abbrev s_turns : Stmt := topS 26
abbrev s_parts : Stmt := topS 27
abbrev s_meets : Stmt := topS 29
abbrev s_sure : Stmt := topS 30
abbrev s_Watch_init : Stmt := inClass (topS 34) 0
abbrev s_Watch_put : Stmt := inClass (topS 34) 1
abbrev s_Watch_drop : Stmt := inClass (topS 34) 2
abbrev s_Watch_told : Stmt := inClass (topS 34) 3
abbrev s_l_whole : Stmt := topS 36
abbrev s_l_cell_at : Stmt := topS 37
abbrev s_l_mix : Stmt := topS 38
abbrev s_l_big : Stmt := topS 39
abbrev s_l_off : Stmt := topS 40
abbrev s_l_slack : Stmt := topS 41
abbrev s_l_brought : Stmt := topS 42
abbrev s_l_kind : Stmt := topS 43
abbrev s_l_word : Stmt := topS 44
abbrev s_l_names : Stmt := topS 45
abbrev s_l_letter : Stmt := topS 46
abbrev s_l_gathered : Stmt := topS 47
abbrev s_l_many : Stmt := topS 48
abbrev s_l_lows : Stmt := topS 49
abbrev s_l_edges : Stmt := topS 50
abbrev s_l_parts_right : Stmt := topS 51
abbrev s_l_due : Stmt := topS 52
abbrev s_l_sure_right : Stmt := topS 53
abbrev s_l_put_due : Stmt := topS 54
abbrev s_l_put : Stmt := topS 55
abbrev s_l_drop : Stmt := topS 56
abbrev s_l_ask : Stmt := topS 57
abbrev s_l_filled : Stmt := topS 58
abbrev s_l_deed : Stmt := topS 59
abbrev s_l_forty : Stmt := topS 60
abbrev s_l_no_watch : Stmt := topS 61
abbrev s_law : Stmt := topS 62
abbrev N_is_name : List Str := ["word", "sign"]
theorem sc_is_name : FnScope N_is_name ["word"] (defScope s_is_name) := ⟨rfl, rfl, rfl, by decide +kernel, rfl, by decide +kernel, by decide +kernel⟩
abbrev N_checked : List Str := ["letter", "name", "sent", "back", "low", "high", "number"]
theorem sc_checked : FnScope N_checked ["letter"] (defScope s_checked) := ⟨rfl, rfl, rfl, by decide +kernel, rfl, by decide +kernel, by decide +kernel⟩
abbrev N_need_off : List Str := ["off"]
theorem sc_need_off : FnScope N_need_off ["off"] (defScope s_need_off) := ⟨rfl, rfl, rfl, by decide +kernel, rfl, by decide +kernel, by decide +kernel⟩
abbrev N_slack : List Str := ["passed", "off"]
theorem sc_slack : FnScope N_slack ["passed", "off"] (defScope s_slack) := ⟨rfl, rfl, rfl, by decide +kernel, rfl, by decide +kernel, by decide +kernel⟩
abbrev N_brought : List Str := ["letter", "now", "off", "short", "long"]
theorem sc_brought : FnScope N_brought ["letter", "now", "off"] (defScope s_brought) := ⟨rfl, rfl, rfl, by decide +kernel, rfl, by decide +kernel, by decide +kernel⟩
abbrev N_common : List Str := ["one", "other", "low", "high"]
theorem sc_common : FnScope N_common ["one", "other"] (defScope s_common) := ⟨rfl, rfl, rfl, by decide +kernel, rfl, by decide +kernel, by decide +kernel⟩
abbrev N_gathered : List Str := ["letters", "now", "off", "stretches", "letter", "stretch", "name"]
theorem sc_gathered : FnScope N_gathered ["letters", "now", "off"] (defScope s_gathered) := ⟨rfl, rfl, rfl, by decide +kernel, rfl, by decide +kernel, by decide +kernel⟩
abbrev N_turns : List Str := ["clocks", "changes", "name", "stretch", "point"]
theorem sc_turns : FnScope N_turns ["clocks"] (defScope s_turns) := ⟨rfl, rfl, rfl, by decide +kernel, rfl, by decide +kernel, by decide +kernel⟩
abbrev N_parts : List Str := ["clocks", "need", "found", "many", "begin", "point", "change"]
theorem sc_parts : FnScope N_parts ["clocks", "need"] (defScope s_parts) := ⟨rfl, rfl, rfl, by decide +kernel, rfl, by decide +kernel, by decide +kernel⟩
abbrev N_meets : List Str := ["stretch", "some", "one"]
theorem sc_meets : FnScope N_meets ["stretch", "some"] (defScope s_meets) := ⟨rfl, rfl, rfl, by decide +kernel, rfl, by decide +kernel, by decide +kernel⟩
abbrev N_sure : List Str := ["letters", "now", "off", "bad", "clocks", "some", "wrong", "name", "stretch"]
theorem sc_sure : FnScope N_sure ["letters", "now", "off", "bad"] (defScope s_sure) := ⟨rfl, rfl, rfl, by decide +kernel, rfl, by decide +kernel, by decide +kernel⟩
abbrev N_Watch_init : List Str := ["self", "off"]
theorem sc_Watch_init : FnScope N_Watch_init ["self", "off"] (defScope s_Watch_init) := ⟨rfl, rfl, rfl, by decide +kernel, rfl, by decide +kernel, by decide +kernel⟩
abbrev N_Watch_put : List Str := ["self", "letter", "names", "one"]
theorem sc_Watch_put : FnScope N_Watch_put ["self", "letter"] (defScope s_Watch_put) := ⟨rfl, rfl, rfl, by decide +kernel, rfl, by decide +kernel, by decide +kernel⟩
abbrev N_Watch_drop : List Str := ["self", "name", "kept", "many", "one"]
theorem sc_Watch_drop : FnScope N_Watch_drop ["self", "name"] (defScope s_Watch_drop) := ⟨rfl, rfl, rfl, by decide +kernel, rfl, by decide +kernel, by decide +kernel⟩
abbrev N_Watch_told : List Str := ["self", "now", "bad"]
theorem sc_Watch_told : FnScope N_Watch_told ["self", "now", "bad"] (defScope s_Watch_told) := ⟨rfl, rfl, rfl, by decide +kernel, rfl, by decide +kernel, by decide +kernel⟩
abbrev N_l_whole : List Str := ["_law_found"]
theorem sc_l_whole : FnScope N_l_whole ["_law_found"] (defScope s_l_whole) := ⟨rfl, rfl, rfl, by decide +kernel, rfl, by decide +kernel, by decide +kernel⟩
abbrev N_l_cell_at : List Str := ["_law_script", "_law_k"]
theorem sc_l_cell_at : FnScope N_l_cell_at ["_law_script", "_law_k"] (defScope s_l_cell_at) := ⟨rfl, rfl, rfl, by decide +kernel, rfl, by decide +kernel, by decide +kernel⟩
abbrev N_l_mix : List Str := ["_law_cell", "_law_k", "_law_number"]
theorem sc_l_mix : FnScope N_l_mix ["_law_cell", "_law_k"] (defScope s_l_mix) := ⟨rfl, rfl, rfl, by decide +kernel, rfl, by decide +kernel, by decide +kernel⟩
abbrev N_l_big : List Str := ["_law_cell", "_law_k", "_law_number"]
theorem sc_l_big : FnScope N_l_big ["_law_cell", "_law_k"] (defScope s_l_big) := ⟨rfl, rfl, rfl, by decide +kernel, rfl, by decide +kernel, by decide +kernel⟩
abbrev N_l_off : List Str := ["_law_cell"]
theorem sc_l_off : FnScope N_l_off ["_law_cell"] (defScope s_l_off) := ⟨rfl, rfl, rfl, by decide +kernel, rfl, by decide +kernel, by decide +kernel⟩
abbrev N_l_slack : List Str := ["_law_passed", "_law_off_here", "_law_most"]
theorem sc_l_slack : FnScope N_l_slack ["_law_passed", "_law_off_here"] (defScope s_l_slack) := ⟨rfl, rfl, rfl, by decide +kernel, rfl, by decide +kernel, by decide +kernel⟩
abbrev N_l_brought : List Str := ["_law_letter_here", "_law_now", "_law_off_here", "_law_name", "_law_sent", "_law_back", "_law_low", "_law_high"]
theorem sc_l_brought : FnScope N_l_brought ["_law_letter_here", "_law_now", "_law_off_here"] (defScope s_l_brought) := ⟨rfl, rfl, rfl, by decide +kernel, rfl, by decide +kernel, by decide +kernel⟩
abbrev N_l_kind : List Str := ["_law_e", "_law_kinds", "_law_words"]
theorem sc_l_kind : FnScope N_l_kind ["_law_e"] (defScope s_l_kind) := ⟨rfl, rfl, rfl, by decide +kernel, rfl, by decide +kernel, by decide +kernel⟩
abbrev N_l_word : List Str := ["_law_cell", "_law_size", "_law_word_here", "_law_k"]
theorem sc_l_word : FnScope N_l_word ["_law_cell", "_law_size"] (defScope s_l_word) := ⟨rfl, rfl, rfl, by decide +kernel, rfl, by decide +kernel, by decide +kernel⟩
abbrev N_l_names : List Str := ["_law_cell", "_law_base", "_law_at", "_law_signs", "_law_k"]
theorem sc_l_names : FnScope N_l_names ["_law_cell"] (defScope s_l_names) := ⟨rfl, rfl, rfl, by decide +kernel, rfl, by decide +kernel, by decide +kernel⟩
abbrev N_l_letter : List Str := ["_law_cell", "_law_names_here", "_law_many_here", "_law_place", "_law_sent", "_law_back", "_law_near", "_law_low", "_law_high"]
theorem sc_l_letter : FnScope N_l_letter ["_law_cell", "_law_names_here", "_law_many_here"] (defScope s_l_letter) := ⟨rfl, rfl, rfl, by decide +kernel, rfl, by decide +kernel, by decide +kernel⟩
abbrev N_l_gathered : List Str := ["_law_letters", "_law_now", "_law_off_here", "_law_made", "_law_name", "_law_some", "_law_low", "_law_high", "_law_letter_here", "_law_one"]
theorem sc_l_gathered : FnScope N_l_gathered ["_law_letters", "_law_now", "_law_off_here"] (defScope s_l_gathered) := ⟨rfl, rfl, rfl, by decide +kernel, rfl, by decide +kernel, by decide +kernel⟩
abbrev N_l_many : List Str := ["_law_clocks", "_law_point", "_law_found", "_law_name", "_law_stretch"]
theorem sc_l_many : FnScope N_l_many ["_law_clocks", "_law_point"] (defScope s_l_many) := ⟨rfl, rfl, rfl, by decide +kernel, rfl, by decide +kernel, by decide +kernel⟩
abbrev N_l_lows : List Str := ["_law_clocks", "_law_name", "_law_stretch"]
theorem sc_l_lows : FnScope N_l_lows ["_law_clocks"] (defScope s_l_lows) := ⟨rfl, rfl, rfl, by decide +kernel, rfl, by decide +kernel, by decide +kernel⟩
abbrev N_l_edges : List Str := ["_law_clocks", "_law_made", "_law_name", "_law_stretch"]
theorem sc_l_edges : FnScope N_l_edges ["_law_clocks"] (defScope s_l_edges) := ⟨rfl, rfl, rfl, by decide +kernel, rfl, by decide +kernel, by decide +kernel⟩
abbrev N_l_parts_right : List Str := ["_law_clocks", "_law_need", "_law_found", "_law_ahead", "_law_one", "_law_point", "_law_held"]
theorem sc_l_parts_right : FnScope N_l_parts_right ["_law_clocks", "_law_need", "_law_found"] (defScope s_l_parts_right) := ⟨rfl, rfl, rfl, by decide +kernel, rfl, by decide +kernel, by decide +kernel⟩
abbrev N_l_due : List Str := ["_law_letters", "_law_now", "_law_off_here", "_law_few", "_law_clocks", "_law_lows_here", "_law_low"]
theorem sc_l_due : FnScope N_l_due ["_law_letters", "_law_now", "_law_off_here", "_law_few"] (defScope s_l_due) := ⟨rfl, rfl, rfl, by decide +kernel, rfl, by decide +kernel, by decide +kernel⟩
abbrev N_l_sure_right : List Str := ["_law_letters", "_law_now", "_law_off_here", "_law_few", "_law_found", "_law_clocks", "_law_need", "_law_low", "_law_high", "_law_wrong", "_law_some", "_law_due_here", "_law_name", "_law_stretch", "_law_one"]
theorem sc_l_sure_right : FnScope N_l_sure_right ["_law_letters", "_law_now", "_law_off_here", "_law_few", "_law_found"] (defScope s_l_sure_right) := ⟨rfl, rfl, rfl, by decide +kernel, rfl, by decide +kernel, by decide +kernel⟩
abbrev N_l_put_due : List Str := ["_law_own", "_law_letter_here", "_law_name", "_law_sent", "_law_back", "_law_low", "_law_high", "_law_some", "_law_one"]
theorem sc_l_put_due : FnScope N_l_put_due ["_law_own", "_law_letter_here"] (defScope s_l_put_due) := ⟨rfl, rfl, rfl, by decide +kernel, rfl, by decide +kernel, by decide +kernel⟩
abbrev N_l_put : List Str := ["_law_watch", "_law_own", "_law_letter_here", "_law_word_here", "_law_found", "_law_e"]
theorem sc_l_put : FnScope N_l_put ["_law_watch", "_law_own", "_law_letter_here"] (defScope s_l_put) := ⟨rfl, rfl, rfl, by decide +kernel, rfl, by decide +kernel, by decide +kernel⟩
abbrev N_l_drop : List Str := ["_law_watch", "_law_own", "_law_name", "_law_many_here", "_law_found", "_law_e", "_law_one"]
theorem sc_l_drop : FnScope N_l_drop ["_law_watch", "_law_own", "_law_name"] (defScope s_l_drop) := ⟨rfl, rfl, rfl, by decide +kernel, rfl, by decide +kernel, by decide +kernel⟩
abbrev N_l_ask : List Str := ["_law_watch", "_law_own", "_law_off_here", "_law_cell", "_law_held", "_law_now", "_law_few", "_law_word_here", "_law_found", "_law_e", "_law_one"]
theorem sc_l_ask : FnScope N_l_ask ["_law_watch", "_law_own", "_law_off_here", "_law_cell", "_law_held"] (defScope s_l_ask) := ⟨rfl, rfl, rfl, by decide +kernel, rfl, by decide +kernel, by decide +kernel⟩
abbrev N_l_filled : List Str := ["_law_watch", "_law_own", "_law_first", "_law_names_here", "_law_k", "_law_letter_here"]
theorem sc_l_filled : FnScope N_l_filled ["_law_watch", "_law_own", "_law_first", "_law_names_here"] (defScope s_l_filled) := ⟨rfl, rfl, rfl, by decide +kernel, rfl, by decide +kernel, by decide +kernel⟩
abbrev N_l_deed : List Str := ["_law_watch", "_law_own", "_law_off_here", "_law_cell", "_law_names_here", "_law_held", "_law_way", "_law_letter_here", "_law_wrong"]
theorem sc_l_deed : FnScope N_l_deed ["_law_watch", "_law_own", "_law_off_here", "_law_cell", "_law_names_here", "_law_held"] (defScope s_l_deed) := ⟨rfl, rfl, rfl, by decide +kernel, rfl, by decide +kernel, by decide +kernel⟩
abbrev N_l_forty : List Str := ["_law_watch", "_law_own", "_law_first", "_law_names_here", "_law_turn", "_law_name", "_law_letter_here"]
theorem sc_l_forty : FnScope N_l_forty ["_law_watch", "_law_own", "_law_first", "_law_names_here"] (defScope s_l_forty) := ⟨rfl, rfl, rfl, by decide +kernel, rfl, by decide +kernel, by decide +kernel⟩
abbrev N_l_no_watch : List Str := ["_law_off_here", "_law_e"]
theorem sc_l_no_watch : FnScope N_l_no_watch ["_law_off_here"] (defScope s_l_no_watch) := ⟨rfl, rfl, rfl, by decide +kernel, rfl, by decide +kernel, by decide +kernel⟩
abbrev N_law : List Str := ["_law_script", "_law_first", "_law_names_here", "_law_offs", "_law_watches", "_law_owns", "_law_held", "_law_cell", "_law_at", "_law_k", "_law_found", "_law_kept"]
theorem sc_law : FnScope N_law ["_law_script"] (defScope s_law) := ⟨rfl, rfl, rfl, by decide +kernel, rfl, by decide +kernel, by decide +kernel⟩
structure Lw (K : PySem.W.Frag) (mg : Str → Option Value) where
  f_is_name : Addr
  fd_is_name : FuncData
  d_is_name : Def K "is_name" "is_name" s_is_name ["word"] f_is_name fd_is_name
  m_is_name : mg "is_name" = some (.ref f_is_name)
  f_checked : Addr
  fd_checked : FuncData
  d_checked : Def K "checked" "checked" s_checked ["letter"] f_checked fd_checked
  m_checked : mg "checked" = some (.ref f_checked)
  f_need_off : Addr
  fd_need_off : FuncData
  d_need_off : Def K "need_off" "need_off" s_need_off ["off"] f_need_off fd_need_off
  m_need_off : mg "need_off" = some (.ref f_need_off)
  f_slack : Addr
  fd_slack : FuncData
  d_slack : Def K "slack" "slack" s_slack ["passed", "off"] f_slack fd_slack
  m_slack : mg "slack" = some (.ref f_slack)
  f_brought : Addr
  fd_brought : FuncData
  d_brought : Def K "brought" "brought" s_brought ["letter", "now", "off"] f_brought fd_brought
  m_brought : mg "brought" = some (.ref f_brought)
  f_common : Addr
  fd_common : FuncData
  d_common : Def K "common" "common" s_common ["one", "other"] f_common fd_common
  m_common : mg "common" = some (.ref f_common)
  f_gathered : Addr
  fd_gathered : FuncData
  d_gathered : Def K "gathered" "gathered" s_gathered ["letters", "now", "off"] f_gathered fd_gathered
  m_gathered : mg "gathered" = some (.ref f_gathered)
  f_turns : Addr
  fd_turns : FuncData
  d_turns : Def K "turns" "turns" s_turns ["clocks"] f_turns fd_turns
  m_turns : mg "turns" = some (.ref f_turns)
  f_parts : Addr
  fd_parts : FuncData
  d_parts : Def K "parts" "parts" s_parts ["clocks", "need"] f_parts fd_parts
  m_parts : mg "parts" = some (.ref f_parts)
  f_meets : Addr
  fd_meets : FuncData
  d_meets : Def K "meets" "meets" s_meets ["stretch", "some"] f_meets fd_meets
  m_meets : mg "meets" = some (.ref f_meets)
  f_sure : Addr
  fd_sure : FuncData
  d_sure : DefD K "sure" "sure" s_sure ["letters", "now", "off", "bad"] [.non] f_sure fd_sure
  m_sure : mg "sure" = some (.ref f_sure)
  f_Watch_init : Addr
  fd_Watch_init : FuncData
  d_Watch_init : Def K "__init__" "Watch.__init__" s_Watch_init ["self", "off"] f_Watch_init fd_Watch_init
  f_Watch_put : Addr
  fd_Watch_put : FuncData
  d_Watch_put : Def K "put" "Watch.put" s_Watch_put ["self", "letter"] f_Watch_put fd_Watch_put
  f_Watch_drop : Addr
  fd_Watch_drop : FuncData
  d_Watch_drop : Def K "drop" "Watch.drop" s_Watch_drop ["self", "name"] f_Watch_drop fd_Watch_drop
  f_Watch_told : Addr
  fd_Watch_told : FuncData
  d_Watch_told : DefD K "told" "Watch.told" s_Watch_told ["self", "now", "bad"] [.non] f_Watch_told fd_Watch_told
  kb_Watch_told : KBn K fd_Watch_told ["self", "now", "bad"] 2 ["bad"] (fun us ws => us ++ ws) (fun vs zs => vs ++ zs)
  f_l_whole : Addr
  fd_l_whole : FuncData
  d_l_whole : Def K "_law_whole" "_law_whole" s_l_whole ["_law_found"] f_l_whole fd_l_whole
  m_l_whole : mg "_law_whole" = some (.ref f_l_whole)
  f_l_cell_at : Addr
  fd_l_cell_at : FuncData
  d_l_cell_at : Def K "_law_cell_at" "_law_cell_at" s_l_cell_at ["_law_script", "_law_k"] f_l_cell_at fd_l_cell_at
  m_l_cell_at : mg "_law_cell_at" = some (.ref f_l_cell_at)
  f_l_mix : Addr
  fd_l_mix : FuncData
  d_l_mix : Def K "_law_mix" "_law_mix" s_l_mix ["_law_cell", "_law_k"] f_l_mix fd_l_mix
  m_l_mix : mg "_law_mix" = some (.ref f_l_mix)
  f_l_big : Addr
  fd_l_big : FuncData
  d_l_big : Def K "_law_big" "_law_big" s_l_big ["_law_cell", "_law_k"] f_l_big fd_l_big
  m_l_big : mg "_law_big" = some (.ref f_l_big)
  f_l_off : Addr
  fd_l_off : FuncData
  d_l_off : Def K "_law_off" "_law_off" s_l_off ["_law_cell"] f_l_off fd_l_off
  m_l_off : mg "_law_off" = some (.ref f_l_off)
  f_l_slack : Addr
  fd_l_slack : FuncData
  d_l_slack : Def K "_law_slack" "_law_slack" s_l_slack ["_law_passed", "_law_off_here"] f_l_slack fd_l_slack
  m_l_slack : mg "_law_slack" = some (.ref f_l_slack)
  f_l_brought : Addr
  fd_l_brought : FuncData
  d_l_brought : Def K "_law_brought" "_law_brought" s_l_brought ["_law_letter_here", "_law_now", "_law_off_here"] f_l_brought fd_l_brought
  m_l_brought : mg "_law_brought" = some (.ref f_l_brought)
  f_l_kind : Addr
  fd_l_kind : FuncData
  d_l_kind : Def K "_law_kind" "_law_kind" s_l_kind ["_law_e"] f_l_kind fd_l_kind
  m_l_kind : mg "_law_kind" = some (.ref f_l_kind)
  f_l_word : Addr
  fd_l_word : FuncData
  d_l_word : Def K "_law_word" "_law_word" s_l_word ["_law_cell", "_law_size"] f_l_word fd_l_word
  m_l_word : mg "_law_word" = some (.ref f_l_word)
  f_l_names : Addr
  fd_l_names : FuncData
  d_l_names : Def K "_law_names" "_law_names" s_l_names ["_law_cell"] f_l_names fd_l_names
  m_l_names : mg "_law_names" = some (.ref f_l_names)
  f_l_letter : Addr
  fd_l_letter : FuncData
  d_l_letter : Def K "_law_letter" "_law_letter" s_l_letter ["_law_cell", "_law_names_here", "_law_many_here"] f_l_letter fd_l_letter
  m_l_letter : mg "_law_letter" = some (.ref f_l_letter)
  f_l_gathered : Addr
  fd_l_gathered : FuncData
  d_l_gathered : Def K "_law_gathered" "_law_gathered" s_l_gathered ["_law_letters", "_law_now", "_law_off_here"] f_l_gathered fd_l_gathered
  m_l_gathered : mg "_law_gathered" = some (.ref f_l_gathered)
  f_l_many : Addr
  fd_l_many : FuncData
  d_l_many : Def K "_law_many" "_law_many" s_l_many ["_law_clocks", "_law_point"] f_l_many fd_l_many
  m_l_many : mg "_law_many" = some (.ref f_l_many)
  f_l_lows : Addr
  fd_l_lows : FuncData
  d_l_lows : Def K "_law_lows" "_law_lows" s_l_lows ["_law_clocks"] f_l_lows fd_l_lows
  m_l_lows : mg "_law_lows" = some (.ref f_l_lows)
  f_l_edges : Addr
  fd_l_edges : FuncData
  d_l_edges : Def K "_law_edges" "_law_edges" s_l_edges ["_law_clocks"] f_l_edges fd_l_edges
  m_l_edges : mg "_law_edges" = some (.ref f_l_edges)
  f_l_parts_right : Addr
  fd_l_parts_right : FuncData
  d_l_parts_right : Def K "_law_parts_right" "_law_parts_right" s_l_parts_right ["_law_clocks", "_law_need", "_law_found"] f_l_parts_right fd_l_parts_right
  m_l_parts_right : mg "_law_parts_right" = some (.ref f_l_parts_right)
  f_l_due : Addr
  fd_l_due : FuncData
  d_l_due : Def K "_law_due" "_law_due" s_l_due ["_law_letters", "_law_now", "_law_off_here", "_law_few"] f_l_due fd_l_due
  m_l_due : mg "_law_due" = some (.ref f_l_due)
  f_l_sure_right : Addr
  fd_l_sure_right : FuncData
  d_l_sure_right : Def K "_law_sure_right" "_law_sure_right" s_l_sure_right ["_law_letters", "_law_now", "_law_off_here", "_law_few", "_law_found"] f_l_sure_right fd_l_sure_right
  m_l_sure_right : mg "_law_sure_right" = some (.ref f_l_sure_right)
  f_l_put_due : Addr
  fd_l_put_due : FuncData
  d_l_put_due : Def K "_law_put_due" "_law_put_due" s_l_put_due ["_law_own", "_law_letter_here"] f_l_put_due fd_l_put_due
  m_l_put_due : mg "_law_put_due" = some (.ref f_l_put_due)
  f_l_put : Addr
  fd_l_put : FuncData
  d_l_put : Def K "_law_put" "_law_put" s_l_put ["_law_watch", "_law_own", "_law_letter_here"] f_l_put fd_l_put
  m_l_put : mg "_law_put" = some (.ref f_l_put)
  f_l_drop : Addr
  fd_l_drop : FuncData
  d_l_drop : Def K "_law_drop" "_law_drop" s_l_drop ["_law_watch", "_law_own", "_law_name"] f_l_drop fd_l_drop
  m_l_drop : mg "_law_drop" = some (.ref f_l_drop)
  f_l_ask : Addr
  fd_l_ask : FuncData
  d_l_ask : Def K "_law_ask" "_law_ask" s_l_ask ["_law_watch", "_law_own", "_law_off_here", "_law_cell", "_law_held"] f_l_ask fd_l_ask
  m_l_ask : mg "_law_ask" = some (.ref f_l_ask)
  f_l_filled : Addr
  fd_l_filled : FuncData
  d_l_filled : Def K "_law_filled" "_law_filled" s_l_filled ["_law_watch", "_law_own", "_law_first", "_law_names_here"] f_l_filled fd_l_filled
  m_l_filled : mg "_law_filled" = some (.ref f_l_filled)
  f_l_deed : Addr
  fd_l_deed : FuncData
  d_l_deed : Def K "_law_deed" "_law_deed" s_l_deed ["_law_watch", "_law_own", "_law_off_here", "_law_cell", "_law_names_here", "_law_held"] f_l_deed fd_l_deed
  m_l_deed : mg "_law_deed" = some (.ref f_l_deed)
  f_l_forty : Addr
  fd_l_forty : FuncData
  d_l_forty : Def K "_law_forty" "_law_forty" s_l_forty ["_law_watch", "_law_own", "_law_first", "_law_names_here"] f_l_forty fd_l_forty
  m_l_forty : mg "_law_forty" = some (.ref f_l_forty)
  f_l_no_watch : Addr
  fd_l_no_watch : FuncData
  d_l_no_watch : Def K "_law_no_watch" "_law_no_watch" s_l_no_watch ["_law_off_here"] f_l_no_watch fd_l_no_watch
  m_l_no_watch : mg "_law_no_watch" = some (.ref f_l_no_watch)
  f_law : Addr
  fd_law : FuncData
  d_law : Def K "law" "law" s_law ["_law_script"] f_law fd_law
  m_law : mg "law" = some (.ref f_law)
  c_SIGNS : ∃ t, mg "SIGNS" = some (.str "abcdefghijklmnopqrstuvwxyz" t)
  c_MOST_SIGNS : ∃ t, mg "MOST_SIGNS" = some (.int 12 t)
  c_GREATEST : ∃ t, mg "GREATEST" = some (.int 1000000000000 t)
  c_MOST_OFF : ∃ t, mg "MOST_OFF" = some (.int 999 t)
  c_MOST_LETTERS : ∃ t, mg "MOST_LETTERS" = some (.int 200 t)
  c_MOST_CLOCKS : ∃ t, mg "MOST_CLOCKS" = some (.int 40 t)
  n_ValueError : mg "ValueError" = none
  n_max : mg "max" = none
  n_min : mg "min" = none
  n_range : mg "range" = none
  n_sorted : mg "sorted" = none
  n_len : mg "len" = none
  n_list : mg "list" = none
  n_isinstance : mg "isinstance" = none
  n_int : mg "int" = none
  n_bool : mg "bool" = none
  n_tuple : mg "tuple" = none
  n_set : mg "set" = none
  C_StretchError : Addr
  m_StretchError : mg "StretchError" = some (.ref C_StretchError)
  C_BadName : Addr
  m_BadName : mg "BadName" = some (.ref C_BadName)
  C_BadLetter : Addr
  m_BadLetter : mg "BadLetter" = some (.ref C_BadLetter)
  C_BadOff : Addr
  m_BadOff : mg "BadOff" = some (.ref C_BadOff)
  C_TooEarly : Addr
  m_TooEarly : mg "TooEarly" = some (.ref C_TooEarly)
  C_BadCount : Addr
  m_BadCount : mg "BadCount" = some (.ref C_BadCount)
  C_NoAgreement : Addr
  m_NoAgreement : mg "NoAgreement" = some (.ref C_NoAgreement)
  C_TooWide : Addr
  m_TooWide : mg "TooWide" = some (.ref C_TooWide)
  C_TooMany : Addr
  m_TooMany : mg "TooMany" = some (.ref C_TooMany)
  C_NoClock : Addr
  m_NoClock : mg "NoClock" = some (.ref C_NoClock)
  C_NoText : Addr
  m_NoText : mg "NoText" = some (.ref C_NoText)
  C_Watch : Addr
  k_Watch : OwnC K mg "Watch" C_Watch f_Watch_init ["off", "letters"]
  w_Watch_put : Meth K C_Watch "put" f_Watch_put
  w_Watch_drop : Meth K C_Watch "drop" f_Watch_drop
  w_Watch_told : Meth K C_Watch "told" f_Watch_told
  x_BadName : ExK K C_BadName
  x_BadLetter : ExK K C_BadLetter
  x_BadOff : ExK K C_BadOff
  x_TooEarly : ExK K C_TooEarly
  x_BadCount : ExK K C_BadCount
  x_NoAgreement : ExK K C_NoAgreement
  x_TooMany : ExK K C_TooMany
  x_NoClock : ExK K C_NoClock
  t_BadName : PySem.W.exmOne K (.ref C_BadName) (.ref C_StretchError) = some true
  i_BadName_BadName : PySem.W.kitOne K (.ref C_BadName) (.ref C_BadName) = some true
  i_BadName_BadLetter : PySem.W.kitOne K (.ref C_BadName) (.ref C_BadLetter) = some false
  i_BadName_BadOff : PySem.W.kitOne K (.ref C_BadName) (.ref C_BadOff) = some false
  i_BadName_TooEarly : PySem.W.kitOne K (.ref C_BadName) (.ref C_TooEarly) = some false
  i_BadName_BadCount : PySem.W.kitOne K (.ref C_BadName) (.ref C_BadCount) = some false
  i_BadName_NoAgreement : PySem.W.kitOne K (.ref C_BadName) (.ref C_NoAgreement) = some false
  i_BadName_TooWide : PySem.W.kitOne K (.ref C_BadName) (.ref C_TooWide) = some false
  i_BadName_TooMany : PySem.W.kitOne K (.ref C_BadName) (.ref C_TooMany) = some false
  i_BadName_NoClock : PySem.W.kitOne K (.ref C_BadName) (.ref C_NoClock) = some false
  i_BadName_NoText : PySem.W.kitOne K (.ref C_BadName) (.ref C_NoText) = some false
  i_BadName_ValueError : PySem.W.kitOne K (.ref C_BadName) (.type "ValueError") = some true
  t_BadLetter : PySem.W.exmOne K (.ref C_BadLetter) (.ref C_StretchError) = some true
  i_BadLetter_BadName : PySem.W.kitOne K (.ref C_BadLetter) (.ref C_BadName) = some false
  i_BadLetter_BadLetter : PySem.W.kitOne K (.ref C_BadLetter) (.ref C_BadLetter) = some true
  i_BadLetter_BadOff : PySem.W.kitOne K (.ref C_BadLetter) (.ref C_BadOff) = some false
  i_BadLetter_TooEarly : PySem.W.kitOne K (.ref C_BadLetter) (.ref C_TooEarly) = some false
  i_BadLetter_BadCount : PySem.W.kitOne K (.ref C_BadLetter) (.ref C_BadCount) = some false
  i_BadLetter_NoAgreement : PySem.W.kitOne K (.ref C_BadLetter) (.ref C_NoAgreement) = some false
  i_BadLetter_TooWide : PySem.W.kitOne K (.ref C_BadLetter) (.ref C_TooWide) = some false
  i_BadLetter_TooMany : PySem.W.kitOne K (.ref C_BadLetter) (.ref C_TooMany) = some false
  i_BadLetter_NoClock : PySem.W.kitOne K (.ref C_BadLetter) (.ref C_NoClock) = some false
  i_BadLetter_NoText : PySem.W.kitOne K (.ref C_BadLetter) (.ref C_NoText) = some false
  i_BadLetter_ValueError : PySem.W.kitOne K (.ref C_BadLetter) (.type "ValueError") = some true
  t_BadOff : PySem.W.exmOne K (.ref C_BadOff) (.ref C_StretchError) = some true
  i_BadOff_BadName : PySem.W.kitOne K (.ref C_BadOff) (.ref C_BadName) = some false
  i_BadOff_BadLetter : PySem.W.kitOne K (.ref C_BadOff) (.ref C_BadLetter) = some false
  i_BadOff_BadOff : PySem.W.kitOne K (.ref C_BadOff) (.ref C_BadOff) = some true
  i_BadOff_TooEarly : PySem.W.kitOne K (.ref C_BadOff) (.ref C_TooEarly) = some false
  i_BadOff_BadCount : PySem.W.kitOne K (.ref C_BadOff) (.ref C_BadCount) = some false
  i_BadOff_NoAgreement : PySem.W.kitOne K (.ref C_BadOff) (.ref C_NoAgreement) = some false
  i_BadOff_TooWide : PySem.W.kitOne K (.ref C_BadOff) (.ref C_TooWide) = some false
  i_BadOff_TooMany : PySem.W.kitOne K (.ref C_BadOff) (.ref C_TooMany) = some false
  i_BadOff_NoClock : PySem.W.kitOne K (.ref C_BadOff) (.ref C_NoClock) = some false
  i_BadOff_NoText : PySem.W.kitOne K (.ref C_BadOff) (.ref C_NoText) = some false
  i_BadOff_ValueError : PySem.W.kitOne K (.ref C_BadOff) (.type "ValueError") = some true
  t_TooEarly : PySem.W.exmOne K (.ref C_TooEarly) (.ref C_StretchError) = some true
  i_TooEarly_BadName : PySem.W.kitOne K (.ref C_TooEarly) (.ref C_BadName) = some false
  i_TooEarly_BadLetter : PySem.W.kitOne K (.ref C_TooEarly) (.ref C_BadLetter) = some false
  i_TooEarly_BadOff : PySem.W.kitOne K (.ref C_TooEarly) (.ref C_BadOff) = some false
  i_TooEarly_TooEarly : PySem.W.kitOne K (.ref C_TooEarly) (.ref C_TooEarly) = some true
  i_TooEarly_BadCount : PySem.W.kitOne K (.ref C_TooEarly) (.ref C_BadCount) = some false
  i_TooEarly_NoAgreement : PySem.W.kitOne K (.ref C_TooEarly) (.ref C_NoAgreement) = some false
  i_TooEarly_TooWide : PySem.W.kitOne K (.ref C_TooEarly) (.ref C_TooWide) = some false
  i_TooEarly_TooMany : PySem.W.kitOne K (.ref C_TooEarly) (.ref C_TooMany) = some false
  i_TooEarly_NoClock : PySem.W.kitOne K (.ref C_TooEarly) (.ref C_NoClock) = some false
  i_TooEarly_NoText : PySem.W.kitOne K (.ref C_TooEarly) (.ref C_NoText) = some false
  i_TooEarly_ValueError : PySem.W.kitOne K (.ref C_TooEarly) (.type "ValueError") = some true
  t_BadCount : PySem.W.exmOne K (.ref C_BadCount) (.ref C_StretchError) = some true
  i_BadCount_BadName : PySem.W.kitOne K (.ref C_BadCount) (.ref C_BadName) = some false
  i_BadCount_BadLetter : PySem.W.kitOne K (.ref C_BadCount) (.ref C_BadLetter) = some false
  i_BadCount_BadOff : PySem.W.kitOne K (.ref C_BadCount) (.ref C_BadOff) = some false
  i_BadCount_TooEarly : PySem.W.kitOne K (.ref C_BadCount) (.ref C_TooEarly) = some false
  i_BadCount_BadCount : PySem.W.kitOne K (.ref C_BadCount) (.ref C_BadCount) = some true
  i_BadCount_NoAgreement : PySem.W.kitOne K (.ref C_BadCount) (.ref C_NoAgreement) = some false
  i_BadCount_TooWide : PySem.W.kitOne K (.ref C_BadCount) (.ref C_TooWide) = some false
  i_BadCount_TooMany : PySem.W.kitOne K (.ref C_BadCount) (.ref C_TooMany) = some false
  i_BadCount_NoClock : PySem.W.kitOne K (.ref C_BadCount) (.ref C_NoClock) = some false
  i_BadCount_NoText : PySem.W.kitOne K (.ref C_BadCount) (.ref C_NoText) = some false
  i_BadCount_ValueError : PySem.W.kitOne K (.ref C_BadCount) (.type "ValueError") = some true
  t_NoAgreement : PySem.W.exmOne K (.ref C_NoAgreement) (.ref C_StretchError) = some true
  i_NoAgreement_BadName : PySem.W.kitOne K (.ref C_NoAgreement) (.ref C_BadName) = some false
  i_NoAgreement_BadLetter : PySem.W.kitOne K (.ref C_NoAgreement) (.ref C_BadLetter) = some false
  i_NoAgreement_BadOff : PySem.W.kitOne K (.ref C_NoAgreement) (.ref C_BadOff) = some false
  i_NoAgreement_TooEarly : PySem.W.kitOne K (.ref C_NoAgreement) (.ref C_TooEarly) = some false
  i_NoAgreement_BadCount : PySem.W.kitOne K (.ref C_NoAgreement) (.ref C_BadCount) = some false
  i_NoAgreement_NoAgreement : PySem.W.kitOne K (.ref C_NoAgreement) (.ref C_NoAgreement) = some true
  i_NoAgreement_TooWide : PySem.W.kitOne K (.ref C_NoAgreement) (.ref C_TooWide) = some false
  i_NoAgreement_TooMany : PySem.W.kitOne K (.ref C_NoAgreement) (.ref C_TooMany) = some false
  i_NoAgreement_NoClock : PySem.W.kitOne K (.ref C_NoAgreement) (.ref C_NoClock) = some false
  i_NoAgreement_NoText : PySem.W.kitOne K (.ref C_NoAgreement) (.ref C_NoText) = some false
  i_NoAgreement_ValueError : PySem.W.kitOne K (.ref C_NoAgreement) (.type "ValueError") = some true
  t_TooMany : PySem.W.exmOne K (.ref C_TooMany) (.ref C_StretchError) = some true
  i_TooMany_BadName : PySem.W.kitOne K (.ref C_TooMany) (.ref C_BadName) = some false
  i_TooMany_BadLetter : PySem.W.kitOne K (.ref C_TooMany) (.ref C_BadLetter) = some false
  i_TooMany_BadOff : PySem.W.kitOne K (.ref C_TooMany) (.ref C_BadOff) = some false
  i_TooMany_TooEarly : PySem.W.kitOne K (.ref C_TooMany) (.ref C_TooEarly) = some false
  i_TooMany_BadCount : PySem.W.kitOne K (.ref C_TooMany) (.ref C_BadCount) = some false
  i_TooMany_NoAgreement : PySem.W.kitOne K (.ref C_TooMany) (.ref C_NoAgreement) = some false
  i_TooMany_TooWide : PySem.W.kitOne K (.ref C_TooMany) (.ref C_TooWide) = some false
  i_TooMany_TooMany : PySem.W.kitOne K (.ref C_TooMany) (.ref C_TooMany) = some true
  i_TooMany_NoClock : PySem.W.kitOne K (.ref C_TooMany) (.ref C_NoClock) = some false
  i_TooMany_NoText : PySem.W.kitOne K (.ref C_TooMany) (.ref C_NoText) = some false
  i_TooMany_ValueError : PySem.W.kitOne K (.ref C_TooMany) (.type "ValueError") = some true
  t_NoClock : PySem.W.exmOne K (.ref C_NoClock) (.ref C_StretchError) = some true
  i_NoClock_BadName : PySem.W.kitOne K (.ref C_NoClock) (.ref C_BadName) = some false
  i_NoClock_BadLetter : PySem.W.kitOne K (.ref C_NoClock) (.ref C_BadLetter) = some false
  i_NoClock_BadOff : PySem.W.kitOne K (.ref C_NoClock) (.ref C_BadOff) = some false
  i_NoClock_TooEarly : PySem.W.kitOne K (.ref C_NoClock) (.ref C_TooEarly) = some false
  i_NoClock_BadCount : PySem.W.kitOne K (.ref C_NoClock) (.ref C_BadCount) = some false
  i_NoClock_NoAgreement : PySem.W.kitOne K (.ref C_NoClock) (.ref C_NoAgreement) = some false
  i_NoClock_TooWide : PySem.W.kitOne K (.ref C_NoClock) (.ref C_TooWide) = some false
  i_NoClock_TooMany : PySem.W.kitOne K (.ref C_NoClock) (.ref C_TooMany) = some false
  i_NoClock_NoClock : PySem.W.kitOne K (.ref C_NoClock) (.ref C_NoClock) = some true
  i_NoClock_NoText : PySem.W.kitOne K (.ref C_NoClock) (.ref C_NoText) = some false
  i_NoClock_ValueError : PySem.W.kitOne K (.ref C_NoClock) (.type "ValueError") = some true

end Law


namespace Law
open PySem PySem.Spec PyProof.Rows L2 Ts
variable {P : Program} {w : World} {K : PySem.W.Frag} {mg : Str → Option Value} {base : Heap}

/-! ### a cell of the script -/
def cellAt (ns : List Int) (k : Int) : Int := if k < ns.length then ns.getD k.toNat 0 else 0
def sp_l_cell_at (K : PySem.W.Frag) : Sp := fun vs H Q _ => ∃ (a : Addr) (ns : List Int) (k : Int), vs = [.ref a, .int k] ∧ SqL K H a (ns.map V.int) ∧ 0 ≤ k ∧ Q (.int (cellAt ns k)) H
theorem c_l_cell_at {a : Addr} {ns : List Int} {k : Int} {H : Hp} {Q : VK} {E : XK} (h : SqL K H a (ns.map V.int)) (h0 : 0 ≤ k) (q : ∀ z, z = cellAt ns k → Q (.int z) H) : sp_l_cell_at K ([.ref a, .int k] ++ []) H Q E := ⟨a, ns, k, rfl, h, h0, q _ rfl⟩
theorem ok_l_cell_at (T : Lw K mg) : FnOk P w K mg base CX0 1 T.f_l_cell_at T.fd_l_cell_at ["_law_script", "_law_k"] (sp_l_cell_at K) := by
  refine T.d_l_cell_at.F.ok sc_l_cell_at (fun vs H Q E h => ?_) (fun cdv A outer s H vs Q E hr h => ?_)
  · obtain ⟨a, ns, k, rfl, _⟩ := h
    rfl
  · obtain ⟨a, ns, k, rfl, hs, h0, q⟩ := h
    refine ⟨_, (pss_cons (ps_if (pt_cmpR op_lt (pv 1) (pe_callB (Ts.call_lenK K) (by rfl) T.n_len (by decide +kernel) (pa_cons (pv 0) pa_nil)) (nomark _)) (pss_one (ps_ret (pe_ix (Ts.ix_listK K) (pv 0) (pv 1) (fun _ _ => rfl)))) pss_nil) (pss_one (ps_ret pe_int))), ?_⟩
    walk_at "ts"
    refine Ts.q_iteD (fun hk => ?_) (fun hk => ?_)
    · rw [List.length_map] at hk
      walk_at "ts"
      obtain ⟨j, rfl⟩ : ∃ j : Nat, k = (j : Int) := ⟨k.toNat, by omega⟩
      have hj : j < ns.length := by omega
      refine Ts.q_ixL hs (v := .int ns[j]) (atI_nat (by rw [List.getElem?_map, List.getElem?_eq_getElem hj]; rfl)) ?_
      have e : cellAt ns (j : Int) = ns[j] := by
        unfold cellAt
        rw [if_pos hk]
        simp [hj]
      rw [e] at q
      exact q
    · rw [List.length_map] at hk
      walk_at "ts"
      have e : cellAt ns k = 0 := by
        unfold cellAt
        rw [if_neg hk]
      rw [e] at q
      exact q
local macro_rules | `(tactic| walk_at "ts call") => `(tactic| ((with_reducible apply c_l_cell_at); (focus walk_at "ts sq"); (focus omega); intro z ez))

/-! ### a drawn number -/
def mixv (c k : Int) : Int := (c + 7919 * k + 1) * 48271 % 1000003 * ((c + 7919 * k + 1) * 48271 % 1000003) % 999983
def sp_l_mix : Sp := fun vs H Q _ => ∃ (c k : Int), vs = [.int c, .int k] ∧ Q (.int (mixv c k)) H
theorem c_l_mix {c k : Int} {H : Hp} {Q : VK} {E : XK} (q : ∀ z, z = mixv c k → 0 ≤ z → z < 999983 → Q (.int z) H) : sp_l_mix ([.int c, .int k] ++ []) H Q E :=
  ⟨c, k, rfl, q _ rfl (Int.emod_nonneg _ (by decide)) (Int.emod_lt_of_pos _ (by decide))⟩
theorem ok_l_mix (T : Lw K mg) : FnOk P w K mg base CX0 1 T.f_l_mix T.fd_l_mix ["_law_cell", "_law_k"] sp_l_mix := by
  refine T.d_l_mix.F.ok sc_l_mix (fun vs H Q E h => ?_) (fun cdv A outer s H vs Q E hr h => ?_)
  · obtain ⟨c, k, rfl, _⟩ := h
    rfl
  · obtain ⟨c, k, rfl, q⟩ := h
    refine ⟨_, (pss_cons (ps_asg (pe_op op_mod (pe_op op_mul (pe_op op_add (pe_op op_add (pv 0) (pe_op op_mul pe_int (pv 1))) pe_int) pe_int) pe_int) (pg_name (i := 2) sc_l_mix.nd rfl (by first | exact Or.inl rfl | exact Or.inr rfl))) (pss_one (ps_ret (pe_op op_mod (pe_op op_mul (pv 2) (pv 2)) pe_int)))), ?_⟩
    walk_at "ts"
    exact q
local macro_rules | `(tactic| walk_at "ts call") => `(tactic| ((with_reducible apply c_l_mix); intro z ez z0 z1))

/-! ### a drawn number to 10 ** 12 -/
def sp_l_big : Sp := fun vs H Q _ => ∃ (c k : Int), vs = [.int c, .int k] ∧ ∀ (z : Int) (H' : Hp), 0 ≤ z → z ≤ 1000000000000 → Same H H' → Q (.int z) H'
theorem c_l_big {c k : Int} {H : Hp} {Q : VK} {E : XK} (q : ∀ (z : Int) (H' : Hp), 0 ≤ z → z ≤ 1000000000000 → Same H H' → Q (.int z) H') : sp_l_big ([.int c, .int k] ++ []) H Q E := ⟨c, k, rfl, q⟩
theorem ok_l_big (T : Lw K mg) : FnOk P w K mg base CX0 2 T.f_l_big T.fd_l_big ["_law_cell", "_law_k"] sp_l_big := by
  refine T.d_l_big.F.ok sc_l_big (fun vs H Q E h => ?_) (fun cdv A outer s H vs Q E hr h => ?_)
  · obtain ⟨c, k, rfl, _⟩ := h
    rfl
  · obtain ⟨c, k, rfl, q⟩ := h
    refine ⟨_, (pss_cons (ps_asg (pe_call ((ok_l_mix T).mono (by decide)) hr rfl T.m_l_mix T.d_l_mix.F.kp T.d_l_mix.b .nil pass0 (pa_cons (pv 0) (pa_cons (pv 1) pa_nil))) (pg_name (i := 2) sc_l_big.nd rfl (by first | exact Or.inl rfl | exact Or.inr rfl))) (pss_cons (ps_if (pt_cmpR op_eq (pe_op op_mod (pe_call ((ok_l_mix T).mono (by decide)) hr rfl T.m_l_mix T.d_l_mix.F.kp T.d_l_mix.b .nil pass0 (pa_cons (pv 0) (pa_cons (pe_op op_add (pv 1) pe_int) pa_nil))) pe_int) pe_int (nomark _)) (pss_one (ps_ret (pe_op op_mod (pv 2) pe_int))) pss_nil) (pss_cons (ps_if (pt_cmpR op_eq (pe_op op_mod (pe_call ((ok_l_mix T).mono (by decide)) hr rfl T.m_l_mix T.d_l_mix.F.kp T.d_l_mix.b .nil pass0 (pa_cons (pv 0) (pa_cons (pe_op op_add (pv 1) pe_int) pa_nil))) pe_int) pe_int (nomark _)) (pss_one (ps_ret (pe_op op_mod (pv 2) pe_int))) pss_nil) (pss_cons (ps_if (pt_cmpR op_eq (pe_op op_mod (pe_call ((ok_l_mix T).mono (by decide)) hr rfl T.m_l_mix T.d_l_mix.F.kp T.d_l_mix.b .nil pass0 (pa_cons (pv 0) (pa_cons (pe_op op_add (pv 1) pe_int) pa_nil))) pe_int) pe_int (nomark _)) (pss_one (ps_ret (pe_ix (Ts.ix_listK K) (pe_lst (pa_cons pe_int (pa_cons pe_int (pa_cons (pe_op op_pow pe_int pe_int) (pa_cons (pe_op op_sub (pe_op op_pow pe_int pe_int) pe_int) pa_nil))))) (pe_op op_mod (pv 2) pe_int) (fun _ _ => rfl)))) pss_nil) (pss_one (ps_ret (pe_op op_mod (pe_op op_add (pe_op op_mul (pv 2) pe_int) (pe_call ((ok_l_mix T).mono (by decide)) hr rfl T.m_l_mix T.d_l_mix.F.kp T.d_l_mix.b .nil pass0 (pa_cons (pv 0) (pa_cons (pe_op op_add (pv 1) pe_int) pa_nil)))) (pe_op op_add (pe_op op_pow pe_int pe_int) pe_int)))))))), ?_⟩
    walk_at "ts"
    refine Ts.q_iteD (fun h1 => ?_) (fun h1 => ?_)
    · walk_at "ts"
      exact q _ _ (by omega) (by omega) (by walk_at "ts same")
    walk_at "ts"
    refine Ts.q_iteD (fun h1 => ?_) (fun h1 => ?_)
    · walk_at "ts"
      exact q _ _ (by omega) (by omega) (by walk_at "ts same")
    walk_at "ts"
    refine Ts.q_iteD (fun h1 => ?_) (fun h1 => ?_)
    · walk_at "ts"
      refine Ts.q_ixAny (by walk_at "ts sq") (by omega) (by simp; omega) fun v hv => ?_
      simp at hv
      rcases hv with rfl | rfl | rfl | rfl
      all_goals exact q _ _ (by omega) (by omega) (by walk_at "ts same")
    · walk_at "ts"
      exact q _ _ (by omega) (by omega) (by walk_at "ts same")
local macro_rules | `(tactic| walk_at "ts call") => `(tactic| ((with_reducible apply c_l_big); intro z H2 z0 z1 sz))

/-! ### drawn thousandths -/
def sp_l_off : Sp := fun vs H Q _ => ∃ (c : Int), vs = [.int c] ∧ ∀ (z : Int) (H' : Hp), 0 ≤ z → z ≤ 999 → Same H H' → Q (.int z) H'
theorem c_l_off {c : Int} {H : Hp} {Q : VK} {E : XK} (q : ∀ (z : Int) (H' : Hp), 0 ≤ z → z ≤ 999 → Same H H' → Q (.int z) H') : sp_l_off ([.int c] ++ []) H Q E := ⟨c, rfl, q⟩
theorem ok_l_off (T : Lw K mg) : FnOk P w K mg base CX0 2 T.f_l_off T.fd_l_off ["_law_cell"] sp_l_off := by
  refine T.d_l_off.F.ok sc_l_off (fun vs H Q E h => ?_) (fun cdv A outer s H vs Q E hr h => ?_)
  · obtain ⟨c, rfl, _⟩ := h
    rfl
  · obtain ⟨c, rfl, q⟩ := h
    refine ⟨_, (pss_one (ps_ret (pe_ix (Ts.ix_listK K) (pe_lst (pa_cons pe_int (pa_cons pe_int (pa_cons pe_int (pa_cons pe_int (pa_cons (pe_op op_mod (pe_call ((ok_l_mix T).mono (by decide)) hr rfl T.m_l_mix T.d_l_mix.F.kp T.d_l_mix.b .nil pass0 (pa_cons (pv 0) (pa_cons pe_int pa_nil))) pe_int) (pa_cons (pe_op op_mod (pe_call ((ok_l_mix T).mono (by decide)) hr rfl T.m_l_mix T.d_l_mix.F.kp T.d_l_mix.b .nil pass0 (pa_cons (pv 0) (pa_cons pe_int pa_nil))) pe_int) pa_nil))))))) (pe_op op_mod (pv 0) pe_int) (fun _ _ => rfl)))), ?_⟩
    walk_at "ts"
    refine Ts.q_ixAny (by walk_at "ts sq") (by omega) (by simp; omega) fun v hv => ?_
    simp at hv
    rcases hv with rfl | rfl | rfl | rfl | rfl
    all_goals exact q _ _ (by omega) (by omega) (by walk_at "ts same")
local macro_rules | `(tactic| walk_at "ts call") => `(tactic| ((with_reducible apply c_l_off); intro z H2 z0 z1 sz))

/-! ### whether a value is a whole number -/
def sp_l_whole : Sp := fun vs H Q _ => ∃ (z : Int), vs = [.int z] ∧ Q (.bl true) H
theorem c_l_whole {z : Int} {H : Hp} {Q : VK} {E : XK} (q : Q (.bl true) H) : sp_l_whole ([.int z] ++ []) H Q E := ⟨z, rfl, q⟩
theorem ok_l_whole (T : Lw K mg) : FnOk P w K mg base CX0 1 T.f_l_whole T.fd_l_whole ["_law_found"] sp_l_whole := by
  refine T.d_l_whole.F.ok sc_l_whole (fun vs H Q E h => ?_) (fun cdv A outer s H vs Q E hr h => ?_)
  · obtain ⟨z, rfl, _⟩ := h
    rfl
  · obtain ⟨z, rfl, q⟩ := h
    refine ⟨_, (pss_one (ps_ret (pe_and (pe_callB (Ts.call_isiK' K) (by rfl) T.n_isinstance (by decide +kernel) (pa_cons (pv 0) (pa_cons (pe_bltn (v := .ty "int") (by rfl) T.n_int (by decide +kernel) rfl) pa_nil))) (pe_one (pe_not (pe_callB (Ts.call_isiK' K) (by rfl) T.n_isinstance (by decide +kernel) (pa_cons (pv 0) (pa_cons (pe_bltn (v := .ty "bool") (by rfl) T.n_bool (by decide +kernel) rfl) pa_nil)))))))), ?_⟩
    walk_at "ts"
    exact q
local macro_rules | `(tactic| walk_at "ts call") => `(tactic| with_reducible apply c_l_whole)

/-! ### a drawn word -/
def sp_l_word : Sp := fun vs H Q _ => ∃ (c n : Int), vs = [.int c, .int n] ∧ 0 ≤ n ∧ n ≤ 1000 ∧ ∀ z : Str, (z.length : Int) = n → Low z → Q (.str z) H
theorem c_l_word {c n : Int} {H : Hp} {Q : VK} {E : XK} (h0 : 0 ≤ n) (h1 : n ≤ 1000) (q : ∀ z : Str, (z.length : Int) = n → Low z → Q (.str z) H) : sp_l_word ([.int c, .int n] ++ []) H Q E := ⟨c, n, rfl, h0, h1, q⟩
theorem ok_l_word (T : Lw K mg) : FnOk P w K mg base CX0 2 T.f_l_word T.fd_l_word ["_law_cell", "_law_size"] sp_l_word := by
  refine T.d_l_word.F.ok sc_l_word (fun vs H Q E h => ?_) (fun cdv A outer s H vs Q E hr h => ?_)
  · obtain ⟨c, n, rfl, _⟩ := h
    rfl
  · obtain ⟨c, n, rfl, h0, h1, q⟩ := h
    refine ⟨_, (pss_cons (ps_asg pe_str (pg_name (i := 2) sc_l_word.nd rfl (by first | exact Or.inl rfl | exact Or.inr rfl))) (pss_cons (ps_for PassesOwn.never rfl (pi_range1 (by rfl) T.n_range (pa_cons (pv 1) pa_nil)) (pg_name (i := 3) sc_l_word.nd rfl (by first | exact Or.inl rfl | exact Or.inr rfl)) (pss_one (ps_asg (pe_op Ts.op_addS (pv 2) (pe_ix ix_str pe_str (pe_op op_mod (pe_call ((ok_l_mix T).mono (by decide)) hr rfl T.m_l_mix T.d_l_mix.F.kp T.d_l_mix.b .nil pass0 (pa_cons (pv 0) (pa_cons (pe_op op_add (pv 3) pe_int) pa_nil))) pe_int) (fun _ _ => rfl))) (pg_name (i := 2) sc_l_word.nd rfl (by first | exact Or.inl rfl | exact Or.inr rfl))))) (pss_one (ps_ret (pv 2))))), ?_⟩
    walk_at "ts"
    refine Ts.q_forR h0 (by omega) (fun i σ' H' => H' = H ∧ ∃ (z : Str) (v : Option V), σ' = [some (.int c), some (.int n), some (.str z), v] ∧ z.length = i ∧ Low z) ⟨rfl, _, none, rfl, by decide +kernel, low_empty⟩ ?_ ?_
    · rintro i σ' H' hi ⟨rfl, z, v, rfl, hz, lz⟩
      walk_at "ts"
      refine Ts.q_ixAbc (by omega) (by omega) fun ch hch => ?_
      have l1 : (⟨#[ch]⟩ : Str).length = 1 := rfl
      refine Ts.q_addS (by omega) ?_
      refine ⟨rfl, _, _, rfl, ?_, lz.app (low_one (by omega) (by omega))⟩
      rw [PySem.strLen_append, l1, hz]
    · rintro σ' H' ⟨rfl, z, v, rfl, hz, lz⟩
      walk_at "ts"
      exact q z (by omega) lz
local macro_rules | `(tactic| walk_at "ts call") => `(tactic| ((with_reducible apply c_l_word); (focus omega); (focus omega); intro z hz lz))

/-! ### forty-two names -/
/-- the i-th name about a word and a place -/
def nameAt (b : Str) (k i : Nat) : Str := cutS b none (some (k : Int)) ++ ⟨#[97 + i % 26]⟩ ++ (if i < 26 then "" else "z") ++ cutS b (some (k : Int)) none
def nmList (b : Str) (k : Nat) : List Str := (List.range 42).map (nameAt b k)
theorem nameAt_low {b : Str} {k i : Nat} (h : Low b) : Low (nameAt b k i) := by
  unfold nameAt
  refine (((low_cut h).1.app (low_one (by omega) (by omega))).app ?_).app (low_cut h).2
  split
  · exact low_empty
  · exact low_z
theorem nameAt_tl (b : Str) (k i : Nat) : (nameAt b k i).cps.toList = b.cps.toList.take k ++ [97 + i % 26] ++ (if i < 26 then [] else [122]) ++ b.cps.toList.drop k := by
  unfold nameAt
  rw [tl_app, tl_app, tl_app, cut_hd, cut_tl]
  congr 2
  split
  · decide +kernel
  · decide +kernel
theorem nameAt_len (b : Str) (k i : Nat) : (nameAt b k i).length = b.length + (if i < 26 then 1 else 2) := by
  rw [tl_len, nameAt_tl, tl_len]
  have e := List.take_append_drop k b.cps.toList
  have e2 : (b.cps.toList.take k).length + (b.cps.toList.drop k).length = b.cps.toList.length := by rw [← List.length_append, e]
  simp only [List.length_append, List.length_cons, List.length_nil]
  split
  · simp only [List.length_nil]; omega
  · simp only [List.length_cons, List.length_nil]; omega
def sp_l_names : Sp := fun vs H Q _ => ∃ (c : Int), vs = [.int c] ∧ ∀ (b : Str) (k : Nat) (p : Addr) (H' : Hp), Low b → b.length ≤ 10 → Same H H' → H' p = some (.lst ((nmList b k).map V.str)) → Q (.ref p) H'
theorem c_l_names {c : Int} {H : Hp} {Q : VK} {E : XK} (q : ∀ (b : Str) (k : Nat) (p : Addr) (H' : Hp), Low b → b.length ≤ 10 → Same H H' → H' p = some (.lst ((nmList b k).map V.str)) → Q (.ref p) H') : sp_l_names ([.int c] ++ []) H Q E := ⟨c, rfl, q⟩
theorem ok_l_names (T : Lw K mg) : FnOk P w K mg base CX0 3 T.f_l_names T.fd_l_names ["_law_cell"] sp_l_names := by
  refine T.d_l_names.F.ok sc_l_names (fun vs H Q E h => ?_) (fun cdv A outer s H vs Q E hr h => ?_)
  · obtain ⟨c, rfl, _⟩ := h
    rfl
  · obtain ⟨c, rfl, q⟩ := h
    refine ⟨_, (pss_cons (ps_asg (pe_call ((ok_l_word T).mono (by decide)) hr rfl T.m_l_word T.d_l_word.F.kp T.d_l_word.b .nil pass0 (pa_cons (pv 0) (pa_cons (pe_op op_mod (pv 0) pe_int) pa_nil))) (pg_name (i := 1) sc_l_names.nd rfl (by first | exact Or.inl rfl | exact Or.inr rfl))) (pss_cons (ps_asg (pe_op op_mod (pe_call ((ok_l_mix T).mono (by decide)) hr rfl T.m_l_mix T.d_l_mix.F.kp T.d_l_mix.b .nil pass0 (pa_cons (pv 0) (pa_cons pe_int pa_nil))) pe_int) (pg_name (i := 2) sc_l_names.nd rfl (by first | exact Or.inl rfl | exact Or.inr rfl))) (pss_cons (ps_asg pe_str (pg_name (i := 3) sc_l_names.nd rfl (by first | exact Or.inl rfl | exact Or.inr rfl))) (pss_one (ps_ret (pe_lc (own := [("_law_k", 4)]) rfl sc_l_names.nd (pi_range1 (by rfl) T.n_range (pa_cons pe_int pa_nil)) (blkOk_by (own := [("_law_k", 4)]) (N := N_l_names) (sc := defScope s_l_names) (by decide +kernel)) (fun _ _ _ _ _ => pg_name (i := 4) sc_l_names.nd rfl (Or.inl rfl)) (fun _ _ _ _ _ => pts_nil) (fun _ _ _ _ _ => (pe_op Ts.op_addS (pe_op Ts.op_addS (pe_op Ts.op_addS (pe_slice (sl_str) (pv 1) po_none (po_some (pv 2))) (pe_ix ix_str (pv 3) (pe_op op_mod (pv 4) pe_int) (fun _ _ => rfl))) (pe_ix (Ts.ix_listK K) (pe_lst (pa_cons pe_str (pa_cons pe_str pa_nil))) (pe_op op_fdiv (pv 4) pe_int) (fun _ _ => rfl))) (pe_slice (sl_str) (pv 1) (po_some (pv 2)) po_none))))))))), ?_⟩
    walk_at "ts"
    rename_i b hb lb y ey y0 y1
    obtain ⟨k, hk⟩ : ∃ k : Nat, y % 11 = (k : Int) := ⟨(y % 11).toNat, by omega⟩
    rw [hk]
    refine Ts.q_lcR (by omega) (by omega) (fun _ => true) (fun i _ v => v = .str (nameAt b k i)) (fun _ _ _ _ _ h => h) ?_ ?_
    · intro i H' QB QV hi s1 _ qv
      walk_at "ts"
      refine ⟨rfl, ?_⟩
      walk_at "ts"
      refine Ts.q_slS (by omega) ?_
      walk_at "ts"
      refine Ts.q_ixAbc (by omega) (by omega) fun ch hch => ?_
      have l1 : (⟨#[ch]⟩ : Str).length = 1 := rfl
      have l2 := cutS_length b none (some (k : Int))
      have l3 := cutS_length b (some (k : Int)) none
      refine Ts.q_addS (by omega) ?_
      walk_at "ts"
      have ei : (i : Int) / 26 = ((i / 26 : Nat) : Int) := by omega
      have l4 := PySem.strLen_append (cutS b none (some (k : Int))) ⟨#[ch]⟩
      have l5 : ("z" : Str).length = 1 := by decide +kernel
      have l6 : ("" : Str).length = 0 := by decide +kernel
      have hch' : ch = 97 + i % 26 := by omega
      subst hch'
      by_cases hlt : i < 26
      · have e0 : i / 26 = 0 := by omega
        refine Ts.q_ixL (v := .str "") (by walk_at "ts sq") (by rw [ei, e0]; exact Ts.at0 rfl) ?_
        refine Ts.q_addS (by omega) ?_
        walk_at "ts"
        refine Ts.q_slS (by omega) ?_
        refine Ts.q_addS (by rw [PySem.strLen_append]; omega) ?_
        refine qv _ _ rfl (by walk_at "ts same") ?_
        unfold nameAt
        rw [if_pos hlt]
      · have e0 : i / 26 = 1 := by omega
        refine Ts.q_ixL (v := .str "z") (by walk_at "ts sq") (by rw [ei, e0]; exact Ts.at1 rfl) ?_
        refine Ts.q_addS (by omega) ?_
        walk_at "ts"
        refine Ts.q_slS (by omega) ?_
        refine Ts.q_addS (by rw [PySem.strLen_append]; omega) ?_
        refine qv _ _ rfl (by walk_at "ts same") ?_
        unfold nameAt
        rw [if_neg hlt]
    · intro ys D H' s1 hD hys pr
      rw [filt_all] at pr
      have e := paired_eq pr
      refine q b k D H' lb (by omega) s1 ?_
      rw [hys, e]
      unfold nmList
      rw [List.map_map]
      rfl
local macro_rules | `(tactic| walk_at "ts call") => `(tactic| ((with_reducible apply c_l_names); intro b k p H2 lb lb2 s2 hp))

/-! ### the law's own slack -/
def slackv (p f : Int) : Int := (p * f + 999) / 1000
theorem slack_eq (p f : Int) : slackv p f = if p * f / 1000 * 1000 < p * f then p * f / 1000 + 1 else p * f / 1000 := by
  unfold slackv
  split <;> omega
def sp_l_slack : Sp := fun vs H Q _ => ∃ (p f : Int), vs = [.int p, .int f] ∧ 0 ≤ f ∧ f ≤ 999 ∧ Q (.int (slackv p f)) H
theorem c_l_slack {p f : Int} {H : Hp} {Q : VK} {E : XK} (h0 : 0 ≤ f) (h1 : f ≤ 999) (q : Q (.int (slackv p f)) H) : sp_l_slack ([.int p, .int f] ++ []) H Q E := ⟨p, f, rfl, h0, h1, q⟩
theorem ok_l_slack (T : Lw K mg) : FnOk P w K mg base CX0 1 T.f_l_slack T.fd_l_slack ["_law_passed", "_law_off_here"] sp_l_slack := by
  refine T.d_l_slack.F.ok sc_l_slack (fun vs H Q E h => ?_) (fun cdv A outer s H vs Q E hr h => ?_)
  · obtain ⟨p, f, rfl, _⟩ := h
    rfl
  · obtain ⟨p, f, rfl, h0, h1, q⟩ := h
    refine ⟨_, (pss_cons (ps_asg (pe_op op_fdiv (pe_op op_mul (pv 0) (pv 1)) pe_int) (pg_name (i := 2) sc_l_slack.nd rfl (by first | exact Or.inl rfl | exact Or.inr rfl))) (pss_cons (ps_if (pt_cmpR op_lt (pe_op op_mul (pv 2) pe_int) (pe_op op_mul (pv 0) (pv 1)) (nomark _)) (pss_one (ps_asg (pe_op op_add (pv 2) pe_int) (pg_name (i := 2) sc_l_slack.nd rfl (by first | exact Or.inl rfl | exact Or.inr rfl)))) pss_nil) (pss_one (ps_ret (pv 2))))), ?_⟩
    walk_at "ts"
    rw [slack_eq] at q
    refine Ts.q_iteD (fun hk => ?_) (fun hk => ?_)
    · rw [if_pos hk] at q
      walk_at "ts"
      exact q
    · rw [if_neg hk] at q
      walk_at "ts"
      exact q
local macro_rules | `(tactic| walk_at "ts call") => `(tactic| ((with_reducible apply c_l_slack); (focus omega); (focus omega)))

/-! ### need_off: raises BadOff -/
def sp_need_off (CO : Addr) : Sp := fun vs H Q E => ∃ f : Int, vs = [.int f] ∧ (0 ≤ f → f ≤ 999 → Q .non H) ∧ (¬ (0 ≤ f ∧ f ≤ 999) → E (.ref CO) none H)
theorem ok_need_off (T : Lw K mg) : FnOk P w K mg base (L2.CX P w) 1 T.f_need_off T.fd_need_off ["off"] (sp_need_off T.C_BadOff) := by
  refine T.d_need_off.F.okX sc_need_off (fun vs H Q E h => ?_) (fun cdv A outer s H vs Q E hr h => ?_)
  · obtain ⟨f, rfl, _⟩ := h
    rfl
  · obtain ⟨f, rfl, q, e⟩ := h
    refine ⟨_, (pss_one (ps_if (PW.pt (pw_or (pt_cmpR op_lt (pv 0) pe_int (nomark _)) (pw_or1 (pt_cmpR op_gt (pv 0) (pe_glob (v := .int 999) rfl T.c_MOST_OFF.choose_spec ⟨_, rfl⟩) (nomark _))))) (pss_one (ps_raise rfl (takes_of rfl rfl rfl rfl) (T.x_BadOff.mk' T.m_BadOff rfl))) pss_nil)), ?_⟩
    walk_at "ts"
    refine Ts.q_iteD (fun h1 => ?_) (fun h1 => ?_)
    · walk_at "ts"
      exact e (by omega)
    walk_at "ts"
    refine Ts.q_iteD (fun h2 => ?_) (fun h2 => ?_)
    · walk_at "ts"
      exact e (by omega)
    · walk_at "ts"
      exact q (by omega) (by omega)

/-! ### slack -/
def sp_slack : Sp := fun vs H Q _ => ∃ (p f : Int), vs = [.int p, .int f] ∧ 0 ≤ f ∧ f ≤ 999 ∧ Q (.int (slackv p f)) H
theorem c_slack {p f : Int} {H : Hp} {Q : VK} {E : XK} (h0 : 0 ≤ f) (h1 : f ≤ 999) (q : Q (.int (slackv p f)) H) : sp_slack ([.int p, .int f] ++ []) H Q E := ⟨p, f, rfl, h0, h1, q⟩
theorem ok_slack (T : Lw K mg) : FnOk P w K mg base CX0 1 T.f_slack T.fd_slack ["passed", "off"] sp_slack := by
  refine T.d_slack.F.ok sc_slack (fun vs H Q E h => ?_) (fun cdv A outer s H vs Q E hr h => ?_)
  · obtain ⟨p, f, rfl, _⟩ := h
    rfl
  · obtain ⟨p, f, rfl, h0, h1, q⟩ := h
    refine ⟨_, (pss_one (ps_ret (pe_op op_fdiv (pe_op op_add (pe_op op_mul (pv 0) (pv 1)) pe_int) pe_int))), ?_⟩
    walk_at "ts"
    exact q
local macro_rules | `(tactic| walk_at "ts call") => `(tactic| ((with_reducible apply c_slack); (focus omega); (focus omega)))

end Law


namespace Law
open PySem PySem.Spec PyProof.Rows L2 Ts
variable {P : Program} {w : World} {K : PySem.W.Frag} {mg : Str → Option Value} {base : Heap}
local macro_rules | `(tactic| walk_at "ts call") => `(tactic| ((with_reducible apply c_l_cell_at); (focus walk_at "ts sq"); (focus omega); intro z ez))
local macro_rules | `(tactic| walk_at "ts call") => `(tactic| ((with_reducible apply c_l_mix); intro z ez z0 z1))
local macro_rules | `(tactic| walk_at "ts call") => `(tactic| ((with_reducible apply c_l_big); intro z H2 z0 z1 sz))
local macro_rules | `(tactic| walk_at "ts call") => `(tactic| ((with_reducible apply c_l_off); intro z H2 z0 z1 sz))
local macro_rules | `(tactic| walk_at "ts call") => `(tactic| with_reducible apply c_l_whole)
local macro_rules | `(tactic| walk_at "ts call") => `(tactic| ((with_reducible apply c_l_word); (focus omega); (focus omega); intro z hz lz))
local macro_rules | `(tactic| walk_at "ts call") => `(tactic| ((with_reducible apply c_l_names); intro b k p H2 lb lb2 s2 hp))
local macro_rules | `(tactic| walk_at "ts call") => `(tactic| ((with_reducible apply c_l_slack); (focus omega); (focus omega)))
local macro_rules | `(tactic| walk_at "ts call") => `(tactic| ((with_reducible apply c_slack); (focus omega); (focus omega)))

/-! ### brought -/
def bLow (L : Ltr) (now f : Int) : Int := L.low + (now - L.back) - slackv (now - L.back) f
def bHigh (L : Ltr) (now f : Int) : Int := L.high + (now - L.sent) + slackv (now - L.sent) f
def sp_brought (CO CE : Addr) : Sp := fun vs H Q E => ∃ (a : Addr) (L : Ltr) (n f : Int), vs = [.ref a, .int n, .int f] ∧ LtAt H a L ∧
  (0 ≤ f → f ≤ 999 → L.back ≤ n → ∀ b H', Same H H' → Pr H' b (bLow L n f) (bHigh L n f) → Q (.ref b) H') ∧ (¬ (0 ≤ f ∧ f ≤ 999) → E (.ref CO) none H) ∧ (0 ≤ f → f ≤ 999 → n < L.back → E (.ref CE) none H)
theorem ok_brought (T : Lw K mg) : FnOk P w K mg base (L2.CX P w) 2 T.f_brought T.fd_brought ["letter", "now", "off"] (sp_brought T.C_BadOff T.C_TooEarly) := by
  refine T.d_brought.F.okX sc_brought (fun vs H Q E h => ?_) (fun cdv A outer s H vs Q E hr h => ?_)
  · obtain ⟨a, L, n, f, rfl, _⟩ := h
    rfl
  · obtain ⟨a, L, n, f, rfl, ha, q, e1, e2⟩ := h
    have ha' : H a = some (.tup [.str L.name, .int L.sent, .int L.back, .int L.low, .int L.high]) := ha
    refine ⟨_, (pss_cons (ps_expr (pe_call ((ok_need_off T).mono (by decide)) hr rfl T.m_need_off T.d_need_off.F.kp T.d_need_off.b .nil (passes_call (takes_of rfl rfl rfl rfl) (fun _ _ _ _ h => h)) (pa_cons (pv 2) pa_nil))) (pss_cons (ps_if (pt_cmpR op_lt (pv 1) (pe_ix (Ts.ix_tupK K) (pv 0) pe_int (fun _ _ => rfl)) (nomark _)) (pss_one (ps_raise rfl (takes_of rfl rfl rfl rfl) (T.x_TooEarly.mk' T.m_TooEarly rfl))) pss_nil) (pss_cons (ps_asg (pe_op op_sub (pv 1) (pe_ix (Ts.ix_tupK K) (pv 0) pe_int (fun _ _ => rfl))) (pg_name (i := 3) sc_brought.nd rfl (by first | exact Or.inl rfl | exact Or.inr rfl))) (pss_cons (ps_asg (pe_op op_sub (pv 1) (pe_ix (Ts.ix_tupK K) (pv 0) pe_int (fun _ _ => rfl))) (pg_name (i := 4) sc_brought.nd rfl (by first | exact Or.inl rfl | exact Or.inr rfl))) (pss_one (ps_ret (pe_tup (pa_cons (pe_op op_sub (pe_op op_add (pe_ix (Ts.ix_tupK K) (pv 0) pe_int (fun _ _ => rfl)) (pv 3)) (pe_call ((ok_slack T).mono (by decide)) hr rfl T.m_slack T.d_slack.F.kp T.d_slack.b .nil pass0 (pa_cons (pv 3) (pa_cons (pv 2) pa_nil)))) (pa_cons (pe_op op_add (pe_op op_add (pe_ix (Ts.ix_tupK K) (pv 0) pe_int (fun _ _ => rfl)) (pv 4)) (pe_call ((ok_slack T).mono (by decide)) hr rfl T.m_slack T.d_slack.F.kp T.d_slack.b .nil pass0 (pa_cons (pv 4) (pa_cons (pv 2) pa_nil)))) pa_nil))))))))), ?_⟩
    walk_at "ts"
    refine ⟨f, rfl, fun f0 f1 => ?_, e1⟩
    walk_at "ts"
    refine Ts.q_iteD (fun h1 => ?_) (fun h1 => ?_)
    · walk_at "ts"
      exact e2 f0 f1 h1
    walk_at "ts"
    exact q f0 f1 (by omega) _ _ (by walk_at "ts same") (by unfold Pr; assumption)

/-! ### the law's own brought -/
def sp_l_brought : Sp := fun vs H Q _ => ∃ (a : Addr) (L : Ltr) (n f : Int), vs = [.ref a, .int n, .int f] ∧ LtAt H a L ∧ 0 ≤ f ∧ f ≤ 999 ∧ ∀ b H', Same H H' → Pr H' b (bLow L n f) (bHigh L n f) → Q (.ref b) H'
theorem c_l_brought {a : Addr} {m : Str} {u v l h n f : Int} {H : Hp} {Q : VK} {E : XK} (ha : H a = some (.tup [.str m, .int u, .int v, .int l, .int h])) (h0 : 0 ≤ f) (h1 : f ≤ 999) (q : ∀ b H', Same H H' → Pr H' b (bLow ⟨m, u, v, l, h⟩ n f) (bHigh ⟨m, u, v, l, h⟩ n f) → Q (.ref b) H') : sp_l_brought ([.ref a, .int n, .int f] ++ []) H Q E :=
  ⟨a, ⟨m, u, v, l, h⟩, n, f, rfl, ha, h0, h1, q⟩
theorem ok_l_brought (T : Lw K mg) : FnOk P w K mg base CX0 2 T.f_l_brought T.fd_l_brought ["_law_letter_here","_law_now","_law_off_here"] sp_l_brought := by
  refine T.d_l_brought.F.ok sc_l_brought (fun vs H Q E h => ?_) (fun cdv A outer s H vs Q E hr h => ?_)
  · obtain ⟨a, L, n, f, rfl, _⟩ := h
    rfl
  · obtain ⟨a, L, n, f, rfl, ha, f0, f1, q⟩ := h
    have ha' : H a = some (.tup [.str L.name, .int L.sent, .int L.back, .int L.low, .int L.high]) := ha
    refine ⟨_, (pss_cons (ps_asg (pv 0) (Ts.pg_tupK K 5 (by rfl) (pgs_cons (pg_name (i := 3) sc_l_brought.nd rfl (by first | exact Or.inl rfl | exact Or.inr rfl)) (pgs_cons (pg_name (i := 4) sc_l_brought.nd rfl (by first | exact Or.inl rfl | exact Or.inr rfl)) (pgs_cons (pg_name (i := 5) sc_l_brought.nd rfl (by first | exact Or.inl rfl | exact Or.inr rfl)) (pgs_cons (pg_name (i := 6) sc_l_brought.nd rfl (by first | exact Or.inl rfl | exact Or.inr rfl)) (pgs_cons (pg_name (i := 7) sc_l_brought.nd rfl (by first | exact Or.inl rfl | exact Or.inr rfl)) pgs_nil))))))) (pss_one (ps_ret (pe_tup (pa_cons (pe_op op_sub (pe_op op_sub (pe_op op_add (pv 6) (pv 1)) (pv 5)) (pe_call ((ok_l_slack T).mono (by decide)) hr rfl T.m_l_slack T.d_l_slack.F.kp T.d_l_slack.b .nil pass0 (pa_cons (pe_op op_sub (pv 1) (pv 5)) (pa_cons (pv 2) pa_nil)))) (pa_cons (pe_op op_add (pe_op op_sub (pe_op op_add (pv 7) (pv 1)) (pv 4)) (pe_call ((ok_l_slack T).mono (by decide)) hr rfl T.m_l_slack T.d_l_slack.F.kp T.d_l_slack.b .nil pass0 (pa_cons (pe_op op_sub (pv 1) (pv 4)) (pa_cons (pv 2) pa_nil)))) pa_nil)))))), ?_⟩
    walk_at "ts"
    exact q _ _ (by walk_at "ts same") (Pr.cong (by assumption) (by unfold bLow; omega) (by unfold bHigh; omega))
local macro_rules | `(tactic| walk_at "ts call") => `(tactic| ((with_reducible apply c_l_brought); (focus walk_at "ts hp"); (focus omega); (focus omega); intro b H2 s2 hb))

/-! ### common -/
def sp_common : Sp := fun vs H Q _ => ∃ (v : V) (b : Addr) (o : Stc) (p : Int × Int), vs = [v, .ref b] ∧ IsSt H v o ∧ Pr H b p.1 p.2 ∧ ∀ v' H', Same H H' → IsSt H' v' (Ts.common o p) → Q v' H'
theorem c_common {v : V} {b : Addr} {o : Stc} {p : Int × Int} {H : Hp} {Q : VK} {E : XK} (h : IsSt H v o) (hb : Pr H b p.1 p.2) (q : ∀ v' H', Same H H' → IsSt H' v' (Ts.common o p) → Q v' H') : sp_common ([v, .ref b] ++ []) H Q E := ⟨v, b, o, p, rfl, h, hb, q⟩
theorem ok_common (T : Lw K mg) : FnOk P w K mg base CX0 1 T.f_common T.fd_common ["one", "other"] sp_common := by
  refine T.d_common.F.ok sc_common (fun vs H Q E h => ?_) (fun cdv A outer s H vs Q E hr h => ?_)
  · obtain ⟨v, b, o, p, rfl, _⟩ := h
    rfl
  · obtain ⟨v, b, o, p, rfl, hv, hb, q⟩ := h
    have hb' : H b = some (.tup [.int p.1, .int p.2]) := hb
    refine ⟨_, (pss_cons (ps_if (pt_cmpR op_isN1 (pv 0) pe_non (nomark _)) (pss_one (ps_ret pe_non)) pss_nil) (pss_cons (ps_asg (pe_callB (call_max2' rfl) (by rfl) T.n_max (by decide +kernel) (pa_cons (pe_ix (Ts.ix_tupK K) (pv 0) pe_int (fun _ _ => rfl)) (pa_cons (pe_ix (Ts.ix_tupK K) (pv 1) pe_int (fun _ _ => rfl)) pa_nil))) (pg_name (i := 2) sc_common.nd rfl (by first | exact Or.inl rfl | exact Or.inr rfl))) (pss_cons (ps_asg (pe_callB (call_min2' rfl) (by rfl) T.n_min (by decide +kernel) (pa_cons (pe_ix (Ts.ix_tupK K) (pv 0) pe_int (fun _ _ => rfl)) (pa_cons (pe_ix (Ts.ix_tupK K) (pv 1) pe_int (fun _ _ => rfl)) pa_nil))) (pg_name (i := 3) sc_common.nd rfl (by first | exact Or.inl rfl | exact Or.inr rfl))) (pss_cons (ps_if (pt_cmpR op_gt (pv 2) (pv 3) (nomark _)) (pss_one (ps_ret pe_non)) pss_nil) (pss_one (ps_ret (pe_tup (pa_cons (pv 2) (pa_cons (pv 3) pa_nil))))))))), ?_⟩
    cases o with
    | none =>
      cases hv
      walk_at "ts"
      exact q _ _ (Same.refl _) rfl
    | some a =>
      obtain ⟨c, rfl, hc⟩ := hv
      walk_at "ts"
      rename_i lo lo0 lo1 loo hi hi0 hi1 hio
      have el : lo = max a.1 p.1 := by omega
      have eh : hi = min a.2 p.2 := by omega
      subst el eh
      refine Ts.q_iteD (fun h1 => ?_) (fun h1 => ?_)
      · walk_at "ts"
        exact q _ _ (Same.refl _) (by rw [Ts.common_no (by omega)]; rfl)
      · walk_at "ts"
        exact q _ _ (by assumption) (by rw [Ts.common_yes (by omega)]; exact ⟨_, rfl, by assumption⟩)

/-! ### gathered -/
def stOf (n f : Int) (L : Ltr) : Int × Int := (bLow L n f, bHigh L n f)
def sp_gathered (CO CE : Addr) : Sp := fun vs H Q E => ∃ (a : Addr) (xs : List V) (ls : List Ltr) (n f : Int), vs = [.ref a, .int n, .int f] ∧ H a = some (.lst xs) ∧ Lts H xs ls ∧ ls.length ≤ 1000 ∧
  (0 ≤ f → f ≤ 999 → (∀ L ∈ ls, L.back ≤ n) → ∀ ys p H', Same H H' → H p = none → H' p = some (.lst ys) → Cks H' ys (gathL (stOf n f) ls) → Q (.ref p) H') ∧ (¬ (0 ≤ f ∧ f ≤ 999) → E (.ref CO) none H) ∧ (0 ≤ f → f ≤ 999 → (∃ L ∈ ls, n < L.back) → ∀ H', Same H H' → E (.ref CE) none H')
theorem ok_gathered (T : Lw K mg) : FnOk P w K mg base (L2.CX P w) 3 T.f_gathered T.fd_gathered ["letters", "now", "off"] (sp_gathered T.C_BadOff T.C_TooEarly) := by
  refine T.d_gathered.F.okX sc_gathered (fun vs H Q E h => ?_) (fun cdv A outer s H vs Q E hr h => ?_)
  · obtain ⟨a, xs, ls, n, f, rfl, _⟩ := h
    rfl
  · obtain ⟨a, xs, ls, n, f, rfl, ha, hl, hlen, q, e1, e2⟩ := h
    have hlx := Paired.len hl
    refine ⟨_, (pss_cons (ps_expr (pe_call ((ok_need_off T).mono (by decide)) hr rfl T.m_need_off T.d_need_off.F.kp T.d_need_off.b .nil (passes_call (takes_of rfl rfl rfl rfl) (fun _ _ _ _ h => h)) (pa_cons (pv 2) pa_nil))) (pss_cons (ps_asg pe_dnewK (pg_name (i := 3) sc_gathered.nd rfl (by first | exact Or.inl rfl | exact Or.inr rfl))) (pss_cons (ps_for (passes_of rfl) rfl (Ts.pi_listK K (pv 0)) (pg_name (i := 4) sc_gathered.nd rfl (by first | exact Or.inl rfl | exact Or.inr rfl)) (pss_cons (ps_asg (pe_call ((ok_brought T).mono (by decide)) hr rfl T.m_brought T.d_brought.F.kp T.d_brought.b .nil (passes_call (takes_of rfl rfl rfl rfl) (fun _ _ _ _ h => h)) (pa_cons (pv 4) (pa_cons (pv 1) (pa_cons (pv 2) pa_nil)))) (pg_name (i := 5) sc_gathered.nd rfl (by first | exact Or.inl rfl | exact Or.inr rfl))) (pss_cons (ps_if (pt_cmp (pc_din (hu_of hr) (pe_ix (Ts.ix_tupK K) (pv 4) pe_int (fun _ _ => rfl)) (pv 3)) rfl) (pss_one (ps_asg (pe_call ((ok_common T).mono (by decide)) hr rfl T.m_common T.d_common.F.kp T.d_common.b .nil pass0 (pa_cons (pe_dget (hu_of hr) (pv 3) (pe_ix (Ts.ix_tupK K) (pv 4) pe_int (fun _ _ => rfl)) (fun _ _ => rfl)) (pa_cons (pv 5) pa_nil))) (pg_name (i := 5) sc_gathered.nd rfl (by first | exact Or.inl rfl | exact Or.inr rfl)))) pss_nil) (pss_one (ps_dput (hu_of hr) (pv 3) (pe_ix (Ts.ix_tupK K) (pv 4) pe_int (fun _ _ => rfl)) (pv 5) rfl))))) (pss_one (ps_ret (pe_lock (pe_lc (own := [("name", 6)]) rfl sc_gathered.nd (pi_keys (pv 3)) (blkOk_by (own := [("name", 6)]) (N := N_gathered) (sc := defScope s_gathered) (by decide +kernel)) (fun _ _ _ _ _ => pg_name (i := 6) sc_gathered.nd rfl (Or.inl rfl)) (fun _ _ _ _ _ => pts_nil) (fun _ _ _ _ _ => (pe_tup (pa_cons (pv 6) (pa_cons (pe_dget (hu_of hr) (pv 3) (pv 6) (fun _ _ => rfl)) pa_nil))))))))))), ?_⟩
    walk_at "ts"
    refine ⟨f, rfl, fun f0 f1 => ?_, e1⟩
    walk_at "ts"
    rename_i d H0 hd s0 ed
    refine Ts.q_forL xs (sqL_of (s0 _ _ ha)) (fun i σ' H' => ∃ (kvs : List (Key × V)) (v4 v5 : Option V), σ' = [some (.ref a), some (.int n), some (.int f), some (.ref d), v4, v5, none] ∧ Same H H' ∧ H' d = some (.dK kvs) ∧ GInv (stOf n f) H' (ls.take i) kvs ∧ ∀ L ∈ ls.take i, L.back ≤ n)
      ⟨[], none, none, rfl, s0, ed, ginv_nil, by simp⟩ (fun i σ' H' ⟨_, _, _, _, s, _⟩ => sqL_of (s _ _ ha)) ?_ ?_
    · rintro i x σ' H' hx ⟨kvs, v4, v5, rfl, sH, hdk, hg, hb⟩
      obtain ⟨L, hLi, a', rfl, hL⟩ := Paired.at_ (hl.mono (tsame_of sH)) hx
      have hL' : H' a' = some (.tup [.str L.name, .int L.sent, .int L.back, .int L.low, .int L.high]) := hL
      have hil : i < xs.length := (List.getElem?_eq_some_iff.mp hx).1
      have hkl := hg.len
      rw [List.length_take] at hkl
      walk_at "ts"
      refine ⟨a', L, n, f, rfl, hL, fun _ _ hbk b H2 s2 pb => ?_, fun h => absurd ⟨f0, f1⟩ h, fun _ _ hlt => e2 f0 f1 ⟨L, List.mem_of_getElem? hLi, hlt⟩ _ sH⟩
      have hd2 : H2 d = some (.dK kvs) := s2 _ _ hdk
      have hL2 : H2 a' = some (.tup [.str L.name, .int L.sent, .int L.back, .int L.low, .int L.high]) := s2 _ _ hL'
      have hg2 := hg.mono (tsame_of s2)
      walk_at "ts"
      refine Ts.q_din ?_
      walk_at "ts"
      refine Ts.q_dinS hd2 ?_
      cases e : gval (psOf (stOf n f) L.name (ls.take i)) with
      | none =>
        rw [hg2.no _ e]
        rw [show (none : Option V).isSome = false from rfl]
        walk_at "ts"
        refine Ts.q_dputS hd2 (by omega) ?_
        have t := tsame_dK (ys := putK kvs (.inr L.name) (.ref b)) hd2
        exact ⟨_, _, _, rfl, same_mut (sH.trans s2) hd, upd_same, by rw [take_snoc hLi]; exact (ginv_put (c := some (stOf n f L)) hg2 (by rw [e]; rfl) ⟨b, rfl, pb⟩).mono t, take_all hLi hbk hb⟩
      | some c =>
        obtain ⟨v, hv, hst⟩ := hg2.yes _ _ e
        rw [hv]
        rw [show (some v : Option V).isSome = true from rfl]
        walk_at "ts"
        refine Ts.q_dgetS hd2 hv ?_
        walk_at "ts"
        refine c_common (p := stOf n f L) hst pb fun v' H3 s3 hst' => ?_
        have hd3 : H3 d = some (.dK kvs) := s3 _ _ hd2
        have hL3 : H3 a' = some (.tup [.str L.name, .int L.sent, .int L.back, .int L.low, .int L.high]) := s3 _ _ hL2
        walk_at "ts"
        refine Ts.q_dputS hd3 (by omega) ?_
        have t := tsame_dK (ys := putK kvs (.inr L.name) v') hd3
        exact ⟨_, _, _, rfl, same_mut ((sH.trans s2).trans s3) hd, upd_same, by rw [take_snoc hLi]; exact (ginv_put (hg2.mono (tsame_of s3)) (by rw [e]; rfl) hst').mono t, take_all hLi hbk hb⟩
    · rintro σ' H' ⟨kvs, v4, v5, rfl, sH, hdk, hg, hb⟩
      rw [hlx, List.take_length] at hg hb
      walk_at "ts"
      refine Ts.q_lockKeys rfl hdk (by have := hg.len; omega) (fun _ => true) (fun i H v => ∃ c, (gathL (stOf n f) ls)[i]? = some c ∧ IsCk H v c) (fun i y H1 H2 s ⟨c, h1, h2⟩ => ⟨c, h1, h2.mono s⟩) ?_ ?_
      · intro i k v0 H2 QB QV hk hrd t2 _ qv
        obtain ⟨nm, c, v, rfl, hgi, hv, hst⟩ := hg.at_ hk
        rw [show kV (Sum.inr nm) = V.str nm from rfl]
        walk_at "ts"
        refine ⟨rfl, ?_⟩
        walk_at "ts"
        refine Ts.q_dgetR hrd hv ?_
        walk_at "ts"
        rename_i pt hpt H4 s4 e4
        exact qv _ _ rfl s4 ⟨(nm, c), hgi, _, v, rfl, e4, (hst.mono t2).mono (tsame_of s4)⟩
      · intro ys D H2 s2 hD hys pr
        rw [filt_all, hg.len2] at pr
        exact q f0 f1 hb ys D H2 (sH.trans s2) (Same.free sH hD) hys (Ts.paired_range pr)

/-! ### is_name -/
def sp_is_name : Sp := fun vs H Q _ => ∃ z : Str, vs = [.str z] ∧ z.length ≤ 1000 ∧ (IsName z → Q (.bl true) H) ∧ (¬ IsName z → Q (.bl false) H)
theorem c_is_name {z : Str} {H : Hp} {Q : VK} {E : XK} (hz : z.length ≤ 1000) (q1 : IsName z → Q (.bl true) H) (q0 : ¬ IsName z → Q (.bl false) H) : sp_is_name ([.str z] ++ []) H Q E := ⟨z, rfl, hz, q1, q0⟩
theorem ok_is_name (T : Lw K mg) : FnOk P w K mg base CX0 1 T.f_is_name T.fd_is_name ["word"] sp_is_name := by
  refine T.d_is_name.F.ok sc_is_name (fun vs H Q E h => ?_) (fun cdv A outer s H vs Q E hr h => ?_)
  · obtain ⟨z, rfl, _⟩ := h
    rfl
  · obtain ⟨z, rfl, hz, q1, q0⟩ := h
    refine ⟨_, (pss_cons (ps_if (PW.pt (pw_or (pt_cmpR op_lt (pe_callB (Ts.call_lenK K) (by rfl) T.n_len (by decide +kernel) (pa_cons (pv 0) pa_nil)) pe_int (nomark _)) (pw_or1 (pt_cmpR op_gt (pe_callB (Ts.call_lenK K) (by rfl) T.n_len (by decide +kernel) (pa_cons (pv 0) pa_nil)) (pe_glob (v := .int 12) rfl T.c_MOST_SIGNS.choose_spec ⟨_, rfl⟩) (nomark _))))) (pss_one (ps_ret pe_bl)) pss_nil) (pss_cons (ps_for PassesOwn.never rfl (pi_str (pv 0)) (pg_name (i := 1) sc_is_name.nd rfl (by first | exact Or.inl rfl | exact Or.inr rfl)) (pss_one (ps_if (pt_cmpR op_notInS (pv 1) (pe_glob (v := .str "abcdefghijklmnopqrstuvwxyz") rfl T.c_SIGNS.choose_spec ⟨_, rfl⟩) rfl) (pss_one (ps_ret pe_bl)) pss_nil))) (pss_one (ps_ret pe_bl)))), ?_⟩
    walk_at "ts"
    refine Ts.q_lenS (Ts.size_of (by omega)) ?_
    walk_at "ts"
    refine Ts.q_iteD (fun h1 => ?_) (fun h1 => ?_)
    · walk_at "ts"
      exact q0 fun h => by have := h.1; omega
    walk_at "ts"
    refine Ts.q_lenS (Ts.size_of (by omega)) ?_
    walk_at "ts"
    refine Ts.q_iteD (fun h2 => ?_) (fun h2 => ?_)
    · walk_at "ts"
      exact q0 fun h => by have := h.2.1; omega
    walk_at "ts"
    refine Ts.q_forS (fun i σ' H' => H' = H ∧ ∃ v : Option V, σ' = [some (.str z), v] ∧ ∀ c ∈ z.cps.toList.take i, 97 ≤ c ∧ c ≤ 122) ⟨rfl, none, rfl, by simp⟩ ?_ ?_
    · rintro i c σ' H' hc ⟨rfl, v, rfl, hl⟩
      walk_at "ts"
      refine Ts.q_notInS ?_
      walk_at "ts"
      refine Ts.q_iteN (fun h3 => ?_) (fun h3 => ?_)
      · walk_at "ts"
        exact q0 fun h => h3 (mem_abc.mpr (h.2.2 c (List.mem_of_getElem? hc)))
      · walk_at "ts"
        exact ⟨rfl, _, rfl, take_all hc (mem_abc.mp h3) hl⟩
    · rintro σ' H' ⟨rfl, v, rfl, hl⟩
      walk_at "ts"
      exact q1 ⟨by omega, by omega, fun c hc => hl c (by rw [List.take_length]; exact hc)⟩

/-! ### checked -/
def sp_checked (CN CL : Addr) : Sp := fun vs H Q E => ∃ (a : Addr) (L : Ltr), vs = [.ref a] ∧ LtAt H a L ∧ L.name.length ≤ 1000 ∧
  (IsName L.name → Good L → ∀ H', Same H H' → Q (.ref a) H') ∧ (¬ IsName L.name → E (.ref CN) none H) ∧ (IsName L.name → ¬ Good L → ∀ H', Same H H' → E (.ref CL) none H')
theorem ok_checked (T : Lw K mg) : FnOk P w K mg base (L2.CX P w) 2 T.f_checked T.fd_checked ["letter"] (sp_checked T.C_BadName T.C_BadLetter) := by
  refine T.d_checked.F.okX sc_checked (fun vs H Q E h => ?_) (fun cdv A outer s H vs Q E hr h => ?_)
  · obtain ⟨a, L, rfl, _⟩ := h
    rfl
  · obtain ⟨a, L, rfl, ha, hlen, q, e1, e2⟩ := h
    have ha' : H a = some (.tup [.str L.name, .int L.sent, .int L.back, .int L.low, .int L.high]) := ha
    refine ⟨_, (pss_cons (ps_asg (pv 0) (Ts.pg_tupK K 5 (by rfl) (pgs_cons (pg_name (i := 1) sc_checked.nd rfl (by first | exact Or.inl rfl | exact Or.inr rfl)) (pgs_cons (pg_name (i := 2) sc_checked.nd rfl (by first | exact Or.inl rfl | exact Or.inr rfl)) (pgs_cons (pg_name (i := 3) sc_checked.nd rfl (by first | exact Or.inl rfl | exact Or.inr rfl)) (pgs_cons (pg_name (i := 4) sc_checked.nd rfl (by first | exact Or.inl rfl | exact Or.inr rfl)) (pgs_cons (pg_name (i := 5) sc_checked.nd rfl (by first | exact Or.inl rfl | exact Or.inr rfl)) pgs_nil))))))) (pss_cons (ps_if (pt_not (pt_val (pe_call ((ok_is_name T).mono (by decide)) hr rfl T.m_is_name T.d_is_name.F.kp T.d_is_name.b .nil pass0 (pa_cons (pv 1) pa_nil)))) (pss_one (ps_raise rfl (takes_of rfl rfl rfl rfl) (T.x_BadName.mk' T.m_BadName rfl))) pss_nil) (pss_cons (ps_for (passes_of rfl) rfl (Ts.pi_tupK K (pe_tup (pa_cons (pv 2) (pa_cons (pv 3) (pa_cons (pv 4) (pa_cons (pv 5) pa_nil)))))) (pg_name (i := 6) sc_checked.nd rfl (by first | exact Or.inl rfl | exact Or.inr rfl)) (pss_one (ps_if (PW.pt (pw_or (pt_cmpR op_lt (pv 6) pe_int (nomark _)) (pw_or1 (pt_cmpR op_gt (pv 6) (pe_glob (v := .int 1000000000000) rfl T.c_GREATEST.choose_spec ⟨_, rfl⟩) (nomark _))))) (pss_one (ps_raise rfl (takes_of rfl rfl rfl rfl) (T.x_BadLetter.mk' T.m_BadLetter rfl))) pss_nil))) (pss_cons (ps_if (PW.pt (pw_or (pt_cmpR op_gt (pv 2) (pv 3) (nomark _)) (pw_or1 (pt_cmpR op_gt (pv 4) (pv 5) (nomark _))))) (pss_one (ps_raise rfl (takes_of rfl rfl rfl rfl) (T.x_BadLetter.mk' T.m_BadLetter rfl))) pss_nil) (pss_one (ps_ret (pv 0))))))), ?_⟩
    walk_at "ts"
    refine c_is_name hlen (fun hn => ?_) (fun hn => ?_)
    · walk_at "ts"
      rename_i pt hpt Ht st et
      refine Ts.q_forT ([L.sent, L.back, L.low, L.high].map V.int) (sqT_of et) (fun i σ' H' => H' = Ht ∧ ∃ v : Option V, σ' = [some (.ref a), some (.str L.name), some (.int L.sent), some (.int L.back), some (.int L.low), some (.int L.high), v] ∧ ∀ x ∈ [L.sent, L.back, L.low, L.high].take i, NumOk x)
        ⟨rfl, none, rfl, by simp⟩ (fun i σ' H' ⟨e, _⟩ => by rw [e]; exact sqT_of et) ?_ ?_
      · rintro i x σ' H' hx ⟨rfl, v, rfl, hl⟩
        obtain ⟨t, ht, rfl⟩ := map_at hx
        walk_at "ts"
        refine Ts.q_iteD (fun h1 => ?_) (fun h1 => ?_)
        · walk_at "ts"
          exact e2 hn (fun g => by have := (g.mem t (List.mem_of_getElem? ht)).1; omega) _ st
        walk_at "ts"
        refine Ts.q_iteD (fun h2 => ?_) (fun h2 => ?_)
        · walk_at "ts"
          exact e2 hn (fun g => by have := (g.mem t (List.mem_of_getElem? ht)).2; omega) _ st
        · walk_at "ts"
          exact ⟨rfl, _, rfl, take_all ht ⟨by omega, by omega⟩ hl⟩
      · rintro σ' H' ⟨rfl, v, rfl, hl⟩
        have hl : ∀ x ∈ [L.sent, L.back, L.low, L.high], NumOk x := hl
        walk_at "ts"
        refine Ts.q_iteD (fun h1 => ?_) (fun h1 => ?_)
        · walk_at "ts"
          exact e2 hn (fun g => by have := g.2.2.2.2.1; omega) _ st
        walk_at "ts"
        refine Ts.q_iteD (fun h2 => ?_) (fun h2 => ?_)
        · walk_at "ts"
          exact e2 hn (fun g => by have := g.2.2.2.2.2; omega) _ st
        · walk_at "ts"
          exact q hn (Good.of hl (by omega) (by omega)) _ st
    · walk_at "ts"
      exact e1 hn

end Law


namespace Law
open PySem PySem.Spec PyProof.Rows L2 Ts
variable {P : Program} {w : World} {K : PySem.W.Frag} {mg : Str → Option Value} {base : Heap}
local macro_rules | `(tactic| walk_at "ts call") => `(tactic| ((with_reducible apply c_l_cell_at); (focus walk_at "ts sq"); (focus omega); intro z ez))
local macro_rules | `(tactic| walk_at "ts call") => `(tactic| ((with_reducible apply c_l_mix); intro z ez z0 z1))
local macro_rules | `(tactic| walk_at "ts call") => `(tactic| ((with_reducible apply c_l_big); intro z H2 z0 z1 sz))
local macro_rules | `(tactic| walk_at "ts call") => `(tactic| ((with_reducible apply c_l_off); intro z H2 z0 z1 sz))
local macro_rules | `(tactic| walk_at "ts call") => `(tactic| with_reducible apply c_l_whole)
local macro_rules | `(tactic| walk_at "ts call") => `(tactic| ((with_reducible apply c_l_word); (focus omega); (focus omega); intro z hz lz))
local macro_rules | `(tactic| walk_at "ts call") => `(tactic| ((with_reducible apply c_l_names); intro b k p H2 lb lb2 s2 hp))
local macro_rules | `(tactic| walk_at "ts call") => `(tactic| ((with_reducible apply c_l_slack); (focus omega); (focus omega)))
local macro_rules | `(tactic| walk_at "ts call") => `(tactic| ((with_reducible apply c_slack); (focus omega); (focus omega)))
local macro_rules | `(tactic| walk_at "ts call") => `(tactic| ((with_reducible apply c_l_brought); (focus walk_at "ts hp"); (focus omega); (focus omega); intro b H2 s2 hb))

/-! ### a drawn letter, all that it keeps -/
def sp_l_letter (K : PySem.W.Frag) : Sp := fun vs H Q _ => ∃ (c : Int) (a : Addr) (nm : List Str) (m : Int), vs = [.int c, .ref a, .int m] ∧ SqL K H a (nm.map V.str) ∧ m ≤ nm.length ∧ 1 ≤ m ∧ ∀ L b H', Same H H' → LtAt H' b L → L.name ∈ nm → Good L → Q (.ref b) H'
theorem c_l_letter {c : Int} {a : Addr} {nm : List Str} {m : Int} {H : Hp} {Q : VK} {E : XK} (h : SqL K H a (nm.map V.str)) (h1 : m ≤ nm.length) (h3 : 1 ≤ m) (q : ∀ L b H', Same H H' → LtAt H' b L → L.name ∈ nm → Good L → Q (.ref b) H') : sp_l_letter K ([.int c, .ref a, .int m] ++ []) H Q E := ⟨c, a, nm, m, rfl, h, h1, h3, q⟩
theorem ok_l_letter (T : Lw K mg) : FnOk P w K mg base CX0 3 T.f_l_letter T.fd_l_letter ["_law_cell", "_law_names_here", "_law_many_here"] (sp_l_letter K) := by
  refine T.d_l_letter.F.ok sc_l_letter (fun vs H Q E h => ?_) (fun cdv A outer s H vs Q E hr h => ?_)
  · obtain ⟨c, a, nm, m, rfl, _⟩ := h
    rfl
  · obtain ⟨c, a, nm, m, rfl, hs, h1, h3, q⟩ := h
    refine ⟨_, (pss_cons (ps_asg (pe_op op_mod (pe_call ((ok_l_mix T).mono (by decide)) hr rfl T.m_l_mix T.d_l_mix.F.kp T.d_l_mix.b .nil pass0 (pa_cons (pv 0) (pa_cons pe_int pa_nil))) (pv 2)) (pg_name (i := 3) sc_l_letter.nd rfl (by first | exact Or.inl rfl | exact Or.inr rfl))) (pss_cons (ps_asg (pe_op op_mod (pe_call ((ok_l_mix T).mono (by decide)) hr rfl T.m_l_mix T.d_l_mix.F.kp T.d_l_mix.b .nil pass0 (pa_cons (pv 0) (pa_cons pe_int pa_nil))) pe_int) (pg_name (i := 4) sc_l_letter.nd rfl (by first | exact Or.inl rfl | exact Or.inr rfl))) (pss_cons (ps_asg (pe_op op_add (pv 4) (pe_op op_mod (pe_call ((ok_l_mix T).mono (by decide)) hr rfl T.m_l_mix T.d_l_mix.F.kp T.d_l_mix.b .nil pass0 (pa_cons (pv 0) (pa_cons pe_int pa_nil))) (pe_ix (Ts.ix_listK K) (pe_lst (pa_cons pe_int (pa_cons pe_int (pa_cons pe_int pa_nil)))) (pe_op op_mod (pe_call ((ok_l_mix T).mono (by decide)) hr rfl T.m_l_mix T.d_l_mix.F.kp T.d_l_mix.b .nil pass0 (pa_cons (pv 0) (pa_cons pe_int pa_nil))) pe_int) (fun _ _ => rfl)))) (pg_name (i := 5) sc_l_letter.nd rfl (by first | exact Or.inl rfl | exact Or.inr rfl))) (pss_cons (ps_asg (pe_op op_add (pe_op op_add pe_int (pv 4)) (pe_ix (Ts.ix_listK K) (pe_lst (pa_cons pe_int (pa_cons pe_int (pa_cons pe_int (pa_cons pe_int (pa_cons pe_int (pa_cons pe_int (pa_cons pe_int pa_nil)))))))) (pe_op op_mod (pv 3) pe_int) (fun _ _ => rfl))) (pg_name (i := 6) sc_l_letter.nd rfl (by first | exact Or.inl rfl | exact Or.inr rfl))) (pss_cons (ps_asg (pe_op op_sub (pe_op op_add (pv 6) (pe_op op_mod (pe_call ((ok_l_mix T).mono (by decide)) hr rfl T.m_l_mix T.d_l_mix.F.kp T.d_l_mix.b .nil pass0 (pa_cons (pv 0) (pa_cons pe_int pa_nil))) pe_int)) pe_int) (pg_name (i := 7) sc_l_letter.nd rfl (by first | exact Or.inl rfl | exact Or.inr rfl))) (pss_cons (ps_asg (pe_op op_add (pv 6) (pe_op op_mod (pe_call ((ok_l_mix T).mono (by decide)) hr rfl T.m_l_mix T.d_l_mix.F.kp T.d_l_mix.b .nil pass0 (pa_cons (pv 0) (pa_cons pe_int pa_nil))) pe_int)) (pg_name (i := 8) sc_l_letter.nd rfl (by first | exact Or.inl rfl | exact Or.inr rfl))) (pss_cons (ps_if (pt_cmpR op_eq (pe_op op_mod (pe_call ((ok_l_mix T).mono (by decide)) hr rfl T.m_l_mix T.d_l_mix.F.kp T.d_l_mix.b .nil pass0 (pa_cons (pv 0) (pa_cons pe_int pa_nil))) pe_int) pe_int (nomark _)) (pss_cons (ps_asg (pv 4) (pg_name (i := 5) sc_l_letter.nd rfl (by first | exact Or.inl rfl | exact Or.inr rfl))) (pss_cons (ps_asg (pe_op op_add (pv 6) (pe_op op_mul (pe_op op_mod (pe_call ((ok_l_mix T).mono (by decide)) hr rfl T.m_l_mix T.d_l_mix.F.kp T.d_l_mix.b .nil pass0 (pa_cons (pv 0) (pa_cons pe_int pa_nil))) pe_int) pe_int)) (pg_name (i := 7) sc_l_letter.nd rfl (by first | exact Or.inl rfl | exact Or.inr rfl))) (pss_one (ps_asg (pe_op op_add (pv 7) (pe_op op_mul (pe_op op_mod (pe_call ((ok_l_mix T).mono (by decide)) hr rfl T.m_l_mix T.d_l_mix.F.kp T.d_l_mix.b .nil pass0 (pa_cons (pv 0) (pa_cons pe_int pa_nil))) pe_int) pe_int)) (pg_name (i := 8) sc_l_letter.nd rfl (by first | exact Or.inl rfl | exact Or.inr rfl)))))) pss_nil) (pss_cons (ps_asg (pe_callB (Ts.cr_sortedK K) (by rfl) T.n_sorted (by decide +kernel) (pa_cons (pe_lst (pa_cons (pv 7) (pa_cons (pv 8) pa_nil))) pa_nil)) (Ts.pg_lstK K 2 rfl (pgs_cons (pg_name (i := 7) sc_l_letter.nd rfl (by first | exact Or.inl rfl | exact Or.inr rfl)) (pgs_cons (pg_name (i := 8) sc_l_letter.nd rfl (by first | exact Or.inl rfl | exact Or.inr rfl)) pgs_nil)))) (pss_cons (ps_if (pt_cmpR op_eq (pe_op op_mod (pe_call ((ok_l_mix T).mono (by decide)) hr rfl T.m_l_mix T.d_l_mix.F.kp T.d_l_mix.b .nil pass0 (pa_cons (pv 0) (pa_cons pe_int pa_nil))) pe_int) pe_int (nomark _)) (pss_one (ps_asg (pe_callB (Ts.cr_sortedK K) (by rfl) T.n_sorted (by decide +kernel) (pa_cons (pe_lst (pa_cons (pe_call ((ok_l_big T).mono (by decide)) hr rfl T.m_l_big T.d_l_big.F.kp T.d_l_big.b .nil pass0 (pa_cons (pv 0) (pa_cons pe_int pa_nil))) (pa_cons (pe_call ((ok_l_big T).mono (by decide)) hr rfl T.m_l_big T.d_l_big.F.kp T.d_l_big.b .nil pass0 (pa_cons (pv 0) (pa_cons pe_int pa_nil))) pa_nil))) pa_nil)) (Ts.pg_lstK K 2 rfl (pgs_cons (pg_name (i := 7) sc_l_letter.nd rfl (by first | exact Or.inl rfl | exact Or.inr rfl)) (pgs_cons (pg_name (i := 8) sc_l_letter.nd rfl (by first | exact Or.inl rfl | exact Or.inr rfl)) pgs_nil))))) pss_nil) (pss_cons (ps_if (pt_cmpR op_eq (pe_op op_mod (pe_call ((ok_l_mix T).mono (by decide)) hr rfl T.m_l_mix T.d_l_mix.F.kp T.d_l_mix.b .nil pass0 (pa_cons (pv 0) (pa_cons pe_int pa_nil))) pe_int) pe_int (nomark _)) (pss_one (ps_asg (pe_callB (Ts.cr_sortedK K) (by rfl) T.n_sorted (by decide +kernel) (pa_cons (pe_lst (pa_cons (pe_call ((ok_l_big T).mono (by decide)) hr rfl T.m_l_big T.d_l_big.F.kp T.d_l_big.b .nil pass0 (pa_cons (pv 0) (pa_cons pe_int pa_nil))) (pa_cons (pe_call ((ok_l_big T).mono (by decide)) hr rfl T.m_l_big T.d_l_big.F.kp T.d_l_big.b .nil pass0 (pa_cons (pv 0) (pa_cons pe_int pa_nil))) pa_nil))) pa_nil)) (Ts.pg_lstK K 2 rfl (pgs_cons (pg_name (i := 4) sc_l_letter.nd rfl (by first | exact Or.inl rfl | exact Or.inr rfl)) (pgs_cons (pg_name (i := 5) sc_l_letter.nd rfl (by first | exact Or.inl rfl | exact Or.inr rfl)) pgs_nil))))) pss_nil) (pss_one (ps_ret (pe_tup (pa_cons (pe_ix (Ts.ix_listK K) (pv 1) (pv 3) (fun _ _ => rfl)) (pa_cons (pv 4) (pa_cons (pv 5) (pa_cons (pv 7) (pa_cons (pv 8) pa_nil)))))))))))))))))), ?_⟩
    walk_at "ts"
    refine Ts.q_ixB 1 60 (by walk_at "ts sq") (by omega) (by simp; omega) (by walk_at "ts allin") fun wd w0 w1 => ?_
    walk_at "ts"
    refine Ts.q_ixB 0 600 (by walk_at "ts sq") (by omega) (by simp; omega) (by walk_at "ts allin") fun nr n0 n1 => ?_
    rename_i pz epz pz0 pz1 sz esz sz0 sz1 bz ebz bz0 bz1 _ _ _ _ _ _ _ _ _ _ _ _ _ _
    have hp0 : 0 ≤ pz % m := Int.emod_nonneg _ (by omega)
    have hp1 : pz % m < m := Int.emod_lt_of_pos pz (by omega)
    have hb0 : 0 ≤ bz % wd := Int.emod_nonneg _ (by omega)
    have hb1 : bz % wd < wd := Int.emod_lt_of_pos _ (by omega)
    walk_at "ts"
    refine Ts.q_join (fun σ' H' => ∃ s b nr l h : Int, σ' = [some (.int c), some (.ref a), some (.int m), some (.int (pz % m)), some (.int s), some (.int b), some (.int nr), some (.int l), some (.int h)] ∧ Same H H' ∧ s ≤ b ∧ 0 ≤ s ∧ b ≤ 1000000000000 ∧ 0 ≤ l ∧ l ≤ 1000000000000 ∧ 0 ≤ h ∧ h ≤ 1000000000000) ?_ ?_
    rotate_left
    · intro nx' hnx
      refine Ts.q_iteD (fun h5 => ?_) (fun h5 => ?_)
      · walk_at "ts"
        exact hnx _ _ ⟨_, _, _, _, _, rfl, by walk_at "ts same", by omega, by omega, by omega, by omega, by omega, by omega, by omega⟩
      · walk_at "ts"
        exact hnx _ _ ⟨_, _, _, _, _, rfl, by walk_at "ts same", by omega, by omega, by omega, by omega, by omega, by omega, by omega⟩
    rintro σ' H' ⟨s', b, nr, l, h, rfl, sH, hsb, hs0, hb1, hl0, hl1, hh0, hh1⟩
    walk_at "ts"
    refine Ts.q_join (fun σ' H' => ∃ l h : Int, σ' = [some (.int c), some (.ref a), some (.int m), some (.int (pz % m)), some (.int s'), some (.int b), some (.int nr), some (.int l), some (.int h)] ∧ Same H H' ∧ l ≤ h ∧ 0 ≤ l ∧ h ≤ 1000000000000) ?_ ?_
    rotate_left
    · intro nx' hnx
      refine Ts.q_iteD (fun h5 => ?_) (fun h5 => ?_)
      · walk_at "ts"
        exact hnx _ _ ⟨_, _, rfl, by walk_at "ts same", by omega, by omega, by omega⟩
      · walk_at "ts"
        exact hnx _ _ ⟨_, _, rfl, by walk_at "ts same", by omega, by omega, by omega⟩
    rintro σ' H' ⟨l, h, rfl, sH, hlh, hl0, hh1⟩
    walk_at "ts"
    refine Ts.q_join (fun σ' H' => ∃ s b : Int, σ' = [some (.int c), some (.ref a), some (.int m), some (.int (pz % m)), some (.int s), some (.int b), some (.int nr), some (.int l), some (.int h)] ∧ Same H H' ∧ s ≤ b ∧ 0 ≤ s ∧ b ≤ 1000000000000) ?_ ?_
    rotate_left
    · intro nx' hnx
      refine Ts.q_iteD (fun h5 => ?_) (fun h5 => ?_)
      · walk_at "ts"
        exact hnx _ _ ⟨_, _, rfl, by walk_at "ts same", by omega, by omega, by omega⟩
      · walk_at "ts"
        exact hnx _ _ ⟨_, _, rfl, by walk_at "ts same", by omega, by omega, by omega⟩
    rintro σ' H' ⟨s', b, rfl, sH, hsb, hs0, hb1⟩
    walk_at "ts"
    refine Ts.q_ixAny (by walk_at "ts sq") (by omega) (by rw [List.length_map]; omega) fun v hv => ?_
    obtain ⟨z, hz, rfl⟩ := List.mem_map.mp hv
    walk_at "ts"
    exact q ⟨z, _, _, _, _⟩ _ _ (by walk_at "ts same") (by unfold LtAt; assumption) hz ⟨⟨hs0, by dsimp only; omega⟩, ⟨by dsimp only; omega, hb1⟩, ⟨hl0, by dsimp only; omega⟩, ⟨by dsimp only; omega, hh1⟩, hsb, hlh⟩
local macro_rules | `(tactic| walk_at "ts call") => `(tactic| ((with_reducible apply c_l_letter); (focus walk_at "ts sq"); (focus first | assumption | omega | (simp; omega)); (focus omega); intro L b H2 s2 hL nL okL))

end Law


namespace Law
open PySem PySem.Spec PyProof.Rows L2 Ts
variable {P : Program} {w : World} {K : PySem.W.Frag} {mg : Str → Option Value} {base : Heap}
local macro_rules | `(tactic| walk_at "ts call") => `(tactic| ((with_reducible apply c_l_cell_at); (focus walk_at "ts sq"); (focus omega); intro z ez))
local macro_rules | `(tactic| walk_at "ts call") => `(tactic| ((with_reducible apply c_l_mix); intro z ez z0 z1))
local macro_rules | `(tactic| walk_at "ts call") => `(tactic| ((with_reducible apply c_l_big); intro z H2 z0 z1 sz))
local macro_rules | `(tactic| walk_at "ts call") => `(tactic| ((with_reducible apply c_l_off); intro z H2 z0 z1 sz))
local macro_rules | `(tactic| walk_at "ts call") => `(tactic| with_reducible apply c_l_whole)
local macro_rules | `(tactic| walk_at "ts call") => `(tactic| ((with_reducible apply c_l_word); (focus omega); (focus omega); intro z hz lz))
local macro_rules | `(tactic| walk_at "ts call") => `(tactic| ((with_reducible apply c_l_names); intro b k p H2 lb lb2 s2 hp))
local macro_rules | `(tactic| walk_at "ts call") => `(tactic| ((with_reducible apply c_l_slack); (focus omega); (focus omega)))
local macro_rules | `(tactic| walk_at "ts call") => `(tactic| ((with_reducible apply c_slack); (focus omega); (focus omega)))
local macro_rules | `(tactic| walk_at "ts call") => `(tactic| ((with_reducible apply c_l_brought); (focus walk_at "ts hp"); (focus omega); (focus omega); intro b H2 s2 hb))
local macro_rules | `(tactic| walk_at "ts call") => `(tactic| ((with_reducible apply c_l_letter); (focus walk_at "ts sq"); (focus first | assumption | omega | (simp; omega)); (focus omega); intro L b H2 s2 hL nL okL))

def LtOk (L : Ltr) : Prop := Low L.name ∧ L.sent ≤ L.back ∧ L.low ≤ L.high
/-! ### the law's own gathered -/
theorem st_ok {L : Ltr} {n f : Int} (h : LtOk L) (hb : L.back ≤ n) (f0 : 0 ≤ f) : (stOf n f L).1 ≤ (stOf n f L).2 := by
  obtain ⟨_, h1, h2⟩ := h
  have p1 : 0 ≤ (n - L.back) * f := Int.mul_nonneg (by omega) f0
  have p2 : 0 ≤ (n - L.sent) * f := Int.mul_nonneg (by omega) f0
  show bLow L n f ≤ bHigh L n f
  unfold bLow bHigh slackv
  omega
theorem q_notInS {p : Addr} {n : Str} {zs : List Str} {H : Hp} {Q : VK} (h : SqL K H p (zs.map V.str)) (q : Q (.bl (!decide (n ∈ zs))) H) : rIn K true (.str n) (.ref p) H Q := by
  refine ⟨p, _, rfl, .inl h, rfl, ?_, ?_⟩
  · rw [List.all_eq_true]
    intro x hx
    obtain ⟨z, _, rfl⟩ := List.mem_map.mp hx
    rfl
  · have e : inV (.str n) (zs.map V.str) = decide (n ∈ zs) := by
      unfold inV
      by_cases hm : n ∈ zs
      · rw [decide_eq_true hm, List.any_eq_true]
        exact ⟨.str n, List.mem_map.mpr ⟨n, hm, rfl⟩, by simp [eqV]⟩
      · rw [decide_eq_false hm, Bool.eq_false_iff]
        intro z
        obtain ⟨x, hx, hx2⟩ := List.any_eq_true.mp z
        obtain ⟨y, hy, rfl⟩ := List.mem_map.mp hx
        have : y = n := by simpa [eqV] using hx2
        exact hm (this ▸ hy)
    show Q (.bl (!inV (.str n) (zs.map V.str))) H
    rw [e]
    exact q
def sp_l_gathered (K : PySem.W.Frag) : Sp := fun vs H Q _ => ∃ (a : Addr) (xs : List V) (ls : List Ltr) (n f : Int), vs = [.ref a, .int n, .int f] ∧ H a = some (.lst xs) ∧ Lts H xs ls ∧ ls.length ≤ 1000 ∧ 0 ≤ f ∧ f ≤ 999 ∧ (∀ L ∈ ls, LtOk L) ∧ (∀ L ∈ ls, L.back ≤ n) ∧
  ∀ ys p H', Same H H' → H p = none → H' p = some (.lst ys) → Cks H' ys (gathL (stOf n f) ls) → Q (.ref p) H'
theorem c_l_gathered {a : Addr} {xs : List V} {ls : List Ltr} {n f : Int} {H : Hp} {Q : VK} {E : XK} (h : H a = some (.lst xs)) (hl : Lts H xs ls) (hn : ls.length ≤ 1000) (f0 : 0 ≤ f) (f1 : f ≤ 999) (hok : ∀ L ∈ ls, LtOk L) (hb : ∀ L ∈ ls, L.back ≤ n)
    (q : ∀ ys p H', Same H H' → H p = none → H' p = some (.lst ys) → Cks H' ys (gathL (stOf n f) ls) → Q (.ref p) H') : sp_l_gathered K ([.ref a, .int n, .int f] ++ []) H Q E := ⟨a, xs, ls, n, f, rfl, h, hl, hn, f0, f1, hok, hb, q⟩
def gPart (n f : Int) (ls : List Ltr) (i : Nat) : List Clk := (firsts ((ls.map Ltr.name).take i)).map fun z => (z, (gval (psOf (stOf n f) z ls)).getD none)
theorem gPart_names (n f : Int) (ls : List Ltr) (i : Nat) : (gPart n f ls i).map Prod.fst = firsts ((ls.map Ltr.name).take i) := by
  unfold gPart
  rw [List.map_map]
  exact List.map_id _
theorem gPart_in {n f : Int} {ls : List Ltr} {i : Nat} {z : Str} (h : (ls.map Ltr.name)[i]? = some z) (hm : z ∈ firsts ((ls.map Ltr.name).take i)) : gPart n f ls (i + 1) = gPart n f ls i := by
  unfold gPart
  rw [take_snoc h, firsts_snoc]
  unfold addN
  rw [if_pos hm]
theorem gPart_no {n f : Int} {ls : List Ltr} {i : Nat} {z : Str} (h : (ls.map Ltr.name)[i]? = some z) (hm : z ∉ firsts ((ls.map Ltr.name).take i)) : gPart n f ls (i + 1) = gPart n f ls i ++ [(z, (gval (psOf (stOf n f) z ls)).getD none)] := by
  unfold gPart
  rw [take_snoc h, firsts_snoc]
  unfold addN
  rw [if_neg hm, List.map_append]
  rfl
theorem ok_l_gathered (T : Lw K mg) : FnOk P w K mg base CX0 3 T.f_l_gathered T.fd_l_gathered ["_law_letters","_law_now","_law_off_here"] (sp_l_gathered K) := by
  refine T.d_l_gathered.F.ok sc_l_gathered (fun vs H Q E h => ?_) (fun cdv A outer s H vs Q E hr h => ?_)
  · obtain ⟨a, xs, ls, n, f, rfl, _⟩ := h
    rfl
  · obtain ⟨a, xs, ls, n, f, rfl, ha, hl, hlen, f0, f1, hok, hb, q⟩ := h
    have hlx := Paired.len hl
    refine ⟨_, (pss_cons (ps_asg (pe_lst pa_nil) (pg_name (i := 3) sc_l_gathered.nd rfl (by first | exact Or.inl rfl | exact Or.inr rfl))) (pss_cons (ps_for PassesOwn.never rfl (Ts.pi_listK K (pe_lc (own := [("_law_letter_here", 8)]) rfl sc_l_gathered.nd (Ts.pi_listK K (pv 0)) (blkOk_by (own := [("_law_letter_here", 8)]) (N := N_l_gathered) (sc := defScope s_l_gathered) (by decide +kernel)) (fun _ _ _ _ _ => pg_name (i := 8) sc_l_gathered.nd rfl (Or.inl rfl)) (fun _ _ _ _ _ => pts_nil) (fun _ _ _ _ _ => (pe_ix (Ts.ix_tupK K) (pv 8) pe_int (fun _ _ => rfl))))) (pg_name (i := 4) sc_l_gathered.nd rfl (by first | exact Or.inl rfl | exact Or.inr rfl)) (pss_one (ps_if (pt_cmpR (Ts.op_notInK K) (pv 4) (pe_lc (own := [("_law_one", 9)]) rfl sc_l_gathered.nd (Ts.pi_listK K (pv 3)) (blkOk_by (own := [("_law_one", 9)]) (N := N_l_gathered) (sc := defScope s_l_gathered) (by decide +kernel)) (fun _ _ _ _ _ => pg_name (i := 9) sc_l_gathered.nd rfl (Or.inl rfl)) (fun _ _ _ _ _ => pts_nil) (fun _ _ _ _ _ => (pe_ix (Ts.ix_tupK K) (pv 9) pe_int (fun _ _ => rfl)))) rfl) (pss_cons (ps_setLc (i := 5) (own := [("_law_letter_here", 8)]) rfl sc_l_gathered.nd rfl rfl (sw_true rfl rfl rfl (by decide +kernel)) (Ts.pi_listK K (pv 0)) (blkOk_by (own := [("_law_letter_here", 8)]) (N := N_l_gathered) (sc := defScope s_l_gathered) (by decide +kernel)) (fun _ _ _ _ _ => pg_name (i := 8) sc_l_gathered.nd rfl (Or.inl rfl)) (fun _ _ _ _ _ => pts_one (pt_cmpR op_eq (pe_ix (Ts.ix_tupK K) (pv 8) pe_int (fun _ _ => rfl)) (pv 4) (nomark _))) (fun _ _ _ _ _ => (pe_call ((ok_l_brought T).mono (by decide)) hr rfl T.m_l_brought T.d_l_brought.F.kp T.d_l_brought.b .nil pass0 (pa_cons (pv 8) (pa_cons (pv 1) (pa_cons (pv 2) pa_nil)))))) (pss_cons (ps_asg (pe_callB (Ts.cr_maxK K rfl) (by rfl) T.n_max (by decide +kernel) (pa_cons (pe_lc (own := [("_law_one", 9)]) rfl sc_l_gathered.nd (Ts.pi_listK K (pv 5)) (blkOk_by (own := [("_law_one", 9)]) (N := N_l_gathered) (sc := defScope s_l_gathered) (by decide +kernel)) (fun _ _ _ _ _ => pg_name (i := 9) sc_l_gathered.nd rfl (Or.inl rfl)) (fun _ _ _ _ _ => pts_nil) (fun _ _ _ _ _ => (pe_ix (Ts.ix_tupK K) (pv 9) pe_int (fun _ _ => rfl)))) pa_nil)) (pg_name (i := 6) sc_l_gathered.nd rfl (by first | exact Or.inl rfl | exact Or.inr rfl))) (pss_cons (ps_asg (pe_callB (Ts.cr_minK K rfl) (by rfl) T.n_min (by decide +kernel) (pa_cons (pe_lc (own := [("_law_one", 9)]) rfl sc_l_gathered.nd (Ts.pi_listK K (pv 5)) (blkOk_by (own := [("_law_one", 9)]) (N := N_l_gathered) (sc := defScope s_l_gathered) (by decide +kernel)) (fun _ _ _ _ _ => pg_name (i := 9) sc_l_gathered.nd rfl (Or.inl rfl)) (fun _ _ _ _ _ => pts_nil) (fun _ _ _ _ _ => (pe_ix (Ts.ix_tupK K) (pv 9) pe_int (fun _ _ => rfl)))) pa_nil)) (pg_name (i := 7) sc_l_gathered.nd rfl (by first | exact Or.inl rfl | exact Or.inr rfl))) (pss_one (ps_expr (pe_bm PySem.F.plainAttrs_list PySem.F.slot_list_append PySem.F.type_list_append mt_append (pv 3) (pa_cons (pe_tup (pa_cons (pv 4) (pa_cons (pe_ifExp (pt_cmpR op_le (pv 6) (pv 7) (nomark _)) (pe_tup (pa_cons (pv 6) (pa_cons (pv 7) pa_nil))) pe_non) pa_nil))) pa_nil))))))) pss_nil))) (pss_one (ps_ret (pv 3))))), ?_⟩
    walk_at "ts"
    rename_i pm hpm H0 s0 em
    refine Ts.q_lcL (sqL_of (s0 _ _ ha)) (by omega) (fun _ => true) (fun i _ v => ∃ L, ls[i]? = some L ∧ v = .str L.name) (fun _ _ _ _ _ h => h) ?_ ?_
    · intro i x H' QB QV hx s1 _ qv
      obtain ⟨L, hLi, a', rfl, hL⟩ := Paired.at_ (hl.mono (tsame_of (s0.trans s1))) hx
      have hL' : H' a' = some (.tup [.str L.name, .int L.sent, .int L.back, .int L.low, .int L.high]) := hL
      walk_at "ts"
      refine ⟨rfl, ?_⟩
      walk_at "ts"
      exact qv _ _ rfl (Same.refl _) ⟨L, hLi, rfl⟩
    intro ys pn H1 s1 hpn hyn pr
    rw [filt_all, hlx] at pr
    have ey := Ts.paired_eq (f := fun L : Ltr => V.str L.name) (Ts.flip_ (Ts.paired_range (R := fun v (L : Ltr) => v = V.str L.name) pr))
    have hnm : ys = (ls.map Ltr.name).map V.str := by rw [ey, List.map_map]; rfl
    rw [hnm] at hyn
    have npm : pn ≠ pm := fun e => by rw [e, em] at hpn; cases hpn
    refine Ts.q_forL ((ls.map Ltr.name).map V.str) (sqL_of hyn) (fun i σ' H' => ∃ (zs : List V) (v4 v5 v6 v7 : Option V), σ' = [some (.ref a), some (.int n), some (.int f), some (.ref pm), v4, v5, v6, v7, none, none] ∧ Same H H' ∧ H' pn = some (.lst ((ls.map Ltr.name).map V.str)) ∧ H' pm = some (.lst zs) ∧ Cks H' zs (gPart n f ls i))
      ⟨[], none, none, none, none, rfl, s0.trans s1, hyn, s1 _ _ em, .nil⟩ (fun i σ' H' ⟨_, _, _, _, _, _, _, h, _⟩ => sqL_of h) ?_ ?_
    · rintro i x σ' H' hx ⟨zs, v4, v5, v6, v7, rfl, sH, hn, hm, hz⟩
      obtain ⟨nm, hnm, rfl⟩ := map_at hx
      have hlz := Paired.len hz
      have hgl : (gPart n f ls i).length ≤ 1000 := by
        have l1 := congrArg List.length (gPart_names n f ls i)
        have l2 := len_firsts ((ls.map Ltr.name).take i)
        rw [List.length_take, List.length_map] at l2
        rw [List.length_map] at l1
        omega
      walk_at "ts"
      refine Ts.q_lcL (sqL_of hm) (by omega) (fun _ => true) (fun j _ v => ∃ c, (gPart n f ls i)[j]? = some c ∧ v = .str c.1) (fun _ _ _ _ _ h => h) ?_ ?_
      · intro j x H2 QB QV hx2 s2 _ qv
        obtain ⟨c, hci, a', u, rfl, e1, e2⟩ := Paired.at_ (hz.mono (tsame_of s2)) hx2
        walk_at "ts"
        refine ⟨rfl, ?_⟩
        walk_at "ts"
        exact qv _ _ rfl (Same.refl _) ⟨c, hci, rfl⟩
      intro ys2 p2 H2 s2 hp2 hy2 pr2
      rw [filt_all, hlz] at pr2
      have ey2 := Ts.paired_eq (f := fun c : Clk => V.str c.1) (Ts.flip_ (Ts.paired_range (R := fun v (c : Clk) => v = V.str c.1) pr2))
      have ey3 : ys2 = (firsts ((ls.map Ltr.name).take i)).map V.str := by rw [ey2, ← gPart_names n f ls i, List.map_map]; rfl
      rw [ey3] at hy2
      refine q_notInS (sqL_of hy2) ?_
      walk_at "ts"
      refine Ts.q_iteN (fun hnew => ?_) (fun hold => ?_)
      · walk_at "ts"
        have sHH := sH.trans s2
        refine Ts.q_lcL (sqL_of (sHH _ _ ha)) (by omega) (fun j => (ls[j]?).elim false fun L => decide (L.name = nm)) (fun j H v => ∃ L, ls[j]? = some L ∧ IsPr H v (stOf n f L)) (fun _ _ _ _ s ⟨L, x, y⟩ => ⟨L, x, y.mono s⟩) ?_ ?_
        · intro j x H3 QB QV hx3 s3 qb qv
          obtain ⟨L, hLi, a', rfl, hL⟩ := Paired.at_ (hl.mono (tsame_of (sHH.trans s3))) hx3
          have hL' : H3 a' = some (.tup [.str L.name, .int L.sent, .int L.back, .int L.low, .int L.high]) := hL
          rw [hLi] at qb qv
          walk_at "ts"
          refine ⟨rfl, ?_⟩
          walk_at "ts"
          refine Ts.q_iteD (fun h3 => ?_) (fun h3 => ?_)
          · walk_at "ts"
            rename_i b H4 s4 hb4
            exact qv _ _ (decide_eq_true h3) s4 ⟨L, rfl, b, rfl, hb4⟩
          · exact qb (decide_eq_false h3) _ (Same.refl _)
        intro ys3 p3 H3 s3 hp3 hy3 pr3
        rw [hlx] at pr3
        have pr4 := Ts.paired_filter (R := fun (L : Ltr) v => IsPr H3 v (stOf n f L)) ls (fun L => decide (L.name = nm)) ls.length (Nat.le_refl _) ys3 pr3
        rw [List.take_length] at pr4
        have hps : Prs H3 ys3 (psOf (stOf n f) nm ls) := Ts.Paired.map_right (Ts.flip_ pr4)
        have hlp := Paired.len hps
        have hpl : (psOf (stOf n f) nm ls).length ≤ 1000 := by
          unfold psOf
          rw [List.length_map]
          have := List.length_filter_le (fun L : Ltr => decide (L.name = nm)) ls
          omega
        have hpne : 0 < (psOf (stOf n f) nm ls).length := List.length_pos_iff.mpr (psOf_has (List.mem_of_getElem? hnm))
        walk_at "ts"
        refine Ts.q_lcL (sqL_of hy3) (by omega) (fun _ => true) (fun j _ v => ∃ p, (psOf (stOf n f) nm ls)[j]? = some p ∧ v = .int p.1) (fun _ _ _ _ _ h => h) ?_ ?_
        · intro j x H4 QB QV hx4 s4 _ qv
          obtain ⟨p, hpi, a', rfl, e1⟩ := Paired.at_ (hps.mono (tsame_of s4)) hx4
          walk_at "ts"
          refine ⟨rfl, ?_⟩
          walk_at "ts"
          exact qv _ _ rfl (Same.refl _) ⟨p, hpi, rfl⟩
        intro ys4 p4 H4 s4 hp4 hy4 pr5
        rw [filt_all, hlp] at pr5
        have ey4 := Ts.paired_eq (f := fun p : Int × Int => V.int p.1) (Ts.flip_ (Ts.paired_range (R := fun v (p : Int × Int) => v = V.int p.1) pr5))
        have ey5 : ys4 = ((psOf (stOf n f) nm ls).map Prod.fst).map V.int := by rw [ey4, List.map_map]; rfl
        rw [ey5] at hy4
        walk_at "ts"
        refine ⟨p4, _, rfl, sqL_of hy4, by rw [List.length_map]; exact hpne, fun M hM hMx => ?_⟩
        walk_at "ts"
        have hps4 := hps.mono (tsame_of s4)
        refine Ts.q_lcL (sqL_of (s4 _ _ hy3)) (by omega) (fun _ => true) (fun j _ v => ∃ p, (psOf (stOf n f) nm ls)[j]? = some p ∧ v = .int p.2) (fun _ _ _ _ _ h => h) ?_ ?_
        · intro j x H5 QB QV hx5 s5 _ qv
          obtain ⟨p, hpi, a', rfl, e1⟩ := Paired.at_ (hps4.mono (tsame_of s5)) hx5
          walk_at "ts"
          refine ⟨rfl, ?_⟩
          walk_at "ts"
          exact qv _ _ rfl (Same.refl _) ⟨p, hpi, rfl⟩
        intro ys5 p5 H5 s5 hp5 hy5 pr6
        rw [filt_all, hlp] at pr6
        have ey6 := Ts.paired_eq (f := fun p : Int × Int => V.int p.2) (Ts.flip_ (Ts.paired_range (R := fun v (p : Int × Int) => v = V.int p.2) pr6))
        have ey7 : ys5 = ((psOf (stOf n f) nm ls).map Prod.snd).map V.int := by rw [ey6, List.map_map]; rfl
        rw [ey7] at hy5
        walk_at "ts"
        refine ⟨p5, _, rfl, sqL_of hy5, by rw [List.length_map]; exact hpne, fun m hm' hmx => ?_⟩
        have sA : Same H' H5 := ((s2.trans s3).trans s4).trans s5
        have hm5 : H5 pm = some (.lst zs) := sA _ _ hm
        have hn5 := sA _ _ hn
        have hz5 : Cks H5 zs (gPart n f ls i) := hz.mono (tsame_of sA)
        clear hy5 ey7 ey6 pr6 hp5 hy4 ey5 ey4 pr5 hp4 hy3 pr3 pr4 hps4 hps hp3 hy2 ey3 ey2 pr2 hp2 hx
        have hval : gval (psOf (stOf n f) nm ls) = some (box M m) := by
          refine gval_mm (fun p hp => ?_) ?_ (fun x hx => hMx _ (List.mem_map.mpr ⟨x, hx, rfl⟩)) ?_ (fun x hx => hmx _ (List.mem_map.mpr ⟨x, hx, rfl⟩))
          · obtain ⟨L, hL, _, rfl⟩ := psOf_mem hp
            exact st_ok (hok L hL) (hb L hL) f0
          · obtain ⟨x, hx, e⟩ := List.mem_map.mp hM
            exact ⟨x, hx, e⟩
          · obtain ⟨x, hx, e⟩ := List.mem_map.mp hm'
            exact ⟨x, hx, e⟩
        have hpart := gPart_no (f := f) (n := n) hnm hnew
        rw [hval] at hpart
        have base5 : Same H H5 := sH.trans sA
        walk_at "ts"
        refine Ts.q_iteD (fun h4 => ?_) (fun h4 => ?_)
        · walk_at "ts"
          rename_i pa hpa Ha sa ea pb hpb Hb sb eb
          have hmb : Hb pm = some (.lst zs) := sb _ _ (sa _ _ hm5)
          refine Ts.q_append hmb (by omega) ?_
          have t := tsame_lst (ys := zs ++ [V.ref pb]) hmb
          walk_at "ts"
          refine ⟨zs ++ [V.ref pb], _, _, _, _, rfl, same_mut ((base5.trans sa).trans sb) hpm, ?_, upd_same, ?_⟩
          · rw [upd_ne npm]
            exact sb _ _ (sa _ _ hn5)
          · rw [hpart]
            refine Paired.snoc ⟨pb, .ref pa, rfl, t _ _ eb, ?_⟩ (((hz5.mono (tsame_of sa)).mono (tsame_of sb)).mono t)
            show IsSt _ (V.ref pa) (box M m)
            unfold box
            rw [if_pos h4]
            exact ⟨pa, rfl, t _ _ (sb _ _ ea)⟩
        · walk_at "ts"
          rename_i pb hpb Hb sb eb
          have hmb : Hb pm = some (.lst zs) := sb _ _ hm5
          refine Ts.q_append hmb (by omega) ?_
          have t := tsame_lst (ys := zs ++ [V.ref pb]) hmb
          walk_at "ts"
          refine ⟨zs ++ [V.ref pb], _, _, _, _, rfl, same_mut (base5.trans sb) hpm, ?_, upd_same, ?_⟩
          · rw [upd_ne npm]
            exact sb _ _ hn5
          · rw [hpart]
            refine Paired.snoc ⟨pb, .non, rfl, t _ _ eb, ?_⟩ ((hz5.mono (tsame_of sb)).mono t)
            show IsSt _ V.non (box M m)
            unfold box
            rw [if_neg h4]
            rfl
      · walk_at "ts"
        refine ⟨zs, _, _, _, _, rfl, sH.trans s2, s2 _ _ hn, s2 _ _ hm, ?_⟩
        rw [gPart_in hnm hold]
        exact hz.mono (tsame_of s2)
    · rintro σ' H' ⟨zs, v4, v5, v6, v7, rfl, sH, hn, hm, hz⟩
      have e : gPart n f ls ((ls.map Ltr.name).map V.str).length = gathL (stOf n f) ls := by
        unfold gPart gathL
        rw [List.length_map, List.take_length]
      rw [e] at hz
      walk_at "ts"
      exact q zs pm H' sH hpm hm hz
local macro_rules | `(tactic| walk_at "ts call") => `(tactic| ((with_reducible apply c_l_gathered); (focus walk_at "ts hp"); (focus walk_at "ts ck"); (focus omega); (focus omega); (focus omega); (focus assumption); (focus assumption); intro ys p H2 s2 hfr hp hgc))

end Law


namespace Law
open PySem PySem.Spec PyProof.Rows L2 Ts
variable {P : Program} {w : World} {K : PySem.W.Frag} {mg : Str → Option Value} {base : Heap}
local macro_rules | `(tactic| walk_at "ts call") => `(tactic| ((with_reducible apply c_l_cell_at); (focus walk_at "ts sq"); (focus omega); intro z ez))
local macro_rules | `(tactic| walk_at "ts call") => `(tactic| ((with_reducible apply c_l_mix); intro z ez z0 z1))
local macro_rules | `(tactic| walk_at "ts call") => `(tactic| ((with_reducible apply c_l_big); intro z H2 z0 z1 sz))
local macro_rules | `(tactic| walk_at "ts call") => `(tactic| ((with_reducible apply c_l_off); intro z H2 z0 z1 sz))
local macro_rules | `(tactic| walk_at "ts call") => `(tactic| with_reducible apply c_l_whole)
local macro_rules | `(tactic| walk_at "ts call") => `(tactic| ((with_reducible apply c_l_word); (focus omega); (focus omega); intro z hz lz))
local macro_rules | `(tactic| walk_at "ts call") => `(tactic| ((with_reducible apply c_l_names); intro b k p H2 lb lb2 s2 hp))
local macro_rules | `(tactic| walk_at "ts call") => `(tactic| ((with_reducible apply c_l_slack); (focus omega); (focus omega)))
local macro_rules | `(tactic| walk_at "ts call") => `(tactic| ((with_reducible apply c_slack); (focus omega); (focus omega)))
local macro_rules | `(tactic| walk_at "ts call") => `(tactic| ((with_reducible apply c_l_brought); (focus walk_at "ts hp"); (focus omega); (focus omega); intro b H2 s2 hb))
local macro_rules | `(tactic| walk_at "ts call") => `(tactic| ((with_reducible apply c_l_letter); (focus walk_at "ts sq"); (focus first | assumption | omega | (simp; omega)); (focus omega); intro L b H2 s2 hL nL okL))
local macro_rules | `(tactic| walk_at "ts call") => `(tactic| ((with_reducible apply c_l_gathered); (focus walk_at "ts hp"); (focus walk_at "ts ck"); (focus omega); (focus omega); (focus omega); (focus assumption); (focus assumption); intro ys p H2 s2 hfr hp hgc))

/-! ### turns -/
def sp_turns (K : PySem.W.Frag) : Sp := fun vs H Q _ => ∃ (a : Addr) (xs : List V) (cs : List Clk), vs = [.ref a] ∧ H a = some (.lst xs) ∧ Cks H xs cs ∧ CksOk cs ∧ cs.length ≤ 1000 ∧
  ∀ (pts : List Int) (ys : List V) (p : Addr) (H' : Hp), Same H H' → H p = none → H' p = some (.lst ys) → pts.Pairwise (· < ·) → (∀ t, t ∈ pts ↔ Edge cs t) → Paired (fun y t => IsPr H' y (t, delta cs t)) ys pts → pts.length ≤ 100000 → Q (.ref p) H'
theorem c_turns {a : Addr} {xs : List V} {cs : List Clk} {H : Hp} {Q : VK} {E : XK} (h : H a = some (.lst xs)) (hc : Cks H xs cs) (ho : CksOk cs) (hl : cs.length ≤ 1000)
    (q : ∀ (pts : List Int) (ys : List V) (p : Addr) (H' : Hp), Same H H' → H p = none → H' p = some (.lst ys) → pts.Pairwise (· < ·) → (∀ t, t ∈ pts ↔ Edge cs t) → Paired (fun y t => IsPr H' y (t, delta cs t)) ys pts → pts.length ≤ 100000 → Q (.ref p) H') : sp_turns K ([.ref a] ++ []) H Q E := ⟨a, xs, cs, rfl, h, hc, ho, hl, q⟩
theorem ok_turns (T : Lw K mg) : FnOk P w K mg base CX0 1 T.f_turns T.fd_turns ["clocks"] (sp_turns K) := by
  refine T.d_turns.F.ok sc_turns (fun vs H Q E h => ?_) (fun cdv A outer s H vs Q E hr h => ?_)
  · obtain ⟨a, xs, cs, rfl, _⟩ := h
    rfl
  · obtain ⟨a, xs, cs, rfl, ha, hc, hok, hl, q⟩ := h
    have hlx := Paired.len hc
    refine ⟨_, (pss_cons (ps_asg pe_dnewK (pg_name (i := 1) sc_turns.nd rfl (by first | exact Or.inl rfl | exact Or.inr rfl))) (pss_cons (ps_for PassesOwn.never rfl (Ts.pi_listK K (pv 0)) (Ts.pg_tupK K 2 (by rfl) (pgs_cons (pg_name (i := 2) sc_turns.nd rfl (by first | exact Or.inl rfl | exact Or.inr rfl)) (pgs_cons (pg_name (i := 3) sc_turns.nd rfl (by first | exact Or.inl rfl | exact Or.inr rfl)) pgs_nil))) (pss_one (ps_if (pt_cmpR op_notN1 (pv 3) pe_non (nomark _)) (pss_cons (ps_dput (hu_of hr) (pv 1) (pe_ix (Ts.ix_tupK K) (pv 3) pe_int (fun _ _ => rfl)) (pe_op op_add (pe_dget2 (hu_of hr) (pv 1) (pe_ix (Ts.ix_tupK K) (pv 3) pe_int (fun _ _ => rfl)) pe_int ⟨by rfl, by rfl, by rfl, by rfl⟩) pe_int) rfl) (pss_one (ps_dput (hu_of hr) (pv 1) (pe_op op_add (pe_ix (Ts.ix_tupK K) (pv 3) pe_int (fun _ _ => rfl)) pe_int) (pe_op op_sub (pe_dget2 (hu_of hr) (pv 1) (pe_op op_add (pe_ix (Ts.ix_tupK K) (pv 3) pe_int (fun _ _ => rfl)) pe_int) pe_int ⟨by rfl, by rfl, by rfl, by rfl⟩) pe_int) rfl))) pss_nil))) (pss_one (ps_ret (pe_lc (own := [("point", 4)]) rfl sc_turns.nd (Ts.pi_listK K (pe_callB (Ts.cr_sortedK K) (by rfl) T.n_sorted (by decide +kernel) (pa_cons (pe_callTy (call_list_dK rfl) (by rfl) T.n_list (by decide +kernel) (pa_cons (pv 1) pa_nil)) pa_nil))) (blkOk_by (own := [("point", 4)]) (N := N_turns) (sc := defScope s_turns) (by decide +kernel)) (fun _ _ _ _ _ => pg_name (i := 4) sc_turns.nd rfl (Or.inl rfl)) (fun _ _ _ _ _ => pts_nil) (fun _ _ _ _ _ => (pe_tup (pa_cons (pv 4) (pa_cons (pe_dget (hu_of hr) (pv 1) (pv 4) (fun _ _ => rfl)) pa_nil))))))))), ?_⟩
    walk_at "ts"
    rename_i d H1 hd s1 ed
    refine Ts.q_forL xs (sqL_of (s1 _ _ ha)) (fun i σ' H' => ∃ (kvs : List (Key × V)) (v2 v3 : Option V), σ' = [some (.ref a), some (.ref d), v2, v3, none] ∧ Same H H' ∧ H' d = some (.dK kvs) ∧ DInv (cs.take i) i kvs)
      ⟨[], none, none, rfl, s1, ed, ⟨List.nodup_nil, Nat.le_refl _, fun _ => rfl, fun p ⟨c, h, _⟩ => (List.not_mem_nil h).elim, fun _ _ => rfl⟩⟩ (fun i σ' H' ⟨_, _, _, _, s, _⟩ => sqL_of (s _ _ ha)) ?_ ?_
    · rintro i x σ' H' hx ⟨kvs, v2, v3, rfl, sH, hdk, hi⟩
      obtain ⟨c, hci, a', u, rfl, e1, e2⟩ := Paired.at_ (hc.mono (tsame_of sH)) hx
      have hok1 := hok c (List.mem_of_getElem? hci)
      have hlen : i < 1000 := by have := (List.getElem?_eq_some_iff.mp hx).1; omega
      walk_at "ts"
      obtain ⟨nm, o⟩ := c
      cases o with
      | none =>
        cases e2
        walk_at "ts"
        exact ⟨kvs, _, _, rfl, sH, hdk, by rw [take_snoc hci]; exact dinv_none hi rfl⟩
      | some x =>
        obtain ⟨b, rfl, hb⟩ := e2
        have hxs := hok1.2 x rfl
        have hkl := hi.len
        walk_at "ts"
        refine Ts.q_dget2I hdk ?_
        rw [hi.get]
        walk_at "ts"
        refine Ts.q_dputI hdk (by omega) ?_
        have hd2 := L2.upd_same (H := H') (a := d) (o := .dK (putK kvs (.inl x.1) (.int (delta (cs.take i) x.1 + 1))))
        have sH2 := same_mut (o := .dK (putK kvs (.inl x.1) (.int (delta (cs.take i) x.1 + 1)))) sH hd
        have tH2 := tsame_dK (ys := putK kvs (.inl x.1) (.int (delta (cs.take i) x.1 + 1))) hdk
        have hb2 := tH2 _ _ hb
        generalize upd H' d (.dK (putK kvs (.inl x.1) (.int (delta (cs.take i) x.1 + 1)))) = H2 at *
        walk_at "ts"
        refine Ts.q_dget2I hd2 ?_
        have e3 : (valV (putK kvs (.inl x.1) (.int (delta (cs.take i) x.1 + 1))) (.inl (x.2 + 1))).getD (.int 0) = .int (delta (cs.take i) (x.2 + 1)) := by
          rw [valV_put, if_neg (fun z => by have := Sum.inl.inj z; omega)]
          exact hi.get _
        rw [e3]
        walk_at "ts"
        have hl2 := length_putK kvs (.inl x.1) (V.int (delta (cs.take i) x.1 + 1))
        refine Ts.q_dputI hd2 (by omega) ?_
        exact ⟨_, _, _, rfl, same_mut sH2 hd, upd_same, by rw [take_snoc hci]; exact dinv_some hi rfl hxs⟩
    · rintro σ' H' ⟨kvs, v2, v3, rfl, sH, hdk, hi⟩
      rw [hlx, List.take_length] at hi
      obtain ⟨ns, en, nn, nm⟩ := hi.keys
      walk_at "ts"
      refine Ts.q_listD hdk fun pk H2 s2 hpk e2 => ?_
      rw [en] at e2
      refine ⟨pk, ns, rfl, sqL_of e2, fun ns' pq hperm hsrt hpq => ?_⟩
      have s3 := same_upd (o := .lst (ns'.map V.int)) hpq
      have e3 := L2.upd_same (H := H2) (a := pq) (o := .lst (ns'.map V.int))
      generalize upd H2 pq (.lst (ns'.map V.int)) = H3 at *
      have hk3 : H3 d = some (.dK kvs) := s3 _ _ (s2 _ _ hdk)
      have hstrict := strict_of hperm hsrt nn
      have hmem : ∀ t, t ∈ ns' ↔ Edge cs t := fun t => hperm.mem_iff.trans (nm t)
      have hlen : ns'.length ≤ 100000 := by
        have l1 := hperm.length_eq
        have l2 := congrArg List.length en
        have l3 := hi.len
        simp only [List.length_map] at l2
        omega
      refine Ts.q_lcL (sqL_of e3) (by rw [List.length_map]; exact hlen) (fun _ => true) (fun i H' v => ∃ t, ns'[i]? = some t ∧ IsPr H' v (t, delta cs t)) (fun i y H1 H2 s ⟨t, h1, h2⟩ => ⟨t, h1, h2.mono s⟩) ?_ ?_
      · intro i x H4 QB QV hx s4 _ qv
        obtain ⟨t, ht, rfl⟩ : ∃ t, ns'[i]? = some t ∧ x = V.int t := by
          rw [List.getElem?_map] at hx
          cases e : ns'[i]? with
          | none => rw [e] at hx; cases hx
          | some t => rw [e] at hx; cases hx; exact ⟨t, rfl, rfl⟩
        have hk4 : H4 d = some (.dK kvs) := s4 _ _ hk3
        walk_at "ts"
        refine ⟨rfl, ?_⟩
        walk_at "ts"
        refine Ts.q_dgetI hk4 (hi.yes t ((hmem t).mp (List.mem_of_getElem? ht))) ?_
        walk_at "ts"
        exact qv _ _ rfl (by assumption) ⟨t, ht, _, rfl, by assumption⟩
      · intro ys D H4 s4 hD hys pr
        rw [filt_all, List.length_map] at pr
        refine q ns' ys D H4 (((sH.trans s2).trans s3).trans s4) (Same.free ((sH.trans s2).trans s3) hD) hys hstrict hmem ?_ ?_
        · exact paired_range pr
        · exact hlen

/-! ### parts -/
def oVp : Option Int → V
  | none => .non
  | some b => .int b
def sp_parts (K : PySem.W.Frag) : Sp := fun vs H Q _ => ∃ (a : Addr) (xs : List V) (cs : List Clk) (need : Int), vs = [.ref a, .int need] ∧ H a = some (.lst xs) ∧ Cks H xs cs ∧ CksOk cs ∧ cs.length ≤ 1000 ∧ 1 ≤ need ∧
  ∀ (found : List (Int × Int)) (ys : List V) (p : Addr) (H' : Hp), Same H H' → H p = none → PartsOk (manyAt cs) need found → H' p = some (.lst ys) → Prs H' ys found → found.length ≤ 100000 → Q (.ref p) H'
theorem c_parts {a : Addr} {xs : List V} {cs : List Clk} {need : Int} {H : Hp} {Q : VK} {E : XK} (h : H a = some (.lst xs)) (hc : Cks H xs cs) (ho : CksOk cs) (hl : cs.length ≤ 1000) (hn : 1 ≤ need)
    (q : ∀ (found : List (Int × Int)) (ys : List V) (p : Addr) (H' : Hp), Same H H' → H p = none → PartsOk (manyAt cs) need found → H' p = some (.lst ys) → Prs H' ys found → found.length ≤ 100000 → Q (.ref p) H') : sp_parts K ([.ref a, .int need] ++ []) H Q E := ⟨a, xs, cs, need, rfl, h, hc, ho, hl, hn, q⟩
theorem ok_parts (T : Lw K mg) : FnOk P w K mg base CX0 2 T.f_parts T.fd_parts ["clocks", "need"] (sp_parts K) := by
  refine T.d_parts.F.ok sc_parts (fun vs H Q E h => ?_) (fun cdv A outer s H vs Q E hr h => ?_)
  · obtain ⟨a, xs, cs, need, rfl, _⟩ := h
    rfl
  · obtain ⟨a, xs, cs, need, rfl, ha, hc, hok, hl, hn, q⟩ := h
    refine ⟨_, (pss_cons (ps_asg (pe_lst pa_nil) (pg_name (i := 2) sc_parts.nd rfl (by first | exact Or.inl rfl | exact Or.inr rfl))) (pss_cons (ps_asg pe_int (pg_name (i := 3) sc_parts.nd rfl (by first | exact Or.inl rfl | exact Or.inr rfl))) (pss_cons (ps_asg pe_non (pg_name (i := 4) sc_parts.nd rfl (by first | exact Or.inl rfl | exact Or.inr rfl))) (pss_cons (ps_for PassesOwn.never rfl (Ts.pi_listK K (pe_call ((ok_turns T).mono (by decide)) hr rfl T.m_turns T.d_turns.F.kp T.d_turns.b .nil pass0 (pa_cons (pv 0) pa_nil))) (Ts.pg_tupK K 2 (by rfl) (pgs_cons (pg_name (i := 5) sc_parts.nd rfl (by first | exact Or.inl rfl | exact Or.inr rfl)) (pgs_cons (pg_name (i := 6) sc_parts.nd rfl (by first | exact Or.inl rfl | exact Or.inr rfl)) pgs_nil))) (pss_cons (ps_asg (pe_op op_add (pv 3) (pv 6)) (pg_name (i := 3) sc_parts.nd rfl (by first | exact Or.inl rfl | exact Or.inr rfl))) (pss_one (ps_if (PW.pt (pw_and (pt_cmpR op_isN1 (pv 4) pe_non (nomark _)) (pw_and1 (pt_cmpR op_ge (pv 3) (pv 1) (nomark _))))) (pss_one (ps_asg (pv 5) (pg_name (i := 4) sc_parts.nd rfl (by first | exact Or.inl rfl | exact Or.inr rfl)))) (pss_one (ps_if (PW.pt (pw_and (pt_cmpR op_notN1 (pv 4) pe_non (nomark _)) (pw_and1 (pt_cmpR op_lt (pv 3) (pv 1) (nomark _))))) (pss_cons (ps_expr (pe_bm PySem.F.plainAttrs_list PySem.F.slot_list_append PySem.F.type_list_append mt_append (pv 2) (pa_cons (pe_tup (pa_cons (pv 4) (pa_cons (pe_op op_sub (pv 5) pe_int) pa_nil))) pa_nil))) (pss_one (ps_asg pe_non (pg_name (i := 4) sc_parts.nd rfl (by first | exact Or.inl rfl | exact Or.inr rfl))))) pss_nil)))))) (pss_one (ps_ret (pv 2))))))), ?_⟩
    walk_at "ts"
    rename_i pf hpf H0 s0 ef
    refine c_turns (s0 _ _ ha) (hc.mono (tsame_of s0)) hok hl fun pts ys pp H1 s1 hfr hp hsrt hmem pr hpl => ?_
    have S := steps_of hok hsrt hmem
    have hly := Paired.len pr
    have npf : pp ≠ pf := fun e => by rw [e, ef] at hfr; cases hfr
    refine Ts.q_forL ys (sqL_of hp) (fun i σ' H' => ∃ (zs : List V) (found : List (Int × Int)) (many : Int) (begin : Option Int) (v5 v6 : Option V), σ' = [some (.ref a), some (.int need), some (.ref pf), some (.int many), some (oVp begin), v5, v6] ∧ Same H H' ∧ H' pp = some (.lst ys) ∧ H' pf = some (.lst zs) ∧ Prs H' zs found ∧ Paired (fun y t => IsPr H' y (t, delta cs t)) ys pts ∧ PInv (manyAt cs) need (pts.take i) (pts.drop i) found many begin ∧ found.length ≤ i)
      ⟨[], [], 0, none, none, none, rfl, s0.trans s1, hp, s1 _ _ ef, .nil, pr, pinv_start S hn, Nat.le_refl _⟩ (fun i σ' H' ⟨_, _, _, _, _, _, _, _, h, _⟩ => sqL_of h) ?_ ?_
    · rintro i x σ' H' hx ⟨zs, found, many, begin, v5, v6, rfl, sH, hpp, hpf', hz, prH, hi, hfl⟩
      obtain ⟨t, hti, a', rfl, e1⟩ := Paired.at_ prH hx
      obtain ⟨hlt, het⟩ := List.getElem?_eq_some_iff.mp hti
      have hsplit : pts.take i ++ t :: pts.drop (i + 1) = pts := by
        rw [← het, ← List.drop_eq_getElem_cons hlt, List.take_append_drop]
      have hdrop : pts.drop i = t :: pts.drop (i + 1) := by rw [List.drop_eq_getElem_cons hlt, het]
      rw [hdrop] at hi
      have S2 : Steps (manyAt cs) (pts.take i ++ t :: pts.drop (i + 1)) := by rw [hsplit]; exact S
      have hM : manyAt cs t = many + delta cs t := by
        rw [delta_eq hok]
        exact (now_step S2 hi.now).1
      have hlz := Paired.len hz
      walk_at "ts"
      rw [← hM]
      cases begin with
      | none =>
        rw [show oVp none = V.non from rfl]
        walk_at "ts"
        refine Ts.q_iteD (fun h1 => ?_) (fun h1 => ?_)
        · walk_at "ts"
          exact ⟨zs, found, _, some t, _, _, rfl, sH, hpp, hpf', hz, prH, by rw [take_snoc hti]; exact pinv_begin S2 hi h1, by omega⟩
        · walk_at "ts"
          exact ⟨zs, found, _, none, _, _, rfl, sH, hpp, hpf', hz, prH, by rw [take_snoc hti]; exact pinv_stay S2 hi (.inl ⟨rfl, by omega⟩), by omega⟩
      | some b =>
        rw [show oVp (some b) = V.int b from rfl]
        walk_at "ts"
        refine Ts.q_iteD (fun h1 => ?_) (fun h1 => ?_)
        · walk_at "ts"
          rename_i pt hpt H2 s2 e2
          have hpf2 : H2 pf = some (.lst zs) := s2 _ _ hpf'
          refine Ts.q_append hpf2 (by omega) ?_
          have t2 := tsame_lst (ys := zs ++ [V.ref pt]) hpf2
          walk_at "ts"
          refine ⟨zs ++ [V.ref pt], found ++ [(b, t - 1)], _, none, _, _, rfl, same_mut (sH.trans s2) hpf, ?_, upd_same, ?_, ?_, ?_, ?_⟩
          · rw [upd_ne npf]
            exact s2 _ _ hpp
          · exact Paired.snoc ⟨pt, rfl, t2 _ _ e2⟩ ((hz.mono (tsame_of s2)).mono t2)
          · exact Paired.imp (fun _ _ r => (r.mono (tsame_of s2)).mono t2) prH
          · rw [take_snoc hti]
            exact pinv_end S2 hi h1
          · simp
            omega
        · walk_at "ts"
          exact ⟨zs, found, _, some b, _, _, rfl, sH, hpp, hpf', hz, prH, by rw [take_snoc hti]; exact pinv_stay S2 hi (.inr ⟨fun z => (nomatch z), by omega⟩), by omega⟩
    · rintro σ' H' ⟨zs, found, many, begin, v5, v6, rfl, sH, hpp, hpf', hz, prH, hi, hfl⟩
      rw [hly, List.take_length, List.drop_length] at hi
      walk_at "ts"
      exact q found zs pf H' sH hpf (parts_end S hn hi) hpf' hz (by omega)

/-! ### meets -/
def meets1 (o : Stc) (p : Int × Int) : Bool := match o with
  | none => false
  | some s => decide (s.1 ≤ p.2) && decide (p.1 ≤ s.2)
def meetsB (o : Stc) (ss : List (Int × Int)) : Bool := ss.any (meets1 o)
def sp_meets (K : PySem.W.Frag) : Sp := fun vs H Q _ => ∃ (v : V) (a : Addr) (o : Stc) (xs : List V) (ss : List (Int × Int)), vs = [v, .ref a] ∧ IsSt H v o ∧ H a = some (.lst xs) ∧ Prs H xs ss ∧ Q (.bl (meetsB o ss)) H
theorem c_meets {v : V} {a : Addr} {o : Stc} {xs : List V} {ss : List (Int × Int)} {H : Hp} {Q : VK} {E : XK} (h : IsSt H v o) (ha : H a = some (.lst xs)) (hx : Prs H xs ss) (q : Q (.bl (meetsB o ss)) H) : sp_meets K ([v, .ref a] ++ []) H Q E := ⟨v, a, o, xs, ss, rfl, h, ha, hx, q⟩
theorem ok_meets (T : Lw K mg) : FnOk P w K mg base CX0 1 T.f_meets T.fd_meets ["stretch", "some"] (sp_meets K) := by
  refine T.d_meets.F.ok sc_meets (fun vs H Q E h => ?_) (fun cdv A outer s H vs Q E hr h => ?_)
  · obtain ⟨v, a, o, xs, ss, rfl, _⟩ := h
    rfl
  · obtain ⟨v, a, o, xs, ss, rfl, hv, ha, hx, q⟩ := h
    have hlx := Paired.len hx
    have yes : ∀ p ∈ ss, meets1 o p = true → Q (.bl true) H := fun p hp e => by
      have : meetsB o ss = true := List.any_eq_true.mpr ⟨p, hp, e⟩
      rw [this] at q
      exact q
    refine ⟨_, (pss_cons (ps_for PassesOwn.never rfl (Ts.pi_listK K (pv 1)) (pg_name (i := 2) sc_meets.nd rfl (by first | exact Or.inl rfl | exact Or.inr rfl)) (pss_one (ps_if (PW.pt (pw_and (pt_cmpR op_notN1 (pv 0) pe_non (nomark _)) (pw_and (pt_cmpR op_le (pe_ix (Ts.ix_tupK K) (pv 0) pe_int (fun _ _ => rfl)) (pe_ix (Ts.ix_tupK K) (pv 2) pe_int (fun _ _ => rfl)) (nomark _)) (pw_and1 (pt_cmpR op_le (pe_ix (Ts.ix_tupK K) (pv 2) pe_int (fun _ _ => rfl)) (pe_ix (Ts.ix_tupK K) (pv 0) pe_int (fun _ _ => rfl)) (nomark _)))))) (pss_one (ps_ret pe_bl)) pss_nil))) (pss_one (ps_ret pe_bl))), ?_⟩
    walk_at "ts"
    refine Ts.q_forL xs (sqL_of ha) (fun i σ' H' => H' = H ∧ ∃ v2 : Option V, σ' = [some v, some (.ref a), v2] ∧ ∀ p ∈ ss.take i, meets1 o p = false)
      ⟨rfl, none, rfl, by simp⟩ (fun i σ' H' ⟨e, _⟩ => by rw [e]; exact sqL_of ha) ?_ ?_
    · rintro i x σ' H' hxx ⟨rfl, v2, rfl, hno⟩
      obtain ⟨p, hpi, a', rfl, e1⟩ := Paired.at_ hx hxx
      cases o with
      | none =>
        cases hv
        walk_at "ts"
        exact ⟨rfl, _, rfl, take_all hpi rfl hno⟩
      | some y =>
        obtain ⟨b, rfl, hb⟩ := hv
        walk_at "ts"
        refine Ts.q_iteD (fun h1 => ?_) (fun h1 => ?_)
        · walk_at "ts"
          refine Ts.q_iteD (fun h2 => ?_) (fun h2 => ?_)
          · walk_at "ts"
            exact yes p (List.mem_of_getElem? hpi) (by show (decide (y.1 ≤ p.2) && decide (p.1 ≤ y.2)) = true; rw [decide_eq_true h1, decide_eq_true h2]; rfl)
          · walk_at "ts"
            exact ⟨rfl, _, rfl, take_all hpi (by show (decide (y.1 ≤ p.2) && decide (p.1 ≤ y.2)) = false; rw [decide_eq_false h2, Bool.and_false]) hno⟩
        · walk_at "ts"
          exact ⟨rfl, _, rfl, take_all hpi (by show (decide (y.1 ≤ p.2) && decide (p.1 ≤ y.2)) = false; rw [decide_eq_false h1]; rfl) hno⟩
    · rintro σ' H' ⟨rfl, v2, rfl, hno⟩
      rw [hlx, List.take_length] at hno
      have : meetsB o ss = false := by
        unfold meetsB
        rw [List.any_eq_false]
        intro p hp
        rw [hno p hp]
        decide
      rw [this] at q
      walk_at "ts"
      exact q

end Law


namespace Law
open PySem PySem.Spec PyProof.Rows L2 Ts
variable {P : Program} {w : World} {K : PySem.W.Frag} {mg : Str → Option Value} {base : Heap}
local macro_rules | `(tactic| walk_at "ts call") => `(tactic| ((with_reducible apply c_l_cell_at); (focus walk_at "ts sq"); (focus omega); intro z ez))
local macro_rules | `(tactic| walk_at "ts call") => `(tactic| ((with_reducible apply c_l_mix); intro z ez z0 z1))
local macro_rules | `(tactic| walk_at "ts call") => `(tactic| ((with_reducible apply c_l_big); intro z H2 z0 z1 sz))
local macro_rules | `(tactic| walk_at "ts call") => `(tactic| ((with_reducible apply c_l_off); intro z H2 z0 z1 sz))
local macro_rules | `(tactic| walk_at "ts call") => `(tactic| with_reducible apply c_l_whole)
local macro_rules | `(tactic| walk_at "ts call") => `(tactic| ((with_reducible apply c_l_word); (focus omega); (focus omega); intro z hz lz))
local macro_rules | `(tactic| walk_at "ts call") => `(tactic| ((with_reducible apply c_l_names); intro b k p H2 lb lb2 s2 hp))
local macro_rules | `(tactic| walk_at "ts call") => `(tactic| ((with_reducible apply c_l_slack); (focus omega); (focus omega)))
local macro_rules | `(tactic| walk_at "ts call") => `(tactic| ((with_reducible apply c_slack); (focus omega); (focus omega)))
local macro_rules | `(tactic| walk_at "ts call") => `(tactic| ((with_reducible apply c_l_brought); (focus walk_at "ts hp"); (focus omega); (focus omega); intro b H2 s2 hb))
local macro_rules | `(tactic| walk_at "ts call") => `(tactic| ((with_reducible apply c_l_letter); (focus walk_at "ts sq"); (focus first | assumption | omega | (simp; omega)); (focus omega); intro L b H2 s2 hL nL okL))
local macro_rules | `(tactic| walk_at "ts call") => `(tactic| ((with_reducible apply c_l_gathered); (focus walk_at "ts hp"); (focus walk_at "ts ck"); (focus omega); (focus omega); (focus omega); (focus assumption); (focus assumption); intro ys p H2 s2 hfr hp hgc))

/-! ### sure -/
def oVi : Option Int → V
  | none => .non
  | some b => .int b
/-- how many may be wrong -/
def badOf (bd : Option Int) (n : Nat) : Int := bd.getD (((n : Int) - 1) / 2)
theorem q_eqNilC {p r : Addr} {xs : List V} {cs : List Clk} {H : Hp} {Q : VK} (h1 : H p = some (.lst xs)) (h2 : H r = some (.lst [])) (hp : Cks H xs cs) (hok : CksOk cs) (q0 : cs = [] → Q (.bl true) H) (q1 : cs ≠ [] → Q (.bl false) H) : rEqD K (.ref p) (.ref r) H Q := by
  refine ⟨.list (cs.map dCk), .list [], dp_lst (fun _ _ h => dp_ck h) h1 hp, .lst (sqL_of h2) .nil, shaped_list cs fun a ha => ok_dCk a (hok a ha).1, rfl, ?_⟩
  cases cs with
  | nil => exact q0 rfl
  | cons a r => exact q1 (by simp)
theorem q_eqNilP {p r : Addr} {xs : List V} {ss : List (Int × Int)} {H : Hp} {Q : VK} (h1 : H p = some (.lst xs)) (h2 : H r = some (.lst [])) (hp : Prs H xs ss) (q0 : ss = [] → Q (.bl true) H) (q1 : ss ≠ [] → Q (.bl false) H) : rEqD K (.ref p) (.ref r) H Q := by
  refine ⟨.list (ss.map dPr), .list [], dp_lst (fun _ _ h => dp_pr h) h1 hp, .lst (sqL_of h2) .nil, shaped_list ss fun a _ => ok_dPr a, rfl, ?_⟩
  cases ss with
  | nil => exact q0 rfl
  | cons a r => exact q1 (by simp)
theorem at_last {xs : List V} {v : V} (h : xs[xs.length - 1]? = some v) : atI xs (-1) = some v := by
  have hl := (List.getElem?_eq_some_iff.mp h).1
  unfold atI ixN
  rw [if_neg (by omega), if_pos (by omega)]
  have : ((-1 : Int) + (xs.length : Int)).toNat = xs.length - 1 := by omega
  rw [this]
  exact h
/-- what sure gives -/
def SureOk (cs : List Clk) (need : Int) (H' : Hp) (p : Addr) (pw ps : Addr) (ys : List V) (found : List (Int × Int)) (lo hi : Int) : Prop :=
  PartsOk (manyAt cs) need found ∧ (∃ x r, found = x :: r ∧ lo = x.1) ∧ (∃ x r, found = r ++ [x] ∧ hi = x.2) ∧ H' p = some (.tup [.int lo, .int hi, .ref pw, .ref ps]) ∧
  H' pw = some (.lst (((cs.filter fun c => !meetsB c.2 found).map Prod.fst).map V.str)) ∧ H' ps = some (.lst ys) ∧ Prs H' ys found ∧ found.length ≤ 100000
def sp_sure (CO CE CN CC : Addr) : Sp := fun vs H Q E => ∃ (a : Addr) (xs : List V) (ls : List Ltr) (n f : Int) (bd : Option Int), vs = [.ref a, .int n, .int f, oVi bd] ∧ H a = some (.lst xs) ∧ Lts H xs ls ∧ ls.length ≤ 1000 ∧
  (0 ≤ f → f ≤ 999 → (∀ L ∈ ls, L.back ≤ n) → CksOk (gathL (stOf n f) ls)) ∧
  (0 ≤ f → f ≤ 999 → (∀ L ∈ ls, L.back ≤ n) → gathL (stOf n f) ls ≠ [] → 0 ≤ badOf bd (gathL (stOf n f) ls).length → badOf bd (gathL (stOf n f) ls).length < (gathL (stOf n f) ls).length →
    ∀ p pw ps ys found lo hi H', Same H H' → H pw = none → H ps = none → pw ≠ ps → SureOk (gathL (stOf n f) ls) ((gathL (stOf n f) ls).length - badOf bd (gathL (stOf n f) ls).length) H' p pw ps ys found lo hi → Q (.ref p) H') ∧
  (¬ (0 ≤ f ∧ f ≤ 999) → E (.ref CO) none H) ∧ (0 ≤ f → f ≤ 999 → (∃ L ∈ ls, n < L.back) → ∀ H', Same H H' → E (.ref CE) none H') ∧
  (0 ≤ f → f ≤ 999 → (∀ L ∈ ls, L.back ≤ n) → gathL (stOf n f) ls = [] → ∀ H', Same H H' → E (.ref CN) none H') ∧
  (0 ≤ f → f ≤ 999 → (∀ L ∈ ls, L.back ≤ n) → gathL (stOf n f) ls ≠ [] → ¬ (0 ≤ badOf bd (gathL (stOf n f) ls).length ∧ badOf bd (gathL (stOf n f) ls).length < (gathL (stOf n f) ls).length) → ∀ H', Same H H' → E (.ref CC) none H') ∧
  (0 ≤ f → f ≤ 999 → (∀ L ∈ ls, L.back ≤ n) → gathL (stOf n f) ls ≠ [] → 0 ≤ badOf bd (gathL (stOf n f) ls).length → badOf bd (gathL (stOf n f) ls).length < (gathL (stOf n f) ls).length →
    PartsOk (manyAt (gathL (stOf n f) ls)) ((gathL (stOf n f) ls).length - badOf bd (gathL (stOf n f) ls).length) [] → ∀ H', Same H H' → E (.ref CN) none H')
theorem ok_sure (T : Lw K mg) : FnOk P w K mg base (L2.CX P w) 4 T.f_sure T.fd_sure ["letters", "now", "off", "bad"] (sp_sure T.C_BadOff T.C_TooEarly T.C_NoAgreement T.C_BadCount) := by
  refine T.d_sure.okX sc_sure (fun vs H Q E h => ?_) (fun cdv A outer s H vs Q E hr h => ?_)
  · obtain ⟨a, xs, ls, n, f, bd, rfl, _⟩ := h
    rfl
  · obtain ⟨a, xs, ls, n, f, bd, rfl, ha, hl, hlen, hcok, q, e1, e2, e3, e4, e5⟩ := h
    have hgl := len_gath (stOf n f) ls
    refine ⟨_, (pss_cons (ps_asg (pe_call ((ok_gathered T).mono (by decide)) hr rfl T.m_gathered T.d_gathered.F.kp T.d_gathered.b .nil (passes_call (takes_of rfl rfl rfl rfl) (fun _ _ _ _ h => h)) (pa_cons (pv 0) (pa_cons (pv 1) (pa_cons (pv 2) pa_nil)))) (pg_name (i := 4) sc_sure.nd rfl (by first | exact Or.inl rfl | exact Or.inr rfl))) (pss_cons (ps_if (pt_cmpR (Ts.op_eqK K hr.units) (pv 4) (pe_lst pa_nil) (nomark _)) (pss_one (ps_raise rfl (takes_of rfl rfl rfl rfl) (T.x_NoAgreement.mk' T.m_NoAgreement rfl))) pss_nil) (pss_cons (ps_if (pt_cmpR op_isN1 (pv 3) pe_non (nomark _)) (pss_one (ps_asg (pe_op op_fdiv (pe_op op_sub (pe_callB (Ts.call_lenK K) (by rfl) T.n_len (by decide +kernel) (pa_cons (pv 4) pa_nil)) pe_int) pe_int) (pg_name (i := 3) sc_sure.nd rfl (by first | exact Or.inl rfl | exact Or.inr rfl)))) pss_nil) (pss_cons (ps_if (PW.pt (pw_or (pt_cmpR op_lt (pv 3) pe_int (nomark _)) (pw_or1 (pt_cmpR op_ge (pv 3) (pe_callB (Ts.call_lenK K) (by rfl) T.n_len (by decide +kernel) (pa_cons (pv 4) pa_nil)) (nomark _))))) (pss_one (ps_raise rfl (takes_of rfl rfl rfl rfl) (T.x_BadCount.mk' T.m_BadCount rfl))) pss_nil) (pss_cons (ps_asg (pe_call ((ok_parts T).mono (by decide)) hr rfl T.m_parts T.d_parts.F.kp T.d_parts.b .nil pass0 (pa_cons (pv 4) (pa_cons (pe_op op_sub (pe_callB (Ts.call_lenK K) (by rfl) T.n_len (by decide +kernel) (pa_cons (pv 4) pa_nil)) (pv 3)) pa_nil))) (pg_name (i := 5) sc_sure.nd rfl (by first | exact Or.inl rfl | exact Or.inr rfl))) (pss_cons (ps_if (pt_cmpR (Ts.op_eqK K hr.units) (pv 5) (pe_lst pa_nil) (nomark _)) (pss_one (ps_raise rfl (takes_of rfl rfl rfl rfl) (T.x_NoAgreement.mk' T.m_NoAgreement rfl))) pss_nil) (pss_cons (ps_setLc (i := 6) (own := [("name", 7), ("stretch", 8)]) rfl sc_sure.nd rfl rfl (sw_true rfl rfl rfl (by decide +kernel)) (Ts.pi_listK K (pv 4)) (blkOk_by (own := [("name", 7), ("stretch", 8)]) (N := N_sure) (sc := defScope s_sure) (by decide +kernel)) (fun _ _ _ _ _ => Ts.pg_tupK K 2 (by rfl) (pgs_cons (pg_name (i := 7) sc_sure.nd rfl (Or.inl rfl)) (pgs_cons (pg_name (i := 8) sc_sure.nd rfl (Or.inl rfl)) pgs_nil))) (fun _ _ _ _ _ => pts_one (pt_not (pt_val (pe_call ((ok_meets T).mono (by decide)) hr rfl T.m_meets T.d_meets.F.kp T.d_meets.b .nil pass0 (pa_cons (pv 8) (pa_cons (pv 5) pa_nil)))))) (fun _ _ _ _ _ => (pv 7))) (pss_one (ps_ret (pe_tup (pa_cons (pe_ix (Ts.ix_tupK K) (pe_ix (Ts.ix_listK K) (pv 5) pe_int (fun _ _ => rfl)) pe_int (fun _ _ => rfl)) (pa_cons (pe_ix (Ts.ix_tupK K) (pe_ix (Ts.ix_listK K) (pv 5) (pe_un un_neg pe_int) (fun _ _ => rfl)) pe_int (fun _ _ => rfl)) (pa_cons (pv 6) (pa_cons (pv 5) pa_nil)))))))))))))), ?_⟩
    walk_at "ts"
    refine ⟨a, xs, ls, n, f, rfl, ha, hl, hlen, fun f0 f1 hb ys p1 H1 s1 hfr hp1 hck => ?_, e1, e2⟩
    have hok := hcok f0 f1 hb
    have hln := Paired.len hck
    replace q := q f0 f1 hb
    replace e3 := e3 f0 f1 hb
    replace e4 := e4 f0 f1 hb
    replace e5 := e5 f0 f1 hb
    clear e1 e2 hcok
    generalize gathL (stOf n f) ls = cs at *
    walk_at "ts"
    rename_i pe hpe He se ee
    refine q_eqNilC (se _ _ hp1) ee (hck.mono (tsame_of se)) hok (fun h0 => ?_) (fun h0 => ?_)
    · walk_at "ts"
      exact e3 h0 _ (s1.trans se)
    have hp1e : He p1 = some (.lst ys) := se _ _ hp1
    have hcke : Cks He ys cs := hck.mono (tsame_of se)
    have sHe : Same H He := s1.trans se
    replace q := q h0
    replace e4 := e4 h0
    replace e5 := e5 h0
    walk_at "ts toif"
    refine Ts.q_joinS (fun σ' H' => σ' = [some (.ref a), some (.int n), some (.int f), some (.int (badOf bd cs.length)), some (.ref p1), none, none, none, none] ∧ H' = He) ?_ ?_
    rotate_left
    · intro nx' hnx
      cases bd with
      | none =>
        rw [show oVi none = V.non from rfl]
        walk_at "ts"
        exact hnx _ _ ⟨by rw [hln]; rfl, rfl⟩
      | some b =>
        rw [show oVi (some b) = V.int b from rfl]
        walk_at "ts"
        exact hnx _ _ ⟨rfl, rfl⟩
    rintro σ' H' ⟨rfl, rfl⟩
    generalize badOf bd cs.length = B at *
    walk_at "ts"
    refine Ts.q_iteD (fun h1 => ?_) (fun h1 => ?_)
    · walk_at "ts"
      exact e4 (by omega) _ sHe
    walk_at "ts"
    refine Ts.q_iteD (fun h2 => ?_) (fun h2 => ?_)
    · walk_at "ts"
      exact e4 (by rw [hln] at h2; omega) _ sHe
    rw [hln] at h2
    walk_at "ts"
    refine c_parts hp1e hcke hok (by omega) (by rw [hln]; omega) fun found zs pp H2 s2 hfr2 pok hpp hpz hfl => ?_
    rw [hln] at pok
    have hlz := Paired.len hpz
    walk_at "ts"
    rename_i p3 hp3 H3 s3 e3'
    refine q_eqNilP (s3 _ _ hpp) e3' (hpz.mono (tsame_of s3)) (fun h3 => ?_) (fun h3 => ?_)
    · subst h3
      walk_at "ts"
      exact e5 (by omega) (by omega) pok _ ((sHe.trans s2).trans s3)
    walk_at "ts"
    have s23 := s2.trans s3
    refine Ts.q_lcL (sqL_of (s23 _ _ hp1e)) (by omega) (fun i => (cs[i]?).elim false fun c => !meetsB c.2 found) (fun i _ v => ∃ c, cs[i]? = some c ∧ v = .str c.1) (fun _ _ _ _ _ h => h) ?_ ?_
    · intro i x H4 QB QV hx s4 qb qv
      obtain ⟨c, hci, a', u, rfl, q1, q2⟩ := Paired.at_ (hcke.mono (tsame_of (s23.trans s4))) hx
      rw [hci] at qb qv
      walk_at "ts"
      refine ⟨rfl, ?_⟩
      walk_at "ts"
      refine c_meets q2 (s4 _ _ (s3 _ _ hpp)) (hpz.mono (tsame_of (s3.trans s4))) ?_
      walk_at "ts"
      cases hm : meetsB c.2 found with
      | true =>
        walk_at "ts"
        exact qb (by show (!meetsB c.2 found) = false; rw [hm]; rfl) _ (Same.refl _)
      | false =>
        walk_at "ts"
        exact qv _ _ (by show (!meetsB c.2 found) = true; rw [hm]; rfl) (Same.refl _) ⟨c, rfl, rfl⟩
    · intro ws pw H4 s4 hfw hpw pr
      rw [hln] at pr
      have pr2 := Ts.paired_filter (R := fun (c : Clk) v => v = V.str c.1) cs (fun c => !meetsB c.2 found) cs.length (Nat.le_refl _) ws pr
      rw [List.take_length] at pr2
      have ew := Ts.paired_eq pr2
      have ew2 : ws = ((cs.filter fun c => !meetsB c.2 found).map Prod.fst).map V.str := by rw [ew, List.map_map]; rfl
      have hpp4 : H4 pp = some (.lst zs) := s4 _ _ (s3 _ _ hpp)
      have hpz4 : Prs H4 zs found := hpz.mono (tsame_of (s3.trans s4))
      have npw : pw ≠ pp := fun e => by
        rw [e, s3 _ _ hpp] at hfw
        cases hfw
      have hpos : 0 < found.length := List.length_pos_iff.mpr h3
      obtain ⟨v0, hv0, a0, rfl, r0⟩ := Paired.at' hpz4 (List.getElem?_eq_getElem hpos)
      obtain ⟨v1, hv1, a1, rfl, r1⟩ := Paired.at' hpz4 (List.getElem?_eq_getElem (show found.length - 1 < found.length by omega))
      have x0 : ∃ x r, found = x :: r ∧ found[0].1 = x.1 := by
        cases found with
        | nil => exact absurd rfl h3
        | cons x r => exact ⟨x, r, rfl, rfl⟩
      have x1 : ∃ x r, found = r ++ [x] ∧ found[found.length - 1].2 = x.2 := by
        refine ⟨found.getLast h3, found.dropLast, (List.dropLast_concat_getLast h3).symm, ?_⟩
        rw [List.getLast_eq_getElem]
      walk_at "ts"
      refine Ts.q_ixL (sqL_of hpp4) (Ts.at0 hv0) ?_
      walk_at "ts"
      refine Ts.q_ixL (sqL_of hpp4) (at_last (by rw [hlz]; exact hv1)) ?_
      walk_at "ts"
      rename_i pr' hpr' H5 s5 e5'
      have sH3 : Same H H3 := sHe.trans s23
      exact q (by omega) (by omega) pr' pw pp zs found _ _ H5 ((sH3.trans s4).trans s5) (Same.free sH3 hfw) (Same.free sHe hfr2) npw ⟨pok, x0, x1, e5', by rw [← ew2]; exact s5 _ _ hpw, s5 _ _ hpp4, hpz4.mono (tsame_of s5), hfl⟩

end Law


namespace Law
open PySem PySem.Spec PyProof.Rows L2 Ts
variable {P : Program} {w : World} {K : PySem.W.Frag} {mg : Str → Option Value} {base : Heap}
local macro_rules | `(tactic| walk_at "ts call") => `(tactic| ((with_reducible apply c_l_cell_at); (focus walk_at "ts sq"); (focus omega); intro z ez))
local macro_rules | `(tactic| walk_at "ts call") => `(tactic| ((with_reducible apply c_l_mix); intro z ez z0 z1))
local macro_rules | `(tactic| walk_at "ts call") => `(tactic| ((with_reducible apply c_l_big); intro z H2 z0 z1 sz))
local macro_rules | `(tactic| walk_at "ts call") => `(tactic| ((with_reducible apply c_l_off); intro z H2 z0 z1 sz))
local macro_rules | `(tactic| walk_at "ts call") => `(tactic| with_reducible apply c_l_whole)
local macro_rules | `(tactic| walk_at "ts call") => `(tactic| ((with_reducible apply c_l_word); (focus omega); (focus omega); intro z hz lz))
local macro_rules | `(tactic| walk_at "ts call") => `(tactic| ((with_reducible apply c_l_names); intro b k p H2 lb lb2 s2 hp))
local macro_rules | `(tactic| walk_at "ts call") => `(tactic| ((with_reducible apply c_l_slack); (focus omega); (focus omega)))
local macro_rules | `(tactic| walk_at "ts call") => `(tactic| ((with_reducible apply c_slack); (focus omega); (focus omega)))
local macro_rules | `(tactic| walk_at "ts call") => `(tactic| ((with_reducible apply c_l_brought); (focus walk_at "ts hp"); (focus omega); (focus omega); intro b H2 s2 hb))
local macro_rules | `(tactic| walk_at "ts call") => `(tactic| ((with_reducible apply c_l_letter); (focus walk_at "ts sq"); (focus first | assumption | omega | (simp; omega)); (focus omega); intro L b H2 s2 hL nL okL))
local macro_rules | `(tactic| walk_at "ts call") => `(tactic| ((with_reducible apply c_l_gathered); (focus walk_at "ts hp"); (focus walk_at "ts ck"); (focus omega); (focus omega); (focus omega); (focus assumption); (focus assumption); intro ys p H2 s2 hfr hp hgc))

/-! ### how many bear a time, as the law counts -/
def sp_l_many (K : PySem.W.Frag) : Sp := fun vs H Q _ => ∃ (a : Addr) (xs : List V) (cs : List Clk) (t : Int), vs = [.ref a, .int t] ∧ H a = some (.lst xs) ∧ Cks H xs cs ∧ Q (.int (manyAt cs t)) H
theorem c_l_many {a : Addr} {xs : List V} {cs : List Clk} {t : Int} {H : Hp} {Q : VK} {E : XK} (h : H a = some (.lst xs)) (hc : Cks H xs cs) (q : Q (.int (manyAt cs t)) H) : sp_l_many K ([.ref a, .int t] ++ []) H Q E := ⟨a, xs, cs, t, rfl, h, hc, q⟩
theorem many_snoc {cs : List Clk} {i : Nat} {c : Clk} (h : cs[i]? = some c) (t : Int) : manyAt (cs.take (i + 1)) t = manyAt (cs.take i) t + one (bearsO c.2 t) := by
  rw [take_snoc h, manyAt_app]
  show _ + (one (bearsO c.2 t) + 0) = _
  omega
theorem ok_l_many (T : Lw K mg) : FnOk P w K mg base CX0 1 T.f_l_many T.fd_l_many ["_law_clocks","_law_point"] (sp_l_many K) := by
  refine T.d_l_many.F.ok sc_l_many (fun vs H Q E h => ?_) (fun cdv A outer s H vs Q E hr h => ?_)
  · obtain ⟨a, xs, cs, t, rfl, _⟩ := h
    rfl
  · obtain ⟨a, xs, cs, t, rfl, ha, hc, q⟩ := h
    have hlx := Paired.len hc
    refine ⟨_, (pss_cons (ps_asg pe_int (pg_name (i := 2) sc_l_many.nd rfl (by first | exact Or.inl rfl | exact Or.inr rfl))) (pss_cons (ps_for PassesOwn.never rfl (Ts.pi_listK K (pv 0)) (Ts.pg_tupK K 2 (by rfl) (pgs_cons (pg_name (i := 3) sc_l_many.nd rfl (by first | exact Or.inl rfl | exact Or.inr rfl)) (pgs_cons (pg_name (i := 4) sc_l_many.nd rfl (by first | exact Or.inl rfl | exact Or.inr rfl)) pgs_nil))) (pss_one (ps_if (PW.pt (pw_and (pt_cmpR op_notN1 (pv 4) pe_non (nomark _)) (pw_and (pt_cmpR op_le (pe_ix (Ts.ix_tupK K) (pv 4) pe_int (fun _ _ => rfl)) (pv 1) (nomark _)) (pw_and1 (pt_cmpR op_le (pv 1) (pe_ix (Ts.ix_tupK K) (pv 4) pe_int (fun _ _ => rfl)) (nomark _)))))) (pss_one (ps_asg (pe_op op_add (pv 2) pe_int) (pg_name (i := 2) sc_l_many.nd rfl (by first | exact Or.inl rfl | exact Or.inr rfl)))) pss_nil))) (pss_one (ps_ret (pv 2))))), ?_⟩
    walk_at "ts"
    refine Ts.q_forL xs (sqL_of ha) (fun i σ' H' => H' = H ∧ ∃ v3 v4 : Option V, σ' = [some (.ref a), some (.int t), some (.int (manyAt (cs.take i) t)), v3, v4]) ⟨rfl, none, none, rfl⟩ (fun i σ' H' ⟨e, _⟩ => by rw [e]; exact sqL_of ha) ?_ ?_
    · rintro i x σ' H' hx ⟨rfl, v3, v4, rfl⟩
      obtain ⟨c, hci, a', u, rfl, e1, e2⟩ := Paired.at_ hc hx
      rw [many_snoc hci]
      walk_at "ts"
      obtain ⟨nm, o⟩ := c
      cases o with
      | none =>
        cases e2
        walk_at "ts"
        exact ⟨rfl, _, _, by rw [show one (bearsO none t) = 0 from rfl, Int.add_zero]; rfl⟩
      | some y =>
        obtain ⟨b, rfl, hb⟩ := e2
        have e : bearsO (some y) t = (decide (y.1 ≤ t) && decide (t ≤ y.2)) := rfl
        rw [e]
        walk_at "ts"
        refine Ts.q_iteD (fun h1 => ?_) (fun h1 => ?_)
        · rw [decide_eq_true h1, Bool.true_and]
          walk_at "ts"
          refine Ts.q_iteD (fun h2 => ?_) (fun h2 => ?_)
          · rw [decide_eq_true h2]
            walk_at "ts"
            exact ⟨rfl, _, _, rfl⟩
          · rw [decide_eq_false h2]
            walk_at "ts"
            exact ⟨rfl, _, _, by rw [show one false = 0 from rfl, Int.add_zero]; rfl⟩
        · rw [decide_eq_false h1, Bool.false_and]
          walk_at "ts"
          exact ⟨rfl, _, _, by rw [show one false = 0 from rfl, Int.add_zero]; rfl⟩
    · rintro σ' H' ⟨rfl, v3, v4, rfl⟩
      rw [hlx, List.take_length]
      walk_at "ts"
      exact q
local macro_rules | `(tactic| walk_at "ts call") => `(tactic| ((with_reducible apply c_l_many); (focus walk_at "ts hp"); (focus walk_at "ts ck")))

/-! ### the lows -/
def sp_l_lows (K : PySem.W.Frag) : Sp := fun vs H Q _ => ∃ (a : Addr) (xs : List V) (cs : List Clk), vs = [.ref a] ∧ H a = some (.lst xs) ∧ Cks H xs cs ∧ cs.length ≤ 1000 ∧ ∀ p H', Same H H' → H' p = some (.lst ((lowsOf cs).map V.int)) → Q (.ref p) H'
theorem c_l_lows {a : Addr} {xs : List V} {cs : List Clk} {H : Hp} {Q : VK} {E : XK} (h : H a = some (.lst xs)) (hc : Cks H xs cs) (hl : cs.length ≤ 1000) (q : ∀ p H', Same H H' → H' p = some (.lst ((lowsOf cs).map V.int)) → Q (.ref p) H') : sp_l_lows K ([.ref a] ++ []) H Q E := ⟨a, xs, cs, rfl, h, hc, hl, q⟩
theorem lows_vals : ∀ {cs : List Clk} {ys : List V}, Paired (fun (c : Clk) y => ∃ s, c.2 = some s ∧ y = V.int s.1) (cs.filter fun c => c.2.isSome) ys → ys = (lowsOf cs).map V.int
  | [], _, .nil => rfl
  | (n, none) :: r, ys, h => lows_vals (cs := r) h
  | (n, some s) :: r, _, .cons ⟨s', e, q⟩ t => by
    cases e
    subst q
    show _ = V.int s.1 :: (lowsOf r).map V.int
    rw [← lows_vals (cs := r) t]
theorem ok_l_lows (T : Lw K mg) : FnOk P w K mg base CX0 1 T.f_l_lows T.fd_l_lows ["_law_clocks"] (sp_l_lows K) := by
  refine T.d_l_lows.F.ok sc_l_lows (fun vs H Q E h => ?_) (fun cdv A outer s H vs Q E hr h => ?_)
  · obtain ⟨a, xs, cs, rfl, _⟩ := h
    rfl
  · obtain ⟨a, xs, cs, rfl, ha, hc, hl, q⟩ := h
    have hlx := Paired.len hc
    refine ⟨_, (pss_one (ps_ret (pe_lc (own := [("_law_name", 1), ("_law_stretch", 2)]) rfl sc_l_lows.nd (Ts.pi_listK K (pv 0)) (blkOk_by (own := [("_law_name", 1), ("_law_stretch", 2)]) (N := N_l_lows) (sc := defScope s_l_lows) (by decide +kernel)) (fun _ _ _ _ _ => Ts.pg_tupK K 2 (by rfl) (pgs_cons (pg_name (i := 1) sc_l_lows.nd rfl (Or.inl rfl)) (pgs_cons (pg_name (i := 2) sc_l_lows.nd rfl (Or.inl rfl)) pgs_nil))) (fun _ _ _ _ _ => pts_one (pt_cmpR op_notN1 (pv 2) pe_non (nomark _))) (fun _ _ _ _ _ => (pe_ix (Ts.ix_tupK K) (pv 2) pe_int (fun _ _ => rfl)))))), ?_⟩
    walk_at "ts"
    refine Ts.q_lcL (sqL_of ha) (by omega) (fun i => (cs[i]?).elim false fun c => c.2.isSome) (fun i _ v => ∃ c, cs[i]? = some c ∧ ∃ s, c.2 = some s ∧ v = .int s.1) (fun _ _ _ _ _ h => h) ?_ ?_
    · intro i x H' QB QV hx s1 qb qv
      obtain ⟨c, hci, a', u, rfl, e1, e2⟩ := Paired.at_ (hc.mono (tsame_of s1)) hx
      rw [hci] at qb qv
      obtain ⟨nm, o⟩ := c
      walk_at "ts"
      refine ⟨rfl, ?_⟩
      cases o with
      | none =>
        cases e2
        walk_at "ts"
        exact qb rfl _ (Same.refl _)
      | some y =>
        obtain ⟨b, rfl, hb⟩ := e2
        walk_at "ts"
        exact qv _ _ rfl (Same.refl _) ⟨_, rfl, y, rfl, rfl⟩
    · intro ys D H' s1 hD hys pr
      rw [hlx] at pr
      have p2 := Ts.paired_filter (R := fun (c : Clk) y => ∃ s, c.2 = some s ∧ y = V.int s.1) cs (fun c => c.2.isSome) cs.length (Nat.le_refl _) ys pr
      rw [List.take_length] at p2
      exact q D H' s1 (by rw [hys, lows_vals p2])
local macro_rules | `(tactic| walk_at "ts call") => `(tactic| ((with_reducible apply c_l_lows); (focus walk_at "ts hp"); (focus walk_at "ts ck"); (focus omega); intro p H2 s2 hp))

/-! ### the edges -/
def sp_l_edges (K : PySem.W.Frag) : Sp := fun vs H Q _ => ∃ (a : Addr) (xs : List V) (cs : List Clk), vs = [.ref a] ∧ H a = some (.lst xs) ∧ Cks H xs cs ∧ cs.length ≤ 1000 ∧ ∀ (ns : List Int) p H', Same H H' → H' p = some (.lst (ns.map V.int)) → ns.length ≤ 2000 → Q (.ref p) H'
theorem c_l_edges {a : Addr} {xs : List V} {cs : List Clk} {H : Hp} {Q : VK} {E : XK} (h : H a = some (.lst xs)) (hc : Cks H xs cs) (hl : cs.length ≤ 1000) (q : ∀ (ns : List Int) p H', Same H H' → H' p = some (.lst (ns.map V.int)) → ns.length ≤ 2000 → Q (.ref p) H') : sp_l_edges K ([.ref a] ++ []) H Q E := ⟨a, xs, cs, rfl, h, hc, hl, q⟩
theorem ok_l_edges (T : Lw K mg) : FnOk P w K mg base CX0 1 T.f_l_edges T.fd_l_edges ["_law_clocks"] (sp_l_edges K) := by
  refine T.d_l_edges.F.ok sc_l_edges (fun vs H Q E h => ?_) (fun cdv A outer s H vs Q E hr h => ?_)
  · obtain ⟨a, xs, cs, rfl, _⟩ := h
    rfl
  · obtain ⟨a, xs, cs, rfl, ha, hc, hl, q⟩ := h
    have hlx := Paired.len hc
    refine ⟨_, (pss_cons (ps_asg (pe_lst pa_nil) (pg_name (i := 1) sc_l_edges.nd rfl (by first | exact Or.inl rfl | exact Or.inr rfl))) (pss_cons (ps_for PassesOwn.never rfl (Ts.pi_listK K (pv 0)) (Ts.pg_tupK K 2 (by rfl) (pgs_cons (pg_name (i := 2) sc_l_edges.nd rfl (by first | exact Or.inl rfl | exact Or.inr rfl)) (pgs_cons (pg_name (i := 3) sc_l_edges.nd rfl (by first | exact Or.inl rfl | exact Or.inr rfl)) pgs_nil))) (pss_one (ps_if (pt_cmpR op_notN1 (pv 3) pe_non (nomark _)) (pss_one (ps_asg (pe_op op_cat (pv 1) (pe_lst (pa_cons (pe_ix (Ts.ix_tupK K) (pv 3) pe_int (fun _ _ => rfl)) (pa_cons (pe_op op_add (pe_ix (Ts.ix_tupK K) (pv 3) pe_int (fun _ _ => rfl)) pe_int) pa_nil)))) (pg_name (i := 1) sc_l_edges.nd rfl (by first | exact Or.inl rfl | exact Or.inr rfl)))) pss_nil))) (pss_one (ps_ret (pv 1))))), ?_⟩
    walk_at "ts"
    rename_i p0 hp0 H0 s0 e0
    refine Ts.q_forL xs (sqL_of (s0 _ _ ha)) (fun i σ' H' => ∃ (ns : List Int) (p : Addr) (v2 v3 : Option V), σ' = [some (.ref a), some (.ref p), v2, v3] ∧ Same H H' ∧ H' p = some (.lst (ns.map V.int)) ∧ ns.length ≤ 2 * i)
      ⟨[], p0, none, none, rfl, s0, e0, Nat.le_refl _⟩ (fun i σ' H' ⟨_, _, _, _, _, s, _⟩ => sqL_of (s _ _ ha)) ?_ ?_
    · rintro i x σ' H' hx ⟨ns, p, v2, v3, rfl, sH, hp, hn⟩
      obtain ⟨c, hci, a', u, rfl, e1, e2⟩ := Paired.at_ (hc.mono (tsame_of sH)) hx
      have hlen : i < 1000 := by have := (List.getElem?_eq_some_iff.mp hx).1; omega
      walk_at "ts"
      obtain ⟨nm, o⟩ := c
      cases o with
      | none =>
        cases e2
        walk_at "ts"
        exact ⟨ns, p, _, _, rfl, sH, hp, by omega⟩
      | some y =>
        obtain ⟨b, rfl, hb⟩ := e2
        walk_at "ts"
        rename_i pq hpq H1 s1 e3
        refine Ts.q_cat (s1 _ _ hp) e3 (Ts.size_of (by simp; omega)) fun pr H2 s2 e4 => ?_
        walk_at "ts"
        exact ⟨ns ++ [y.1, y.2 + 1], pr, _, _, rfl, (sH.trans s1).trans s2, by rw [e4]; simp, by simp; omega⟩
    · rintro σ' H' ⟨ns, p, v2, v3, rfl, sH, hp, hn⟩
      walk_at "ts"
      exact q ns p H' sH hp (by omega)
local macro_rules | `(tactic| walk_at "ts call") => `(tactic| ((with_reducible apply c_l_edges); (focus walk_at "ts hp"); (focus walk_at "ts ck"); (focus omega); intro ns p H2 s2 hp hnl))

/-! ### what parts gives is right -/
theorem flip_ {α β : Type} {R : α → β → Prop} : ∀ {xs : List α} {ys : List β}, Paired R xs ys → Paired (fun y x => R x y) ys xs
  | _, _, .nil => .nil
  | _, _, .cons r t => .cons r (flip_ t)
theorem q_neNilP {p r : Addr} {xs : List V} {ss : List (Int × Int)} {H : Hp} {Q : VK} (h1 : H p = some (.lst xs)) (h2 : H r = some (.lst [])) (hp : Prs H xs ss) (q : Q (.bl (!ss.isEmpty)) H) : rNeD K (.ref p) (.ref r) H Q := by
  refine ⟨.list (ss.map dPr), .list [], dp_lst (fun _ _ h => dp_pr h) h1 hp, .lst (sqL_of h2) .nil, shaped_list ss fun a _ => ok_dPr a, rfl, ?_⟩
  cases ss with
  | nil => exact q
  | cons a r => exact q
def sp_l_parts_right (K : PySem.W.Frag) : Sp := fun vs H Q _ => ∃ (a b : Addr) (xs zs : List V) (cs : List Clk) (need : Int) (found : List (Int × Int)), vs = [.ref a, .int need, .ref b] ∧ H a = some (.lst xs) ∧ Cks H xs cs ∧ cs.length ≤ 1000 ∧ H b = some (.lst zs) ∧ Prs H zs found ∧ found.length ≤ 100000 ∧ PartsOk (manyAt cs) need found ∧ ∀ H', Same H H' → Q (.bl true) H'
theorem c_l_parts_right {a b : Addr} {xs zs : List V} {cs : List Clk} {need : Int} {found : List (Int × Int)} {H : Hp} {Q : VK} {E : XK} (h : H a = some (.lst xs)) (hc : Cks H xs cs) (hl : cs.length ≤ 1000) (hb : H b = some (.lst zs)) (hz : Prs H zs found) (hf : found.length ≤ 100000) (hok : PartsOk (manyAt cs) need found) (q : ∀ H', Same H H' → Q (.bl true) H') : sp_l_parts_right K ([.ref a, .int need, .ref b] ++ []) H Q E := ⟨a, b, xs, zs, cs, need, found, rfl, h, hc, hl, hb, hz, hf, hok, q⟩
/-- the one ahead -/
def aheadOf (found : List (Int × Int)) : Nat → V
  | 0 => .non
  | i + 1 => match found[i]? with
    | none => .non
    | some x => .int x.2
theorem ok_l_parts_right (T : Lw K mg) : FnOk P w K mg base CX0 2 T.f_l_parts_right T.fd_l_parts_right ["_law_clocks", "_law_need", "_law_found"] (sp_l_parts_right K) := by
  refine T.d_l_parts_right.F.ok sc_l_parts_right (fun vs H Q E h => ?_) (fun cdv A outer s H vs Q E hr h => ?_)
  · obtain ⟨a, b, xs, zs, cs, need, found, rfl, _⟩ := h
    rfl
  · obtain ⟨a, b, xs, zs, cs, need, found, rfl, ha, hc, hl, hb, hz, hf, hok, q⟩ := h
    have hlx := Paired.len hc
    have hlz := Paired.len hz
    refine ⟨_, (pss_cons (ps_if (pt_not (pt_val (pe_callB (Ts.call_isiK' K) (by rfl) T.n_isinstance (by decide +kernel) (pa_cons (pv 2) (pa_cons (pe_bltn (v := .ty "list") (by rfl) T.n_list (by decide +kernel) rfl) pa_nil))))) (pss_one (ps_ret pe_bl)) pss_nil) (pss_cons (ps_asg pe_non (pg_name (i := 3) sc_l_parts_right.nd rfl (by first | exact Or.inl rfl | exact Or.inr rfl))) (pss_cons (ps_for PassesOwn.never rfl (Ts.pi_listK K (pv 2)) (pg_name (i := 4) sc_l_parts_right.nd rfl (by first | exact Or.inl rfl | exact Or.inr rfl)) (pss_cons (ps_if (PW.pt (pw_or (pt_not (pt_val (pe_callB (Ts.call_isiK' K) (by rfl) T.n_isinstance (by decide +kernel) (pa_cons (pv 4) (pa_cons (pe_bltn (v := .ty "tuple") (by rfl) T.n_tuple (by decide +kernel) rfl) pa_nil))))) (pw_or (pt_cmpR op_ne (pe_callB (Ts.call_lenK K) (by rfl) T.n_len (by decide +kernel) (pa_cons (pv 4) pa_nil)) pe_int (nomark _)) (pw_or (pt_not (pt_val (pe_call ((ok_l_whole T).mono (by decide)) hr rfl T.m_l_whole T.d_l_whole.F.kp T.d_l_whole.b .nil pass0 (pa_cons (pe_ix (Ts.ix_tupK K) (pv 4) pe_int (fun _ _ => rfl)) pa_nil)))) (pw_or1 (pt_not (pt_val (pe_call ((ok_l_whole T).mono (by decide)) hr rfl T.m_l_whole T.d_l_whole.F.kp T.d_l_whole.b .nil pass0 (pa_cons (pe_ix (Ts.ix_tupK K) (pv 4) pe_int (fun _ _ => rfl)) pa_nil))))))))) (pss_one (ps_ret pe_bl)) pss_nil) (pss_cons (ps_if (PW.pt (pw_or (pt_cmpR op_gt (pe_ix (Ts.ix_tupK K) (pv 4) pe_int (fun _ _ => rfl)) (pe_ix (Ts.ix_tupK K) (pv 4) pe_int (fun _ _ => rfl)) (nomark _)) (pw_or1 (PW.pt (pw_and (pt_cmpR op_notN1 (pv 3) pe_non (nomark _)) (pw_and1 (pt_cmpR op_le (pe_ix (Ts.ix_tupK K) (pv 4) pe_int (fun _ _ => rfl)) (pe_op op_add (pv 3) pe_int) (nomark _)))))))) (pss_one (ps_ret pe_bl)) pss_nil) (pss_cons (ps_if (PW.pt (pw_or (pt_cmpR op_ge (pe_call ((ok_l_many T).mono (by decide)) hr rfl T.m_l_many T.d_l_many.F.kp T.d_l_many.b .nil pass0 (pa_cons (pv 0) (pa_cons (pe_op op_sub (pe_ix (Ts.ix_tupK K) (pv 4) pe_int (fun _ _ => rfl)) pe_int) pa_nil))) (pv 1) (nomark _)) (pw_or1 (pt_cmpR op_ge (pe_call ((ok_l_many T).mono (by decide)) hr rfl T.m_l_many T.d_l_many.F.kp T.d_l_many.b .nil pass0 (pa_cons (pv 0) (pa_cons (pe_op op_add (pe_ix (Ts.ix_tupK K) (pv 4) pe_int (fun _ _ => rfl)) pe_int) pa_nil))) (pv 1) (nomark _))))) (pss_one (ps_ret pe_bl)) pss_nil) (pss_one (ps_asg (pe_ix (Ts.ix_tupK K) (pv 4) pe_int (fun _ _ => rfl)) (pg_name (i := 3) sc_l_parts_right.nd rfl (by first | exact Or.inl rfl | exact Or.inr rfl)))))))) (pss_cons (ps_for PassesOwn.never rfl (Ts.pi_listK K (pe_op op_cat (pe_call ((ok_l_edges T).mono (by decide)) hr rfl T.m_l_edges T.d_l_edges.F.kp T.d_l_edges.b .nil pass0 (pa_cons (pv 0) pa_nil)) (pe_lc (own := [("_law_one", 4)]) rfl sc_l_parts_right.nd (Ts.pi_listK K (pv 2)) (blkOk_by (own := [("_law_one", 4)]) (N := N_l_parts_right) (sc := defScope s_l_parts_right) (by decide +kernel)) (fun _ _ _ _ _ => pg_name (i := 4) sc_l_parts_right.nd rfl (Or.inl rfl)) (fun _ _ _ _ _ => pts_nil) (fun _ _ _ _ _ => (pe_ix (Ts.ix_tupK K) (pv 4) pe_int (fun _ _ => rfl)))))) (pg_name (i := 5) sc_l_parts_right.nd rfl (by first | exact Or.inl rfl | exact Or.inr rfl)) (pss_cons (ps_asg (pe_cmpR (Ts.op_neK K hr.units) (pe_lc (own := [("_law_one", 4)]) rfl sc_l_parts_right.nd (Ts.pi_listK K (pv 2)) (blkOk_by (own := [("_law_one", 4)]) (N := N_l_parts_right) (sc := defScope s_l_parts_right) (by decide +kernel)) (fun _ _ _ _ _ => pg_name (i := 4) sc_l_parts_right.nd rfl (Or.inl rfl)) (fun _ _ _ _ _ => pts_one (PW.pt (pw_and (pt_cmpR op_le (pe_ix (Ts.ix_tupK K) (pv 4) pe_int (fun _ _ => rfl)) (pv 5) (nomark _)) (pw_and1 (pt_cmpR op_le (pv 5) (pe_ix (Ts.ix_tupK K) (pv 4) pe_int (fun _ _ => rfl)) (nomark _)))))) (fun _ _ _ _ _ => (pv 4))) (pe_lst pa_nil) (nomark _)) (pg_name (i := 6) sc_l_parts_right.nd rfl (by first | exact Or.inl rfl | exact Or.inr rfl))) (pss_one (ps_if (pt_cmpR op_ne (pv 6) (pe_cmpR op_ge (pe_call ((ok_l_many T).mono (by decide)) hr rfl T.m_l_many T.d_l_many.F.kp T.d_l_many.b .nil pass0 (pa_cons (pv 0) (pa_cons (pv 5) pa_nil))) (pv 1) (nomark _)) (nomark _)) (pss_one (ps_ret pe_bl)) pss_nil)))) (pss_one (ps_ret pe_bl)))))), ?_⟩
    walk_at "ts"
    refine Ts.q_forL zs (sqL_of hb) (fun i σ' H' => H' = H ∧ ∃ v4 v5 v6 : Option V, σ' = [some (.ref a), some (.int need), some (.ref b), some (aheadOf found i), v4, v5, v6])
      ⟨rfl, none, none, none, rfl⟩ (fun i σ' H' ⟨e, _⟩ => by rw [e]; exact sqL_of hb) ?_ ?_
    · rintro i x σ' H' hx ⟨rfl, v4, v5, v6, rfl⟩
      obtain ⟨y, hyi, a', rfl, e1⟩ := Paired.at_ hz hx
      obtain ⟨y1, y2, y3, y4⟩ := hok.each y (List.mem_of_getElem? hyi)
      have nxt : aheadOf found (i + 1) = .int y.2 := by
        show (match found[i]? with | none => V.non | some x => V.int x.2) = _
        rw [hyi]
      rw [nxt]
      walk_at "ts"
      refine Ts.q_iteD (fun z => (by omega)) (fun _ => ?_)
      walk_at "ts"
      have fin : ∀ (s : V), s = aheadOf found i → (s = .non ∨ ∃ z, s = .int z ∧ ¬ y.1 ≤ z + 1) := by
        rintro _ rfl
        cases i with
        | zero => exact .inl rfl
        | succ j =>
          obtain ⟨hj, ej⟩ := List.getElem?_eq_some_iff.mp hyi
          have hj' : j < found.length := by omega
          refine .inr ⟨found[j].2, ?_, ?_⟩
          · show (match found[j]? with | none => V.non | some x => V.int x.2) = _
            rw [List.getElem?_eq_getElem hj']
          · have := List.pairwise_iff_getElem.mp hok.ord j (j + 1) hj' hj (by omega)
            rw [ej] at this
            omega
      rcases fin _ rfl with e | ⟨z, e, hz1⟩
      · rw [e]
        walk_at "ts"
        refine Ts.q_iteD (fun z => (by omega)) (fun _ => ?_)
        walk_at "ts"
        refine Ts.q_iteD (fun z => (by omega)) (fun _ => ?_)
        walk_at "ts"
        exact ⟨rfl, _, _, _, rfl⟩
      · rw [e]
        walk_at "ts"
        refine Ts.q_iteD (fun z => (by omega)) (fun _ => ?_)
        walk_at "ts"
        refine Ts.q_iteD (fun z => (by omega)) (fun _ => ?_)
        walk_at "ts"
        refine Ts.q_iteD (fun z => (by omega)) (fun _ => ?_)
        walk_at "ts"
        exact ⟨rfl, _, _, _, rfl⟩
    · rintro σ' H' ⟨rfl, v4, v5, v6, rfl⟩
      walk_at "ts"
      rename_i ns pe H1 s1 hpe hnl
      refine Ts.q_lcL (sqL_of (s1 _ _ hb)) (by omega) (fun _ => true) (fun i _ v => ∃ y, found[i]? = some y ∧ v = .int y.1) (fun _ _ _ _ _ h => h) ?_ ?_
      · intro i x H2 QB QV hx s2 _ qv
        obtain ⟨y, hyi, a', rfl, e1⟩ := Paired.at_ (hz.mono (tsame_of (s1.trans s2))) hx
        walk_at "ts"
        refine ⟨rfl, ?_⟩
        walk_at "ts"
        exact qv _ _ rfl (Same.refl _) ⟨y, hyi, rfl⟩
      intro ys pd H2 s2 hpd hyd pr
      rw [filt_all, hlz] at pr
      have ey := Ts.paired_eq (f := fun y : Int × Int => V.int y.1) (by have := Ts.paired_range (R := fun v (y : Int × Int) => v = V.int y.1) pr; exact flip_ this)
      rw [ey] at hyd
      refine Ts.q_cat (s2 _ _ hpe) hyd (Ts.size_of (by simp; omega)) fun pq H3 s3 e3 => ?_
      walk_at "ts"
      have s13 := (s1.trans s2).trans s3
      have e3' : H3 pq = some (.lst ((ns ++ found.map (·.1)).map V.int)) := by rw [e3]; simp
      refine Ts.q_forL _ (sqL_of e3') (fun i σ' H' => ∃ v3 v4 v5 v6 : Option V, σ' = [some (.ref a), some (.int need), some (.ref b), v3, v4, v5, v6] ∧ Same H3 H')
        ⟨_, _, _, _, rfl, Same.refl _⟩ (fun i σ' H' ⟨_, _, _, _, _, s⟩ => sqL_of (s _ _ e3')) ?_ ?_
      · rintro i x σ' H' hx ⟨v3, v4, v5, v6, rfl, sH⟩
        obtain ⟨t, rfl⟩ : ∃ t, x = V.int t := by
          obtain ⟨t, _, e⟩ := List.mem_map.mp (List.mem_of_getElem? hx)
          exact ⟨t, e.symm⟩
        have hb' : H' b = some (.lst zs) := sH _ _ (s13 _ _ hb)
        have ha' : H' a = some (.lst xs) := sH _ _ (s13 _ _ ha)
        have hz' : Prs H' zs found := hz.mono (tsame_of (s13.trans sH))
        have hc' : Cks H' xs cs := hc.mono (tsame_of (s13.trans sH))
        walk_at "ts"
        refine Ts.q_lcL (sqL_of hb') (by omega) (fun i => (found[i]?).elim false fun y => decide (y.1 ≤ t) && decide (t ≤ y.2)) (fun i H v => ∃ y, found[i]? = some y ∧ IsPr H v y) (fun _ _ _ _ s ⟨y, h, r⟩ => ⟨y, h, r.mono s⟩) ?_ ?_
        · intro i x H4 QB QV hx s4 qb qv
          obtain ⟨y, hyi, a', rfl, e1⟩ := Paired.at_ (hz'.mono (tsame_of s4)) hx
          rw [hyi] at qb qv
          walk_at "ts"
          refine ⟨rfl, ?_⟩
          walk_at "ts"
          refine Ts.q_iteD (fun h1 => ?_) (fun h1 => ?_)
          · walk_at "ts"
            refine Ts.q_iteD (fun h2 => ?_) (fun h2 => ?_)
            · walk_at "ts"
              exact qv _ _ (by show (decide (y.1 ≤ t) && decide (t ≤ y.2)) = true; rw [decide_eq_true h1, decide_eq_true h2]; rfl) (Same.refl _) ⟨y, rfl, _, rfl, e1⟩
            · walk_at "ts"
              exact qb (by show (decide (y.1 ≤ t) && decide (t ≤ y.2)) = false; rw [decide_eq_false h2, Bool.and_false]) _ (Same.refl _)
          · walk_at "ts"
            exact qb (by show (decide (y.1 ≤ t) && decide (t ≤ y.2)) = false; rw [decide_eq_false h1]; rfl) _ (Same.refl _)
        intro ys2 pz H4 s4 hpz hyz pr3
        rw [hlz] at pr3
        have pr4 := Ts.paired_filter (R := fun (y : Int × Int) v => IsPr H4 v y) found (fun y => decide (y.1 ≤ t) && decide (t ≤ y.2)) found.length (Nat.le_refl _) ys2 pr3
        rw [List.take_length] at pr4
        walk_at "ts"
        rename_i p5 hp5 H5 s5 e5
        refine q_neNilP (s5 _ _ hyz) e5 (Prs.mono (tsame_of s5) (flip_ pr4)) ?_
        walk_at "ts"
        have key : (!((found.filter fun y => decide (y.1 ≤ t) && decide (t ≤ y.2)).isEmpty)) = decide (need ≤ manyAt cs t) := by
          by_cases hm : need ≤ manyAt cs t
          · rw [decide_eq_true hm]
            obtain ⟨y, hy, h1, h2⟩ := hok.all t hm
            have : y ∈ found.filter fun y => decide (y.1 ≤ t) && decide (t ≤ y.2) := List.mem_filter.mpr ⟨hy, by rw [decide_eq_true h1, decide_eq_true h2]; rfl⟩
            cases e : found.filter fun y => decide (y.1 ≤ t) && decide (t ≤ y.2) with
            | nil => rw [e] at this; cases this
            | cons _ _ => rfl
          · rw [decide_eq_false hm]
            cases e : found.filter fun y => decide (y.1 ≤ t) && decide (t ≤ y.2) with
            | nil => rfl
            | cons y r =>
              have hy : y ∈ found.filter fun y => decide (y.1 ≤ t) && decide (t ≤ y.2) := by rw [e]; exact List.mem_cons_self
              obtain ⟨h1, h2⟩ := List.mem_filter.mp hy
              rw [Bool.and_eq_true] at h2
              exact absurd ((hok.each y h1).2.2.2 t (of_decide_eq_true h2.1) (of_decide_eq_true h2.2)) hm
        rw [key]
        walk_at "ts"
        refine Ts.iteN_no rfl ?_
        walk_at "ts"
        exact ⟨_, _, _, _, rfl, (sH.trans s4).trans s5⟩
      · rintro σ' H' ⟨v3, v4, v5, v6, rfl, sH⟩
        walk_at "ts"
        exact q H' (s13.trans sH)

end Law


namespace Law
open PySem PySem.Spec PyProof.Rows L2 Ts
variable {P : Program} {w : World} {K : PySem.W.Frag} {mg : Str → Option Value} {base : Heap}
local macro_rules | `(tactic| walk_at "ts call") => `(tactic| ((with_reducible apply c_l_cell_at); (focus walk_at "ts sq"); (focus omega); intro z ez))
local macro_rules | `(tactic| walk_at "ts call") => `(tactic| ((with_reducible apply c_l_mix); intro z ez z0 z1))
local macro_rules | `(tactic| walk_at "ts call") => `(tactic| ((with_reducible apply c_l_big); intro z H2 z0 z1 sz))
local macro_rules | `(tactic| walk_at "ts call") => `(tactic| ((with_reducible apply c_l_off); intro z H2 z0 z1 sz))
local macro_rules | `(tactic| walk_at "ts call") => `(tactic| with_reducible apply c_l_whole)
local macro_rules | `(tactic| walk_at "ts call") => `(tactic| ((with_reducible apply c_l_word); (focus omega); (focus omega); intro z hz lz))
local macro_rules | `(tactic| walk_at "ts call") => `(tactic| ((with_reducible apply c_l_names); intro b k p H2 lb lb2 s2 hp))
local macro_rules | `(tactic| walk_at "ts call") => `(tactic| ((with_reducible apply c_l_slack); (focus omega); (focus omega)))
local macro_rules | `(tactic| walk_at "ts call") => `(tactic| ((with_reducible apply c_slack); (focus omega); (focus omega)))
local macro_rules | `(tactic| walk_at "ts call") => `(tactic| ((with_reducible apply c_l_brought); (focus walk_at "ts hp"); (focus omega); (focus omega); intro b H2 s2 hb))
local macro_rules | `(tactic| walk_at "ts call") => `(tactic| ((with_reducible apply c_l_letter); (focus walk_at "ts sq"); (focus first | assumption | omega | (simp; omega)); (focus omega); intro L b H2 s2 hL nL okL))
local macro_rules | `(tactic| walk_at "ts call") => `(tactic| ((with_reducible apply c_l_gathered); (focus walk_at "ts hp"); (focus walk_at "ts ck"); (focus omega); (focus omega); (focus omega); (focus assumption); (focus assumption); intro ys p H2 s2 hfr hp hgc))
local macro_rules | `(tactic| walk_at "ts call") => `(tactic| ((with_reducible apply c_l_many); (focus walk_at "ts hp"); (focus walk_at "ts ck")))
local macro_rules | `(tactic| walk_at "ts call") => `(tactic| ((with_reducible apply c_l_lows); (focus walk_at "ts hp"); (focus walk_at "ts ck"); (focus omega); intro p H2 s2 hp))
local macro_rules | `(tactic| walk_at "ts call") => `(tactic| ((with_reducible apply c_l_edges); (focus walk_at "ts hp"); (focus walk_at "ts ck"); (focus omega); intro ns p H2 s2 hp hnl))

/-! ### the answer that is due -/
/-- the word that is due: of the clocks cs and the number told -/
def DueW (cs : List Clk) (bd : Option Int) (z : Str) : Prop :=
  (cs = [] ∧ z = "none") ∨ (cs ≠ [] ∧ ¬ (0 ≤ badOf bd cs.length ∧ badOf bd cs.length < cs.length) ∧ z = "count") ∨
  (cs ≠ [] ∧ 0 ≤ badOf bd cs.length ∧ badOf bd cs.length < cs.length ∧ (∀ t, manyAt cs t < cs.length - badOf bd cs.length) ∧ z = "none") ∨
  (cs ≠ [] ∧ 0 ≤ badOf bd cs.length ∧ badOf bd cs.length < cs.length ∧ (∃ t, cs.length - badOf bd cs.length ≤ manyAt cs t) ∧ z = "")
theorem cksOk_of {ls : List Ltr} {n f : Int} (hok : ∀ L ∈ ls, LtOk L) (hb : ∀ L ∈ ls, L.back ≤ n) (f0 : 0 ≤ f) : CksOk (gathL (stOf n f) ls) := fun c hc => by
  obtain ⟨z, hz, rfl⟩ := List.mem_map.mp hc
  have hz2 := mem_firsts.mp hz
  refine ⟨?_, fun s es => ?_⟩
  · obtain ⟨L, hL, rfl⟩ := List.mem_map.mp hz2
    exact (hok L hL).1.ok
  · obtain ⟨o, ho⟩ := gval_some (psOf_has (st := stOf n f) hz2)
    have es : (gval (psOf (stOf n f) z ls)).getD none = some s := es
    rw [ho] at es
    have es : o = some s := es
    rw [es] at ho
    refine gval_le (fun p hp => ?_) ho
    obtain ⟨L, hL, _, rfl⟩ := psOf_mem hp
    exact st_ok (hok L hL) (hb L hL) f0
theorem q_eqNilI {p r : Addr} {ns : List Int} {H : Hp} {Q : VK} (h1 : H p = some (.lst (ns.map V.int))) (h2 : H r = some (.lst [])) (q0 : ns = [] → Q (.bl true) H) (q1 : ns ≠ [] → Q (.bl false) H) : rEqD K (.ref p) (.ref r) H Q := by
  have hd : ∀ ns : List Int, DpAll K H (ns.map V.int) (ns.map PyData.int) := fun ns => by
    induction ns with
    | nil => exact .nil
    | cons a r ih => exact .cons (.int a) ih
  refine ⟨.list (ns.map PyData.int), .list [], .lst (sqL_of h1) (hd ns), .lst (sqL_of h2) .nil, shaped_list ns fun a _ => ⟨rfl, by simp [PyData.depth]⟩, rfl, ?_⟩
  cases ns with
  | nil => exact q0 rfl
  | cons a r => exact q1 (by simp)
theorem len_lows : ∀ cs : List Clk, (lowsOf cs).length ≤ cs.length
  | [] => Nat.le_refl _
  | (_, none) :: r => Nat.le_succ_of_le (len_lows r)
  | (_, some _) :: r => Nat.succ_le_succ (len_lows r)
def sp_l_due (K : PySem.W.Frag) : Sp := fun vs H Q _ => ∃ (a : Addr) (xs : List V) (ls : List Ltr) (n f : Int) (bd : Option Int), vs = [.ref a, .int n, .int f, oVi bd] ∧ H a = some (.lst xs) ∧ Lts H xs ls ∧ ls.length ≤ 1000 ∧ 0 ≤ f ∧ f ≤ 999 ∧ (∀ L ∈ ls, LtOk L) ∧ (∀ L ∈ ls, L.back ≤ n) ∧
  ∀ z H', Same H H' → DueW (gathL (stOf n f) ls) bd z → Q (.str z) H'
theorem c_l_due {a : Addr} {xs : List V} {ls : List Ltr} {n f : Int} {bd : Option Int} {H : Hp} {Q : VK} {E : XK} (h : H a = some (.lst xs)) (hl : Lts H xs ls) (hn : ls.length ≤ 1000) (f0 : 0 ≤ f) (f1 : f ≤ 999) (hok : ∀ L ∈ ls, LtOk L) (hb : ∀ L ∈ ls, L.back ≤ n)
    (q : ∀ z H', Same H H' → DueW (gathL (stOf n f) ls) bd z → Q (.str z) H') : sp_l_due K ([.ref a, .int n, .int f, oVi bd] ++ []) H Q E := ⟨a, xs, ls, n, f, bd, rfl, h, hl, hn, f0, f1, hok, hb, q⟩
theorem ok_l_due (T : Lw K mg) : FnOk P w K mg base CX0 4 T.f_l_due T.fd_l_due ["_law_letters","_law_now","_law_off_here","_law_few"] (sp_l_due K) := by
  refine T.d_l_due.F.ok sc_l_due (fun vs H Q E h => ?_) (fun cdv A outer s H vs Q E hr h => ?_)
  · obtain ⟨a, xs, ls, n, f, bd, rfl, _⟩ := h
    rfl
  · obtain ⟨a, xs, ls, n, f, bd, rfl, ha, hl, hlen, f0, f1, hok, hb, q⟩ := h
    have hgl := len_gath (stOf n f) ls
    have hcok := cksOk_of hok hb f0
    refine ⟨_, (pss_cons (ps_asg (pe_call ((ok_l_gathered T).mono (by decide)) hr rfl T.m_l_gathered T.d_l_gathered.F.kp T.d_l_gathered.b .nil pass0 (pa_cons (pv 0) (pa_cons (pv 1) (pa_cons (pv 2) pa_nil)))) (pg_name (i := 4) sc_l_due.nd rfl (by first | exact Or.inl rfl | exact Or.inr rfl))) (pss_cons (ps_if (pt_cmpR (Ts.op_eqK K hr.units) (pv 4) (pe_lst pa_nil) (nomark _)) (pss_one (ps_ret pe_str)) pss_nil) (pss_cons (ps_if (pt_cmpR op_isN1 (pv 3) pe_non (nomark _)) (pss_one (ps_asg (pe_op op_fdiv (pe_op op_sub (pe_callB (Ts.call_lenK K) (by rfl) T.n_len (by decide +kernel) (pa_cons (pv 4) pa_nil)) pe_int) pe_int) (pg_name (i := 3) sc_l_due.nd rfl (by first | exact Or.inl rfl | exact Or.inr rfl)))) pss_nil) (pss_cons (ps_if (PW.pt (pw_or (pt_cmpR op_lt (pv 3) pe_int (nomark _)) (pw_or1 (pt_cmpR op_ge (pv 3) (pe_callB (Ts.call_lenK K) (by rfl) T.n_len (by decide +kernel) (pa_cons (pv 4) pa_nil)) (nomark _))))) (pss_one (ps_ret pe_str)) pss_nil) (pss_cons (ps_setLc (i := 5) (own := [("_law_low", 6)]) rfl sc_l_due.nd rfl rfl (sw_true rfl rfl rfl (by decide +kernel)) (Ts.pi_listK K (pe_call ((ok_l_lows T).mono (by decide)) hr rfl T.m_l_lows T.d_l_lows.F.kp T.d_l_lows.b .nil pass0 (pa_cons (pv 4) pa_nil))) (blkOk_by (own := [("_law_low", 6)]) (N := N_l_due) (sc := defScope s_l_due) (by decide +kernel)) (fun _ _ _ _ _ => pg_name (i := 6) sc_l_due.nd rfl (Or.inl rfl)) (fun _ _ _ _ _ => pts_one (pt_cmpR op_ge (pe_call ((ok_l_many T).mono (by decide)) hr rfl T.m_l_many T.d_l_many.F.kp T.d_l_many.b .nil pass0 (pa_cons (pv 4) (pa_cons (pv 6) pa_nil))) (pe_op op_sub (pe_callB (Ts.call_lenK K) (by rfl) T.n_len (by decide +kernel) (pa_cons (pv 4) pa_nil)) (pv 3)) (nomark _))) (fun _ _ _ _ _ => (pv 6))) (pss_cons (ps_if (pt_cmpR (Ts.op_eqK K hr.units) (pv 5) (pe_lst pa_nil) (nomark _)) (pss_one (ps_ret pe_str)) pss_nil) (pss_one (ps_ret pe_str)))))))), ?_⟩
    walk_at "ts"
    rename_i ys pc H1 s1 hfr hpc hgc pe hpe He se ee
    have hln := Paired.len hgc
    generalize gathL (stOf n f) ls = cs at *
    refine q_eqNilC (se _ _ hpc) ee (hgc.mono (tsame_of se)) hcok (fun h0 => ?_) (fun h0 => ?_)
    · walk_at "ts"
      exact q "none" _ (s1.trans se) (.inl ⟨h0, rfl⟩)
    have sHe : Same H He := s1.trans se
    have hpce : He pc = some (.lst ys) := se _ _ hpc
    have hgce : Cks He ys cs := hgc.mono (tsame_of se)
    clear s1 se hpc hgc
    walk_at "ts toif"
    refine Ts.q_joinS (fun σ' H' => σ' = [some (.ref a), some (.int n), some (.int f), some (.int (badOf bd cs.length)), some (.ref pc), none, none] ∧ H' = He) ?_ ?_
    rotate_left
    · intro nx' hnx
      cases bd with
      | none =>
        rw [show oVi none = V.non from rfl]
        walk_at "ts"
        exact hnx _ _ ⟨by rw [hln]; rfl, rfl⟩
      | some b =>
        rw [show oVi (some b) = V.int b from rfl]
        walk_at "ts"
        exact hnx _ _ ⟨rfl, rfl⟩
    rintro σ' H' ⟨rfl, rfl⟩
    walk_at "ts"
    refine Ts.q_iteD (fun h1 => ?_) (fun h1 => ?_)
    · walk_at "ts"
      exact q "count" _ sHe (.inr (.inl ⟨h0, fun z => by omega, rfl⟩))
    walk_at "ts"
    refine Ts.q_iteD (fun h2 => ?_) (fun h2 => ?_)
    · walk_at "ts"
      rw [hln] at h2
      exact q "count" _ sHe (.inr (.inl ⟨h0, fun z => by omega, rfl⟩))
    rw [hln] at h2
    walk_at "ts"
    rename_i pl H2 s2 hpl
    refine Ts.q_lcL (sqL_of hpl) (by rw [List.length_map]; have := len_lows cs; omega) (fun i => ((lowsOf cs)[i]?).elim false fun l => decide ((ys.length : Int) - badOf bd cs.length ≤ manyAt cs l)) (fun i _ v => ∃ l, (lowsOf cs)[i]? = some l ∧ v = .int l) (fun _ _ _ _ _ h => h) ?_ ?_
    · intro i x H3 QB QV hx s3 qb qv
      obtain ⟨l, hl, rfl⟩ := map_at hx
      rw [hl] at qb qv
      have hpc3 : H3 pc = some (.lst ys) := s3 _ _ (s2 _ _ hpce)
      have hgc3 : Cks H3 ys cs := hgce.mono (tsame_of (s2.trans s3))
      walk_at "ts"
      refine ⟨rfl, ?_⟩
      walk_at "ts"
      refine Ts.q_iteD (fun h3 => ?_) (fun h3 => ?_)
      · walk_at "ts"
        exact qv _ _ (decide_eq_true h3) (Same.refl _) ⟨l, rfl, rfl⟩
      · exact qb (decide_eq_false h3) _ (Same.refl _)
    · intro zs pz H3 s3 hfz hpz pr
      rw [List.length_map] at pr
      have pr2 := Ts.paired_filter (R := fun (l : Int) v => v = V.int l) (lowsOf cs) (fun l => decide ((ys.length : Int) - badOf bd cs.length ≤ manyAt cs l)) (lowsOf cs).length (Nat.le_refl _) zs pr
      rw [List.take_length, hln] at pr2
      have ez := Ts.paired_eq pr2
      rw [ez] at hpz
      walk_at "ts"
      rename_i pe3 hpe3 H4 s4 e4
      refine q_eqNilI (s4 _ _ hpz) e4 (fun h3 => ?_) (fun h3 => ?_)
      · walk_at "ts"
        refine q "none" _ (((sHe.trans s2).trans s3).trans s4) (.inr (.inr (.inl ⟨h0, by omega, by omega, fun t => ?_, rfl⟩)))
        by_cases ht : (cs.length : Int) - badOf bd cs.length ≤ manyAt cs t
        · obtain ⟨l, hl1, hl2⟩ := low_many (by omega) ht
          have : l ∈ (lowsOf cs).filter fun l => decide ((cs.length : Int) - badOf bd cs.length ≤ manyAt cs l) := List.mem_filter.mpr ⟨hl1, decide_eq_true hl2⟩
          rw [h3] at this
          cases this
        · omega
      · walk_at "ts"
        obtain ⟨l, hl⟩ := List.exists_mem_of_ne_nil _ h3
        obtain ⟨_, hl2⟩ := List.mem_filter.mp hl
        exact q "" _ (((sHe.trans s2).trans s3).trans s4) (.inr (.inr (.inr ⟨h0, by omega, by omega, ⟨l, of_decide_eq_true hl2⟩, rfl⟩)))

end Law


namespace Law
open PySem PySem.Spec PyProof.Rows L2 Ts
variable {P : Program} {w : World} {K : PySem.W.Frag} {mg : Str → Option Value} {base : Heap}
local macro_rules | `(tactic| walk_at "ts call") => `(tactic| ((with_reducible apply c_l_cell_at); (focus walk_at "ts sq"); (focus omega); intro z ez))
local macro_rules | `(tactic| walk_at "ts call") => `(tactic| ((with_reducible apply c_l_mix); intro z ez z0 z1))
local macro_rules | `(tactic| walk_at "ts call") => `(tactic| ((with_reducible apply c_l_big); intro z H2 z0 z1 sz))
local macro_rules | `(tactic| walk_at "ts call") => `(tactic| ((with_reducible apply c_l_off); intro z H2 z0 z1 sz))
local macro_rules | `(tactic| walk_at "ts call") => `(tactic| with_reducible apply c_l_whole)
local macro_rules | `(tactic| walk_at "ts call") => `(tactic| ((with_reducible apply c_l_word); (focus omega); (focus omega); intro z hz lz))
local macro_rules | `(tactic| walk_at "ts call") => `(tactic| ((with_reducible apply c_l_names); intro b k p H2 lb lb2 s2 hp))
local macro_rules | `(tactic| walk_at "ts call") => `(tactic| ((with_reducible apply c_l_slack); (focus omega); (focus omega)))
local macro_rules | `(tactic| walk_at "ts call") => `(tactic| ((with_reducible apply c_slack); (focus omega); (focus omega)))
local macro_rules | `(tactic| walk_at "ts call") => `(tactic| ((with_reducible apply c_l_brought); (focus walk_at "ts hp"); (focus omega); (focus omega); intro b H2 s2 hb))
local macro_rules | `(tactic| walk_at "ts call") => `(tactic| ((with_reducible apply c_l_letter); (focus walk_at "ts sq"); (focus first | assumption | omega | (simp; omega)); (focus omega); intro L b H2 s2 hL nL okL))
local macro_rules | `(tactic| walk_at "ts call") => `(tactic| ((with_reducible apply c_l_gathered); (focus walk_at "ts hp"); (focus walk_at "ts ck"); (focus omega); (focus omega); (focus omega); (focus assumption); (focus assumption); intro ys p H2 s2 hfr hp hgc))
local macro_rules | `(tactic| walk_at "ts call") => `(tactic| ((with_reducible apply c_l_many); (focus walk_at "ts hp"); (focus walk_at "ts ck")))
local macro_rules | `(tactic| walk_at "ts call") => `(tactic| ((with_reducible apply c_l_lows); (focus walk_at "ts hp"); (focus walk_at "ts ck"); (focus omega); intro p H2 s2 hp))
local macro_rules | `(tactic| walk_at "ts call") => `(tactic| ((with_reducible apply c_l_edges); (focus walk_at "ts hp"); (focus walk_at "ts ck"); (focus omega); intro ns p H2 s2 hp hnl))

/-! ### what sure gives is right -/
theorem q_notB {bd : Option Int} {H : Hp} {Q : VK} (q : Q (.bl bd.isSome) H) : rNotN (oVi bd) .non H Q := by
  cases bd with
  | none => exact ⟨rfl, q⟩
  | some b => exact ⟨rfl, q⟩
theorem at_bd {bd : Option Int} {x z : Int} (h1 : bd.isSome = true → z = 1) (h0 : bd.isSome = false → z = 0) : atI [.int x, oVi bd] z = some (.int (bd.getD x)) := by
  cases bd with
  | none =>
    have := h0 rfl
    subst this
    exact Ts.at0 rfl
  | some b =>
    have := h1 rfl
    subst this
    exact Ts.at1 rfl
/-- the names of those that bear no such time -/
def wrongs (cs : List Clk) (found : List (Int × Int)) : List Str := (cs.filter fun c => !meetsB c.2 found).map Prod.fst
theorem wrongs_snoc {cs : List Clk} {found : List (Int × Int)} {i : Nat} {c : Clk} (h : cs[i]? = some c) : wrongs (cs.take (i + 1)) found = wrongs (cs.take i) found ++ if meetsB c.2 found = true then [] else [c.1] := by
  unfold wrongs
  rw [take_snoc h, List.filter_append, List.map_append, List.filter_cons]
  cases meetsB c.2 found <;> rfl
theorem wrongs_len (cs : List Clk) (found : List (Int × Int)) : (wrongs cs found).length ≤ cs.length := by
  unfold wrongs
  rw [List.length_map]
  exact List.length_filter_le _ _
def sp_l_sure_right (K : PySem.W.Frag) : Sp := fun vs H Q _ => ∃ (a p pw ps : Addr) (xs ys : List V) (ls : List Ltr) (n f lo hi : Int) (bd : Option Int) (found : List (Int × Int)), vs = [.ref a, .int n, .int f, oVi bd, .ref p] ∧ H a = some (.lst xs) ∧ Lts H xs ls ∧ ls.length ≤ 1000 ∧ 0 ≤ f ∧ f ≤ 999 ∧ (∀ L ∈ ls, LtOk L) ∧ (∀ L ∈ ls, L.back ≤ n) ∧
  0 ≤ badOf bd (gathL (stOf n f) ls).length ∧ badOf bd (gathL (stOf n f) ls).length < (gathL (stOf n f) ls).length ∧ SureOk (gathL (stOf n f) ls) ((gathL (stOf n f) ls).length - badOf bd (gathL (stOf n f) ls).length) H p pw ps ys found lo hi ∧ ∀ H', Same H H' → Q (.bl true) H'
theorem c_l_sure_right {a p pw ps : Addr} {xs ys : List V} {ls : List Ltr} {n f lo hi : Int} {bd : Option Int} {found : List (Int × Int)} {H : Hp} {Q : VK} {E : XK} (h : H a = some (.lst xs)) (hl : Lts H xs ls) (hn : ls.length ≤ 1000) (f0 : 0 ≤ f) (f1 : f ≤ 999) (hok : ∀ L ∈ ls, LtOk L) (hb : ∀ L ∈ ls, L.back ≤ n)
    (b0 : 0 ≤ badOf bd (gathL (stOf n f) ls).length) (b1 : badOf bd (gathL (stOf n f) ls).length < (gathL (stOf n f) ls).length) (sk : SureOk (gathL (stOf n f) ls) ((gathL (stOf n f) ls).length - badOf bd (gathL (stOf n f) ls).length) H p pw ps ys found lo hi)
    (q : ∀ H', Same H H' → Q (.bl true) H') : sp_l_sure_right K ([.ref a, .int n, .int f, oVi bd, .ref p] ++ []) H Q E := ⟨a, p, pw, ps, xs, ys, ls, n, f, lo, hi, bd, found, rfl, h, hl, hn, f0, f1, hok, hb, b0, b1, sk, q⟩
theorem ok_l_sure_right (T : Lw K mg) : FnOk P w K mg base CX0 4 T.f_l_sure_right T.fd_l_sure_right ["_law_letters","_law_now","_law_off_here","_law_few","_law_found"] (sp_l_sure_right K) := by
  refine T.d_l_sure_right.F.ok sc_l_sure_right (fun vs H Q E h => ?_) (fun cdv A outer s H vs Q E hr h => ?_)
  · obtain ⟨a, p, pw, ps, xs, ys, ls, n, f, lo, hi, bd, found, rfl, _⟩ := h
    rfl
  · obtain ⟨a, p, pw, ps, xs, ys, ls, n, f, lo, hi, bd, found, rfl, ha, hl, hlen, f0, f1, hok, hb, b0, b1, sk, q⟩ := h
    have hgl := len_gath (stOf n f) ls
    have hcok := cksOk_of hok hb f0
    refine ⟨_, (pss_cons (ps_asg (pe_call ((ok_l_gathered T).mono (by decide)) hr rfl T.m_l_gathered T.d_l_gathered.F.kp T.d_l_gathered.b .nil pass0 (pa_cons (pv 0) (pa_cons (pv 1) (pa_cons (pv 2) pa_nil)))) (pg_name (i := 5) sc_l_sure_right.nd rfl (by first | exact Or.inl rfl | exact Or.inr rfl))) (pss_cons (ps_asg (pe_op op_sub (pe_callB (Ts.call_lenK K) (by rfl) T.n_len (by decide +kernel) (pa_cons (pv 5) pa_nil)) (pe_ix (Ts.ix_listK K) (pe_lst (pa_cons (pe_op op_fdiv (pe_op op_sub (pe_callB (Ts.call_lenK K) (by rfl) T.n_len (by decide +kernel) (pa_cons (pv 5) pa_nil)) pe_int) pe_int) (pa_cons (pv 3) pa_nil))) (pe_callTy call_int1' (by rfl) T.n_int (by decide +kernel) (pa_cons (pe_cmpR op_notN1 (pv 3) pe_non (nomark _)) pa_nil)) (fun _ _ => rfl))) (pg_name (i := 6) sc_l_sure_right.nd rfl (by first | exact Or.inl rfl | exact Or.inr rfl))) (pss_cons (ps_if (PW.pt (pw_or (pt_not (pt_val (pe_callB (Ts.call_isiK' K) (by rfl) T.n_isinstance (by decide +kernel) (pa_cons (pv 4) (pa_cons (pe_bltn (v := .ty "tuple") (by rfl) T.n_tuple (by decide +kernel) rfl) pa_nil))))) (pw_or (pt_cmpR op_ne (pe_callB (Ts.call_lenK K) (by rfl) T.n_len (by decide +kernel) (pa_cons (pv 4) pa_nil)) pe_int (nomark _)) (pw_or1 (pt_not (pt_val (pe_callB (Ts.call_isiK' K) (by rfl) T.n_isinstance (by decide +kernel) (pa_cons (pe_ix (Ts.ix_tupK K) (pv 4) pe_int (fun _ _ => rfl)) (pa_cons (pe_bltn (v := .ty "list") (by rfl) T.n_list (by decide +kernel) rfl) pa_nil))))))))) (pss_one (ps_ret pe_bl)) pss_nil) (pss_cons (ps_asg (pv 4) (Ts.pg_tupK K 4 (by rfl) (pgs_cons (pg_name (i := 7) sc_l_sure_right.nd rfl (by first | exact Or.inl rfl | exact Or.inr rfl)) (pgs_cons (pg_name (i := 8) sc_l_sure_right.nd rfl (by first | exact Or.inl rfl | exact Or.inr rfl)) (pgs_cons (pg_name (i := 9) sc_l_sure_right.nd rfl (by first | exact Or.inl rfl | exact Or.inr rfl)) (pgs_cons (pg_name (i := 10) sc_l_sure_right.nd rfl (by first | exact Or.inl rfl | exact Or.inr rfl)) pgs_nil)))))) (pss_cons (ps_if (PW.pt (pw_or (pt_not (pt_val (pe_call ((ok_l_parts_right T).mono (by decide)) hr rfl T.m_l_parts_right T.d_l_parts_right.F.kp T.d_l_parts_right.b .nil pass0 (pa_cons (pv 5) (pa_cons (pv 6) (pa_cons (pv 10) pa_nil)))))) (pw_or1 (pt_cmpR (Ts.op_eqK K hr.units) (pv 10) (pe_lst pa_nil) (nomark _))))) (pss_one (ps_ret pe_bl)) pss_nil) (pss_cons (ps_if (PW.pt (pw_or (pt_not (pt_val (pe_call ((ok_l_whole T).mono (by decide)) hr rfl T.m_l_whole T.d_l_whole.F.kp T.d_l_whole.b .nil pass0 (pa_cons (pv 7) pa_nil)))) (pw_or (pt_not (pt_val (pe_call ((ok_l_whole T).mono (by decide)) hr rfl T.m_l_whole T.d_l_whole.F.kp T.d_l_whole.b .nil pass0 (pa_cons (pv 8) pa_nil)))) (pw_or1 (pt_cmpR (Ts.op_neK K hr.units) (pe_tup (pa_cons (pv 7) (pa_cons (pv 8) pa_nil))) (pe_tup (pa_cons (pe_ix (Ts.ix_tupK K) (pe_ix (Ts.ix_listK K) (pv 10) pe_int (fun _ _ => rfl)) pe_int (fun _ _ => rfl)) (pa_cons (pe_ix (Ts.ix_tupK K) (pe_ix (Ts.ix_listK K) (pv 10) (pe_un un_neg pe_int) (fun _ _ => rfl)) pe_int (fun _ _ => rfl)) pa_nil))) (nomark _)))))) (pss_one (ps_ret pe_bl)) pss_nil) (pss_cons (ps_if (PW.pt (pw_or (pt_cmpR op_lt (pe_call ((ok_l_many T).mono (by decide)) hr rfl T.m_l_many T.d_l_many.F.kp T.d_l_many.b .nil pass0 (pa_cons (pv 5) (pa_cons (pv 7) pa_nil))) (pv 6) (nomark _)) (pw_or1 (pt_cmpR op_lt (pe_call ((ok_l_many T).mono (by decide)) hr rfl T.m_l_many T.d_l_many.F.kp T.d_l_many.b .nil pass0 (pa_cons (pv 5) (pa_cons (pv 8) pa_nil))) (pv 6) (nomark _))))) (pss_one (ps_ret pe_bl)) pss_nil) (pss_cons (ps_asg (pe_lst pa_nil) (pg_name (i := 11) sc_l_sure_right.nd rfl (by first | exact Or.inl rfl | exact Or.inr rfl))) (pss_cons (ps_for PassesOwn.never rfl (Ts.pi_listK K (pv 5)) (Ts.pg_tupK K 2 (by rfl) (pgs_cons (pg_name (i := 12) sc_l_sure_right.nd rfl (by first | exact Or.inl rfl | exact Or.inr rfl)) (pgs_cons (pg_name (i := 13) sc_l_sure_right.nd rfl (by first | exact Or.inl rfl | exact Or.inr rfl)) pgs_nil))) (pss_one (ps_if (pt_cmpR op_isN1 (pv 13) pe_non (nomark _)) (pss_one (ps_expr (pe_bm PySem.F.plainAttrs_list PySem.F.slot_list_append PySem.F.type_list_append mt_append (pv 11) (pa_cons (pv 12) pa_nil)))) (pss_one (ps_if (pt_cmpR (Ts.op_eqK K hr.units) (pe_lc (own := [("_law_one", 14)]) rfl sc_l_sure_right.nd (Ts.pi_listK K (pv 10)) (blkOk_by (own := [("_law_one", 14)]) (N := N_l_sure_right) (sc := defScope s_l_sure_right) (by decide +kernel)) (fun _ _ _ _ _ => pg_name (i := 14) sc_l_sure_right.nd rfl (Or.inl rfl)) (fun _ _ _ _ _ => pts_one (PW.pt (pw_and (pt_cmpR op_le (pe_ix (Ts.ix_tupK K) (pv 14) pe_int (fun _ _ => rfl)) (pe_ix (Ts.ix_tupK K) (pv 13) pe_int (fun _ _ => rfl)) (nomark _)) (pw_and1 (pt_cmpR op_le (pe_ix (Ts.ix_tupK K) (pv 13) pe_int (fun _ _ => rfl)) (pe_ix (Ts.ix_tupK K) (pv 14) pe_int (fun _ _ => rfl)) (nomark _)))))) (fun _ _ _ _ _ => (pv 14))) (pe_lst pa_nil) (nomark _)) (pss_one (ps_expr (pe_bm PySem.F.plainAttrs_list PySem.F.slot_list_append PySem.F.type_list_append mt_append (pv 11) (pa_cons (pv 12) pa_nil)))) pss_nil))))) (pss_one (ps_ret (pe_cmpR (Ts.op_eqK K hr.units) (pv 9) (pv 11) (nomark _))))))))))))), ?_⟩
    walk_at "ts"
    rename_i zs pc H1 s1 hfr hpc hgc pn hpn H2 s2 e2
    have hln := Paired.len hgc
    generalize gathL (stOf n f) ls = cs at *
    obtain ⟨pok, ⟨x0, r0, ef0, rfl⟩, ⟨x1, r1, ef1, rfl⟩, hp, hpw, hps, hys, hfl⟩ := sk
    refine q_notB ?_
    walk_at "ts"
    rename_i z z0 z1 zt zf
    refine Ts.q_ixL (sqL_of e2) (at_bd zt zf) ?_
    have hB : bd.getD (((zs.length : Int) - 1) / 2) = badOf bd cs.length := by rw [hln]; rfl
    rw [hB, hln]
    generalize badOf bd cs.length = B at *
    have s12 := s1.trans s2
    have hp2 := s12 _ _ hp
    have hpw2 := s12 _ _ hpw
    have hps2 := s12 _ _ hps
    have hys2 : Prs H2 ys found := hys.mono (tsame_of s12)
    have hpc2 := s2 _ _ hpc
    have hgc2 : Cks H2 zs cs := hgc.mono (tsame_of s2)
    walk_at "ts"
    refine Ts.q_tup4 (by walk_at "ts sq") ?_
    walk_at "ts"
    refine c_l_parts_right hpc2 hgc2 (by omega) hps2 hys2 hfl pok fun H3 s3 => ?_
    walk_at "ts"
    rename_i p4 hp4 H4 s4 e4
    have hne : found ≠ [] := by rw [ef0]; simp
    have s34 := s3.trans s4
    have hps4 := s34 _ _ hps2
    have hys4 : Prs H4 ys found := hys2.mono (tsame_of s34)
    have hpw4 := s34 _ _ hpw2
    have hpc4 := s34 _ _ hpc2
    have hgc4 : Cks H4 zs cs := hgc2.mono (tsame_of s34)
    have hlz := Paired.len hys4
    refine q_eqNilP hps4 e4 hys4 (fun h => absurd h hne) (fun _ => ?_)
    walk_at "ts"
    have hpos : 0 < found.length := List.length_pos_iff.mpr hne
    obtain ⟨v0, hv0, a0, rfl, r0'⟩ := Paired.at' hys4 (List.getElem?_eq_getElem hpos)
    obtain ⟨v1, hv1, a1, rfl, r1'⟩ := Paired.at' hys4 (List.getElem?_eq_getElem (show found.length - 1 < found.length by omega))
    have e0 : found[0] = x0 := by
      have : found[0]? = some x0 := by rw [ef0]; rfl
      rw [List.getElem?_eq_getElem hpos] at this
      exact Option.some.inj this
    have e1 : found[found.length - 1] = x1 := by
      have : found[found.length - 1]? = some x1 := by rw [ef1]; simp
      rw [List.getElem?_eq_getElem (by omega)] at this
      exact Option.some.inj this
    rw [e0] at r0'
    rw [e1] at r1'
    have sH4 : Same H H4 := s12.trans s34
    clear hp2 hpw2 hps2 hys2 hpc2 hgc2 hp hpw hps hys hpc hgc s1 s2 s3 s4 s12 s34
    refine Ts.q_ixL (sqL_of (by walk_at "ts hp")) (Ts.at0 hv0) ?_
    walk_at "ts"
    refine Ts.q_ixL (sqL_of (by walk_at "ts hp")) (at_last (by rw [hlz]; exact hv1)) ?_
    walk_at "ts"
    refine Ts.q_neSame (dp_pair (by walk_at "ts hp")) (dp_pair (by walk_at "ts hp")) rfl ?_
    walk_at "ts"
    obtain ⟨m1, _, _, m2⟩ := pok.each x0 (by rw [ef0]; exact List.mem_cons_self)
    obtain ⟨m3, _, _, m4⟩ := pok.each x1 (by rw [ef1]; simp)
    have k0 := m2 x0.1 (Int.le_refl _) m1
    have k1 := m4 x1.2 m3 (Int.le_refl _)
    refine Ts.q_iteD (fun h => absurd h (by omega)) (fun _ => ?_)
    walk_at "ts"
    refine Ts.q_iteD (fun h => absurd h (by omega)) (fun _ => ?_)
    walk_at "ts"
    rename_i pd hpd H5 s5 e5
    have s45 : Same H4 H5 := by walk_at "ts same"
    have npd : H4 pd = none := Same.free (by walk_at "ts same") hpd
    refine Ts.q_forL zs (sqL_of (s45 _ _ hpc4)) (fun i σ' H' => ∃ v12 v13 : Option V, σ' = [some (.ref a), some (.int n), some (.int f), some (oVi bd), some (.ref p), some (.ref pc), some (.int (cs.length - B)), some (.int x0.1), some (.int x1.2), some (.ref pw), some (.ref ps), some (.ref pd), v12, v13, none] ∧ Same H4 H' ∧ H' pd = some (.lst ((wrongs (cs.take i) found).map V.str)))
      ⟨none, none, rfl, s45, e5⟩ (fun i σ' H' ⟨_, _, _, s, _⟩ => sqL_of (s _ _ hpc4)) ?_ ?_
    · rintro i x σ' H' hx ⟨v12, v13, rfl, sH, hpd'⟩
      obtain ⟨c, hci, a', u, rfl, q1, q2⟩ := Paired.at_ (hgc4.mono (tsame_of sH)) hx
      have hwl := wrongs_len (cs.take i) found
      rw [List.length_take] at hwl
      have hsn := wrongs_snoc (found := found) hci
      obtain ⟨nm, o⟩ := c
      walk_at "ts"
      cases o with
      | none =>
        cases q2
        walk_at "ts"
        refine Ts.q_append hpd' (by rw [List.length_map]; omega) ?_
        refine ⟨_, _, rfl, same_mut sH npd, ?_⟩
        have hm : meetsB none found = false := by
          unfold meetsB
          rw [List.any_eq_false]
          exact fun _ _ h => nomatch h
        rw [upd_same, hsn, hm]
        simp
      | some y =>
        obtain ⟨b, rfl, hb'⟩ := q2
        walk_at "ts"
        have hps' := sH _ _ hps4
        have hys' : Prs H' ys found := hys4.mono (tsame_of sH)
        refine Ts.q_lcL (sqL_of hps') (by omega) (fun i => (found[i]?).elim false fun x => decide (x.1 ≤ y.2) && decide (y.1 ≤ x.2)) (fun i H v => ∃ x, found[i]? = some x ∧ IsPr H v x) (fun _ _ _ _ s ⟨x, h1, h2⟩ => ⟨x, h1, h2.mono s⟩) ?_ ?_
        · intro j x2 H8 QB QV hx2 s8 qb qv
          obtain ⟨z2, hzi, a2, rfl, e8⟩ := Paired.at_ (hys'.mono (tsame_of s8)) hx2
          rw [hzi] at qb qv
          have hb8 := s8 _ _ hb'
          walk_at "ts"
          refine ⟨rfl, ?_⟩
          walk_at "ts"
          refine Ts.q_iteD (fun h1 => ?_) (fun h1 => ?_)
          · walk_at "ts"
            refine Ts.q_iteD (fun h2 => ?_) (fun h2 => ?_)
            · walk_at "ts"
              exact qv _ _ (by show (decide (z2.1 ≤ y.2) && decide (y.1 ≤ z2.2)) = true; rw [decide_eq_true h1, decide_eq_true h2]; rfl) (Same.refl _) ⟨z2, rfl, a2, rfl, e8⟩
            · exact qb (by show (decide (z2.1 ≤ y.2) && decide (y.1 ≤ z2.2)) = false; rw [decide_eq_false h2, Bool.and_false]) _ (Same.refl _)
          · walk_at "ts"
            exact qb (by show (decide (z2.1 ≤ y.2) && decide (y.1 ≤ z2.2)) = false; rw [decide_eq_false h1]; rfl) _ (Same.refl _)
        intro ws pz H8 s8 hfz hpz pr
        rw [hlz] at pr
        have pr2 := Ts.paired_filter (R := fun (x : Int × Int) v => IsPr H8 v x) found (fun x => decide (x.1 ≤ y.2) && decide (y.1 ≤ x.2)) found.length (Nat.le_refl _) ws pr
        rw [List.take_length] at pr2
        have hzs : Prs H8 ws (found.filter fun x => decide (x.1 ≤ y.2) && decide (y.1 ≤ x.2)) := Ts.flip_ pr2
        walk_at "ts"
        rename_i p9 hp9 H9 s9 e9
        have hmb : meetsB (some y) found = true ↔ (found.filter fun x => decide (x.1 ≤ y.2) && decide (y.1 ≤ x.2)) ≠ [] := by
          unfold meetsB
          rw [List.any_eq_true]
          constructor
          · rintro ⟨x, hx, h⟩ e
            have h : (decide (y.1 ≤ x.2) && decide (x.1 ≤ y.2)) = true := h
            have : x ∈ (found.filter fun x => decide (x.1 ≤ y.2) && decide (y.1 ≤ x.2)) := List.mem_filter.mpr ⟨hx, by rw [Bool.and_comm]; exact h⟩
            rw [e] at this
            cases this
          · intro h
            obtain ⟨x, hx⟩ := List.exists_mem_of_ne_nil _ h
            obtain ⟨h1, h2⟩ := List.mem_filter.mp hx
            exact ⟨x, h1, by show (decide (y.1 ≤ x.2) && decide (x.1 ≤ y.2)) = true; rw [Bool.and_comm]; exact h2⟩
        have sH9 := (sH.trans s8).trans s9
        have hpd9 : H9 pd = some (.lst ((wrongs (cs.take i) found).map V.str)) := s9 _ _ (s8 _ _ hpd')
        refine q_eqNilP (s9 _ _ hpz) e9 (hzs.mono (tsame_of s9)) (fun h => ?_) (fun h => ?_)
        · walk_at "ts"
          refine Ts.q_append hpd9 (by rw [List.length_map]; omega) ?_
          refine ⟨_, _, rfl, same_mut sH9 npd, ?_⟩
          have hm : meetsB (some y) found = false := by
            cases e : meetsB (some y) found with
            | false => rfl
            | true => exact absurd h (hmb.mp e)
          rw [upd_same, hsn, hm]
          simp
        · walk_at "ts"
          refine ⟨_, _, rfl, sH9, ?_⟩
          rw [hpd9, hsn, hmb.mpr h, if_pos rfl, List.append_nil]
    · rintro σ' H' ⟨v12, v13, rfl, sH, hpd'⟩
      rw [hln, List.take_length] at hpd'
      have hpw' : H' pw = some (.lst ((wrongs cs found).map V.str)) := sH _ _ hpw4
      walk_at "ts"
      refine Ts.q_eqSame (dp_lstrs hpw') (dp_lstrs hpd') (shaped_list _ fun z hz => ?_) ?_
      · obtain ⟨c, hc, rfl⟩ := List.mem_map.mp hz
        exact ok_dStr _ (hcok c (List.mem_filter.mp hc).1).1
      · exact q _ (sH4.trans sH)

end Law


namespace Law
open PySem PySem.Spec PyProof.Rows L2 Ts
variable {P : Program} {w : World} {K : PySem.W.Frag} {mg : Str → Option Value} {base : Heap}
local macro_rules | `(tactic| walk_at "ts call") => `(tactic| ((with_reducible apply c_l_cell_at); (focus walk_at "ts sq"); (focus omega); intro z ez))
local macro_rules | `(tactic| walk_at "ts call") => `(tactic| ((with_reducible apply c_l_mix); intro z ez z0 z1))
local macro_rules | `(tactic| walk_at "ts call") => `(tactic| ((with_reducible apply c_l_big); intro z H2 z0 z1 sz))
local macro_rules | `(tactic| walk_at "ts call") => `(tactic| ((with_reducible apply c_l_off); intro z H2 z0 z1 sz))
local macro_rules | `(tactic| walk_at "ts call") => `(tactic| with_reducible apply c_l_whole)
local macro_rules | `(tactic| walk_at "ts call") => `(tactic| ((with_reducible apply c_l_word); (focus omega); (focus omega); intro z hz lz))
local macro_rules | `(tactic| walk_at "ts call") => `(tactic| ((with_reducible apply c_l_names); intro b k p H2 lb lb2 s2 hp))
local macro_rules | `(tactic| walk_at "ts call") => `(tactic| ((with_reducible apply c_l_slack); (focus omega); (focus omega)))
local macro_rules | `(tactic| walk_at "ts call") => `(tactic| ((with_reducible apply c_slack); (focus omega); (focus omega)))
local macro_rules | `(tactic| walk_at "ts call") => `(tactic| ((with_reducible apply c_l_brought); (focus walk_at "ts hp"); (focus omega); (focus omega); intro b H2 s2 hb))
local macro_rules | `(tactic| walk_at "ts call") => `(tactic| ((with_reducible apply c_l_letter); (focus walk_at "ts sq"); (focus first | assumption | omega | (simp; omega)); (focus omega); intro L b H2 s2 hL nL okL))
local macro_rules | `(tactic| walk_at "ts call") => `(tactic| ((with_reducible apply c_l_gathered); (focus walk_at "ts hp"); (focus walk_at "ts ck"); (focus omega); (focus omega); (focus omega); (focus assumption); (focus assumption); intro ys p H2 s2 hfr hp hgc))
local macro_rules | `(tactic| walk_at "ts call") => `(tactic| ((with_reducible apply c_l_many); (focus walk_at "ts hp"); (focus walk_at "ts ck")))
local macro_rules | `(tactic| walk_at "ts call") => `(tactic| ((with_reducible apply c_l_lows); (focus walk_at "ts hp"); (focus walk_at "ts ck"); (focus omega); intro p H2 s2 hp))
local macro_rules | `(tactic| walk_at "ts call") => `(tactic| ((with_reducible apply c_l_edges); (focus walk_at "ts hp"); (focus walk_at "ts ck"); (focus omega); intro ns p H2 s2 hp hnl))

/-! ### which error it is: the law's word for the held error's class -/
def kindWords : List V := [.str "name", .str "letter", .str "off", .str "early", .str "count", .str "none", .str "wide", .str "many", .str "clock", .str "text"]
/-- the class at D is the j-th of the ten, and none else of them -/
structure KindE (T : Lw K mg) (D : Addr) (j : Nat) : Prop where
  x : ExK K D
  i0 : PySem.W.kitOne K (.ref D) (.ref T.C_BadName) = some (decide (j = 0))
  i1 : PySem.W.kitOne K (.ref D) (.ref T.C_BadLetter) = some (decide (j = 1))
  i2 : PySem.W.kitOne K (.ref D) (.ref T.C_BadOff) = some (decide (j = 2))
  i3 : PySem.W.kitOne K (.ref D) (.ref T.C_TooEarly) = some (decide (j = 3))
  i4 : PySem.W.kitOne K (.ref D) (.ref T.C_BadCount) = some (decide (j = 4))
  i5 : PySem.W.kitOne K (.ref D) (.ref T.C_NoAgreement) = some (decide (j = 5))
  i6 : PySem.W.kitOne K (.ref D) (.ref T.C_TooWide) = some (decide (j = 6))
  i7 : PySem.W.kitOne K (.ref D) (.ref T.C_TooMany) = some (decide (j = 7))
  i8 : PySem.W.kitOne K (.ref D) (.ref T.C_NoClock) = some (decide (j = 8))
  i9 : PySem.W.kitOne K (.ref D) (.ref T.C_NoText) = some (decide (j = 9))
  iV : PySem.W.kitOne K (.ref D) (.type "ValueError") = some true
def gKind (T : Lw K mg) : Value → Hp → VK → Prop := fun cls H Q => ∃ (D : Addr) (j : Nat) (z : Str), cls = .ref D ∧ KindE T D j ∧ kindWords[j]? = some (.str z) ∧ ∀ H', Same H H' → Q (.str z) H'
theorem q_isE {a D C : Addr} {H : Hp} {Q : VK} {b : Bool} (h : PySem.W.kitOne K (.ref D) (.ref C) = some b) (q : Q (.bl b) H) : rIsE K D a [.ref a, .ref C] H Q := ⟨.ref C, .ref C, b, rfl, fun _ r => r, h, q⟩
theorem q_isV {a D : Addr} {n : String} {H : Hp} {Q : VK} {b : Bool} (h : PySem.W.kitOne K (.ref D) (.type n) = some b) (q : Q (.bl b) H) : rIsE K D a [.ref a, .ty n] H Q := ⟨.ty n, .type n, b, rfl, fun _ r => r, h, q⟩
theorem kind_count (j : Nat) (hj : j < 10) : [V.bl (decide (j = 0)), .bl (decide (j = 1)), .bl (decide (j = 2)), .bl (decide (j = 3)), .bl (decide (j = 4)), .bl (decide (j = 5)), .bl (decide (j = 6)), .bl (decide (j = 7)), .bl (decide (j = 8)), .bl (decide (j = 9))].countP (fun z => eqV z (.bl true)) = 1 := by
  have : ∀ j : Fin 10, [V.bl (decide (j.val = 0)), .bl (decide (j.val = 1)), .bl (decide (j.val = 2)), .bl (decide (j.val = 3)), .bl (decide (j.val = 4)), .bl (decide (j.val = 5)), .bl (decide (j.val = 6)), .bl (decide (j.val = 7)), .bl (decide (j.val = 8)), .bl (decide (j.val = 9))].countP (fun z => eqV z (.bl true)) = 1 := by decide
  exact this ⟨j, hj⟩
theorem kind_at (j : Nat) (hj : j < 10) : ∃ z, [V.bl (decide (j = 0)), .bl (decide (j = 1)), .bl (decide (j = 2)), .bl (decide (j = 3)), .bl (decide (j = 4)), .bl (decide (j = 5)), .bl (decide (j = 6)), .bl (decide (j = 7)), .bl (decide (j = 8)), .bl (decide (j = 9))][j]? = some z ∧ eqV z (.bl true) = true := by
  have : ∀ j : Fin 10, ([V.bl (decide (j.val = 0)), .bl (decide (j.val = 1)), .bl (decide (j.val = 2)), .bl (decide (j.val = 3)), .bl (decide (j.val = 4)), .bl (decide (j.val = 5)), .bl (decide (j.val = 6)), .bl (decide (j.val = 7)), .bl (decide (j.val = 8)), .bl (decide (j.val = 9))][j.val]?) = some (.bl true) := by decide
  exact ⟨_, this ⟨j, hj⟩, rfl⟩
theorem kind_no (j m : Nat) (hj : j < 10) (hm : m < j) (z : V) (h : [V.bl (decide (j = 0)), .bl (decide (j = 1)), .bl (decide (j = 2)), .bl (decide (j = 3)), .bl (decide (j = 4)), .bl (decide (j = 5)), .bl (decide (j = 6)), .bl (decide (j = 7)), .bl (decide (j = 8)), .bl (decide (j = 9))][m]? = some z) : eqV z (.bl true) = false := by
  have : ∀ j m : Fin 10, m.val < j.val → ([V.bl (decide (j.val = 0)), .bl (decide (j.val = 1)), .bl (decide (j.val = 2)), .bl (decide (j.val = 3)), .bl (decide (j.val = 4)), .bl (decide (j.val = 5)), .bl (decide (j.val = 6)), .bl (decide (j.val = 7)), .bl (decide (j.val = 8)), .bl (decide (j.val = 9))][m.val]?) = some (.bl false) := by decide
  have e := (this ⟨j, hj⟩ ⟨m, by omega⟩ hm).symm.trans h
  cases e
  rfl
theorem ok_l_kind (T : Lw K mg) : FnE P w K mg base 1 T.f_l_kind T.fd_l_kind "_law_e" (gKind T) := by
  refine Ts.Fun.okE T.d_l_kind.F sc_l_kind (fun cdv A outer s H Q a oe cls hr hz hf h => ?_)
  obtain ⟨D, j, z, rfl, kd, hw, q⟩ := h
  have hj : j < 10 := by
    have := (List.getElem?_eq_some_iff.mp hw).1
    exact this
  refine ⟨_, (pss_cons (ps_asg (pe_lst (pa_cons (pe_callB (Ts.call_isP List.mem_cons_self kd.x.c hz hf) (by rfl) T.n_isinstance (by decide +kernel) (pa_cons (pv 0) (pa_cons (pe_glob (v := .ref T.C_BadName) rfl T.m_BadName rfl) pa_nil))) (pa_cons (pe_callB (Ts.call_isP List.mem_cons_self kd.x.c hz hf) (by rfl) T.n_isinstance (by decide +kernel) (pa_cons (pv 0) (pa_cons (pe_glob (v := .ref T.C_BadLetter) rfl T.m_BadLetter rfl) pa_nil))) (pa_cons (pe_callB (Ts.call_isP List.mem_cons_self kd.x.c hz hf) (by rfl) T.n_isinstance (by decide +kernel) (pa_cons (pv 0) (pa_cons (pe_glob (v := .ref T.C_BadOff) rfl T.m_BadOff rfl) pa_nil))) (pa_cons (pe_callB (Ts.call_isP List.mem_cons_self kd.x.c hz hf) (by rfl) T.n_isinstance (by decide +kernel) (pa_cons (pv 0) (pa_cons (pe_glob (v := .ref T.C_TooEarly) rfl T.m_TooEarly rfl) pa_nil))) pa_nil))))) (pg_name (i := 1) sc_l_kind.nd rfl (by first | exact Or.inl rfl | exact Or.inr rfl))) (pss_cons (ps_asg (pe_op op_cat (pv 1) (pe_lst (pa_cons (pe_callB (Ts.call_isP List.mem_cons_self kd.x.c hz hf) (by rfl) T.n_isinstance (by decide +kernel) (pa_cons (pv 0) (pa_cons (pe_glob (v := .ref T.C_BadCount) rfl T.m_BadCount rfl) pa_nil))) (pa_cons (pe_callB (Ts.call_isP List.mem_cons_self kd.x.c hz hf) (by rfl) T.n_isinstance (by decide +kernel) (pa_cons (pv 0) (pa_cons (pe_glob (v := .ref T.C_NoAgreement) rfl T.m_NoAgreement rfl) pa_nil))) (pa_cons (pe_callB (Ts.call_isP List.mem_cons_self kd.x.c hz hf) (by rfl) T.n_isinstance (by decide +kernel) (pa_cons (pv 0) (pa_cons (pe_glob (v := .ref T.C_TooWide) rfl T.m_TooWide rfl) pa_nil))) pa_nil))))) (pg_name (i := 1) sc_l_kind.nd rfl (by first | exact Or.inl rfl | exact Or.inr rfl))) (pss_cons (ps_asg (pe_op op_cat (pv 1) (pe_lst (pa_cons (pe_callB (Ts.call_isP List.mem_cons_self kd.x.c hz hf) (by rfl) T.n_isinstance (by decide +kernel) (pa_cons (pv 0) (pa_cons (pe_glob (v := .ref T.C_TooMany) rfl T.m_TooMany rfl) pa_nil))) (pa_cons (pe_callB (Ts.call_isP List.mem_cons_self kd.x.c hz hf) (by rfl) T.n_isinstance (by decide +kernel) (pa_cons (pv 0) (pa_cons (pe_glob (v := .ref T.C_NoClock) rfl T.m_NoClock rfl) pa_nil))) (pa_cons (pe_callB (Ts.call_isP List.mem_cons_self kd.x.c hz hf) (by rfl) T.n_isinstance (by decide +kernel) (pa_cons (pv 0) (pa_cons (pe_glob (v := .ref T.C_NoText) rfl T.m_NoText rfl) pa_nil))) pa_nil))))) (pg_name (i := 1) sc_l_kind.nd rfl (by first | exact Or.inl rfl | exact Or.inr rfl))) (pss_cons (ps_if (PW.pt (pw_or (pt_cmpR op_ne (pe_bm PySem.F.plainAttrs_list PySem.F.slot_list_count PySem.F.type_list_count (Ts.mt_countK K) (pv 1) (pa_cons pe_bl pa_nil)) pe_int (nomark _)) (pw_or1 (pt_not (pt_val (pe_callB (Ts.call_isP List.mem_cons_self kd.x.c hz hf) (by rfl) T.n_isinstance (by decide +kernel) (pa_cons (pv 0) (pa_cons (pe_bltn (v := .ty "ValueError") (by rfl) T.n_ValueError (by decide +kernel) rfl) pa_nil)))))))) (pss_one (ps_ret pe_str)) pss_nil) (pss_cons (ps_asg (pe_lst (pa_cons pe_str (pa_cons pe_str (pa_cons pe_str (pa_cons pe_str (pa_cons pe_str (pa_cons pe_str (pa_cons pe_str (pa_cons pe_str (pa_cons pe_str (pa_cons pe_str pa_nil))))))))))) (pg_name (i := 2) sc_l_kind.nd rfl (by first | exact Or.inl rfl | exact Or.inr rfl))) (pss_one (ps_ret (pe_ix (Ts.ix_listK K) (pv 2) (pe_bm PySem.F.plainAttrs_list PySem.F.slot_list_index PySem.F.type_list_index (Ts.mt_indexK K) (pv 1) (pa_cons pe_bl pa_nil)) (fun _ _ => rfl))))))))), ?_⟩
  walk_at "ts"
  refine q_isE kd.i0 ?_
  walk_at "ts"
  refine q_isE kd.i1 ?_
  walk_at "ts"
  refine q_isE kd.i2 ?_
  walk_at "ts"
  refine q_isE kd.i3 ?_
  walk_at "ts"
  refine q_isE kd.i4 ?_
  walk_at "ts"
  refine q_isE kd.i5 ?_
  walk_at "ts"
  refine q_isE kd.i6 ?_
  walk_at "ts"
  refine Ts.q_cat (by walk_at "ts hp") (by walk_at "ts hp") (Ts.size_of (by simp)) fun p H2 sp ep => ?_
  walk_at "ts"
  refine q_isE kd.i7 ?_
  walk_at "ts"
  refine q_isE kd.i8 ?_
  walk_at "ts"
  refine q_isE kd.i9 ?_
  walk_at "ts"
  refine Ts.q_cat (by walk_at "ts hp") (by walk_at "ts hp") (Ts.size_of (by simp)) fun p2 H4 sp2 ep2 => ?_
  simp only [List.cons_append, List.nil_append] at ep2
  walk_at "ts"
  try (refine ⟨.inl ⟨rfl, _, Ts.sqL_of ep2⟩, ?_⟩; walk_at "ts")
  refine ⟨_, _, _, rfl, rfl, Ts.sqL_of ep2, rfl, rfl, ?_⟩
  rw [kind_count j hj]
  walk_at "ts"
  try refine Ts.iteN_no rfl ?_
  walk_at "ts"
  refine q_isV kd.iV ?_
  walk_at "ts"
  obtain ⟨z', hz1, hz2⟩ := kind_at j hj
  try (refine ⟨.inl ⟨rfl, _, Ts.sqL_of (by walk_at "ts hp")⟩, ?_⟩; walk_at "ts")
  refine ⟨_, _, _, j, z', rfl, rfl, Ts.sqL_of (by walk_at "ts hp"), rfl, rfl, hz1, hz2, fun m z'' hm h' => kind_no j m hj hm z'' h', ?_⟩
  refine Ts.q_ixL (by walk_at "ts sq") (atI_nat hw) ?_
  exact q _ (by walk_at "ts same")

theorem kd_BadName (T : Lw K mg) : KindE T T.C_BadName 0 := ⟨T.x_BadName, T.i_BadName_BadName, T.i_BadName_BadLetter, T.i_BadName_BadOff, T.i_BadName_TooEarly, T.i_BadName_BadCount, T.i_BadName_NoAgreement, T.i_BadName_TooWide, T.i_BadName_TooMany, T.i_BadName_NoClock, T.i_BadName_NoText, T.i_BadName_ValueError⟩

theorem kd_BadLetter (T : Lw K mg) : KindE T T.C_BadLetter 1 := ⟨T.x_BadLetter, T.i_BadLetter_BadName, T.i_BadLetter_BadLetter, T.i_BadLetter_BadOff, T.i_BadLetter_TooEarly, T.i_BadLetter_BadCount, T.i_BadLetter_NoAgreement, T.i_BadLetter_TooWide, T.i_BadLetter_TooMany, T.i_BadLetter_NoClock, T.i_BadLetter_NoText, T.i_BadLetter_ValueError⟩

theorem kd_BadOff (T : Lw K mg) : KindE T T.C_BadOff 2 := ⟨T.x_BadOff, T.i_BadOff_BadName, T.i_BadOff_BadLetter, T.i_BadOff_BadOff, T.i_BadOff_TooEarly, T.i_BadOff_BadCount, T.i_BadOff_NoAgreement, T.i_BadOff_TooWide, T.i_BadOff_TooMany, T.i_BadOff_NoClock, T.i_BadOff_NoText, T.i_BadOff_ValueError⟩

theorem kd_TooEarly (T : Lw K mg) : KindE T T.C_TooEarly 3 := ⟨T.x_TooEarly, T.i_TooEarly_BadName, T.i_TooEarly_BadLetter, T.i_TooEarly_BadOff, T.i_TooEarly_TooEarly, T.i_TooEarly_BadCount, T.i_TooEarly_NoAgreement, T.i_TooEarly_TooWide, T.i_TooEarly_TooMany, T.i_TooEarly_NoClock, T.i_TooEarly_NoText, T.i_TooEarly_ValueError⟩

theorem kd_BadCount (T : Lw K mg) : KindE T T.C_BadCount 4 := ⟨T.x_BadCount, T.i_BadCount_BadName, T.i_BadCount_BadLetter, T.i_BadCount_BadOff, T.i_BadCount_TooEarly, T.i_BadCount_BadCount, T.i_BadCount_NoAgreement, T.i_BadCount_TooWide, T.i_BadCount_TooMany, T.i_BadCount_NoClock, T.i_BadCount_NoText, T.i_BadCount_ValueError⟩

theorem kd_NoAgreement (T : Lw K mg) : KindE T T.C_NoAgreement 5 := ⟨T.x_NoAgreement, T.i_NoAgreement_BadName, T.i_NoAgreement_BadLetter, T.i_NoAgreement_BadOff, T.i_NoAgreement_TooEarly, T.i_NoAgreement_BadCount, T.i_NoAgreement_NoAgreement, T.i_NoAgreement_TooWide, T.i_NoAgreement_TooMany, T.i_NoAgreement_NoClock, T.i_NoAgreement_NoText, T.i_NoAgreement_ValueError⟩

theorem kd_TooMany (T : Lw K mg) : KindE T T.C_TooMany 7 := ⟨T.x_TooMany, T.i_TooMany_BadName, T.i_TooMany_BadLetter, T.i_TooMany_BadOff, T.i_TooMany_TooEarly, T.i_TooMany_BadCount, T.i_TooMany_NoAgreement, T.i_TooMany_TooWide, T.i_TooMany_TooMany, T.i_TooMany_NoClock, T.i_TooMany_NoText, T.i_TooMany_ValueError⟩

theorem kd_NoClock (T : Lw K mg) : KindE T T.C_NoClock 8 := ⟨T.x_NoClock, T.i_NoClock_BadName, T.i_NoClock_BadLetter, T.i_NoClock_BadOff, T.i_NoClock_TooEarly, T.i_NoClock_BadCount, T.i_NoClock_NoAgreement, T.i_NoClock_TooWide, T.i_NoClock_TooMany, T.i_NoClock_NoClock, T.i_NoClock_NoText, T.i_NoClock_ValueError⟩

/-! ### what sure tells -/
/-- refused, by the word z -/
def Refu (ls : List Ltr) (n f : Int) (bd : Option Int) (z : Str) : Prop :=
  (¬ (0 ≤ f ∧ f ≤ 999) ∧ z = "off") ∨ (0 ≤ f ∧ f ≤ 999 ∧ (∃ L ∈ ls, n < L.back) ∧ z = "early") ∨
  (0 ≤ f ∧ f ≤ 999 ∧ (∀ L ∈ ls, L.back ≤ n) ∧ DueW (gathL (stOf n f) ls) bd z ∧ z ≠ "")
theorem due_one {cs : List Clk} {bd : Option Int} {z z' : Str} (h : DueW cs bd z) (h' : DueW cs bd z') : z = z' := by
  rcases h with ⟨a, b⟩ | ⟨a, b, c⟩ | ⟨a, b, c, d, e⟩ | ⟨a, b, c, ⟨t, d⟩, e⟩ <;> rcases h' with ⟨a', b'⟩ | ⟨a', b', c'⟩ | ⟨a', b', c', d', e'⟩ | ⟨a', b', c', ⟨t', d'⟩, e'⟩
  all_goals first
    | (subst_vars; rfl)
    | exact absurd a' a
    | exact absurd a a'
    | exact absurd ⟨b', c'⟩ b
    | exact absurd ⟨b, c⟩ b'
    | (exfalso; have := d t'; omega)
    | (exfalso; have := d' t; omega)
theorem refu_one {ls : List Ltr} {n f : Int} {bd : Option Int} {z z' : Str} (h : Refu ls n f bd z) (h' : Refu ls n f bd z') : z = z' := by
  rcases h with ⟨a, b⟩ | ⟨a, b, ⟨L, hL, c⟩, d⟩ | ⟨a, b, c, d, e⟩ <;> rcases h' with ⟨a', b'⟩ | ⟨a', b', ⟨L', hL', c'⟩, d'⟩ | ⟨a', b', c', d', e'⟩
  all_goals first
    | (subst_vars; rfl)
    | exact absurd ⟨a', b'⟩ a
    | exact absurd ⟨a, b⟩ a'
    | exact due_one d d'
    | (exfalso; have := c L' hL'; omega)
    | (exfalso; have := c' L hL; omega)
theorem gath_ne {cs : List Clk} {B : Int} (h0 : 0 ≤ B) (h1 : B < cs.length) : cs ≠ [] := fun e => by
  rw [e] at h1
  simp at h1
  omega
theorem told_core (T : Lw K mg) {a : Addr} {xs : List V} {ls : List Ltr} {n f : Int} {bd : Option Int} {H : Hp} {Q : VK} {E : XK} (ha : H a = some (.lst xs)) (hl : Lts H xs ls) (hn : ls.length ≤ 1000) (hok : ∀ L ∈ ls, LtOk L)
    (q : 0 ≤ f → f ≤ 999 → (∀ L ∈ ls, L.back ≤ n) → 0 ≤ badOf bd (gathL (stOf n f) ls).length → badOf bd (gathL (stOf n f) ls).length < (gathL (stOf n f) ls).length →
      ∀ p pw ps ys found lo hi H', Same H H' → H pw = none → H ps = none → pw ≠ ps → SureOk (gathL (stOf n f) ls) ((gathL (stOf n f) ls).length - badOf bd (gathL (stOf n f) ls).length) H' p pw ps ys found lo hi → Q (.ref p) H')
    (e : ∀ C j z H', KindE T C j → kindWords[j]? = some (.str z) → PySem.W.exmOne K (.ref C) (.ref T.C_StretchError) = some true → Refu ls n f bd z → Same H H' → E (.ref C) none H') :
    sp_sure T.C_BadOff T.C_TooEarly T.C_NoAgreement T.C_BadCount [.ref a, .int n, .int f, oVi bd] H Q E := by
  refine ⟨a, xs, ls, n, f, bd, rfl, ha, hl, hn, fun f0 _ hb => cksOk_of hok hb f0, fun f0 f1 hb _ b0 b1 p pw ps ys found lo hi H' s h1 h2 h3 h4 => q f0 f1 hb b0 b1 p pw ps ys found lo hi H' s h1 h2 h3 h4, fun h => ?_, fun f0 f1 h H' s => ?_, fun f0 f1 hb h H' s => ?_, fun f0 f1 hb h h' H' s => ?_, fun f0 f1 hb h b0 b1 hp H' s => ?_⟩
  · exact e _ 2 "off" _ (kd_BadOff T) rfl T.t_BadOff (.inl ⟨h, rfl⟩) (Same.refl _)
  · exact e _ 3 "early" _ (kd_TooEarly T) rfl T.t_TooEarly (.inr (.inl ⟨f0, f1, h, rfl⟩)) s
  · exact e _ 5 "none" _ (kd_NoAgreement T) rfl T.t_NoAgreement (.inr (.inr ⟨f0, f1, hb, .inl ⟨h, rfl⟩, by decide +kernel⟩)) s
  · exact e _ 4 "count" _ (kd_BadCount T) rfl T.t_BadCount (.inr (.inr ⟨f0, f1, hb, .inr (.inl ⟨h, h', rfl⟩), by decide +kernel⟩)) s
  · refine e _ 5 "none" _ (kd_NoAgreement T) rfl T.t_NoAgreement (.inr (.inr ⟨f0, f1, hb, .inr (.inr (.inl ⟨h, b0, b1, fun t => ?_, rfl⟩)), by decide +kernel⟩)) s
    by_cases ht : ((gathL (stOf n f) ls).length : Int) - badOf bd (gathL (stOf n f) ls).length ≤ manyAt (gathL (stOf n f) ls) t
    · obtain ⟨y, hy, _⟩ := hp.all t ht
      cases hy
    · omega
theorem SureOk.mono {cs : List Clk} {need lo hi : Int} {H H' : Hp} {p pw ps : Addr} {ys : List V} {found : List (Int × Int)} (s : Same H H') (h : SureOk cs need H p pw ps ys found lo hi) : SureOk cs need H' p pw ps ys found lo hi := by
  obtain ⟨h1, h2, h3, h4, h5, h6, h7, h8⟩ := h
  exact ⟨h1, h2, h3, s _ _ h4, s _ _ h5, s _ _ h6, h7.mono (tsame_of s), h8⟩

end Law


namespace Law
open PySem PySem.Spec PyProof.Rows L2 Ts
variable {P : Program} {w : World} {K : PySem.W.Frag} {mg : Str → Option Value} {base : Heap}
local macro_rules | `(tactic| walk_at "ts call") => `(tactic| ((with_reducible apply c_l_cell_at); (focus walk_at "ts sq"); (focus omega); intro z ez))
local macro_rules | `(tactic| walk_at "ts call") => `(tactic| ((with_reducible apply c_l_mix); intro z ez z0 z1))
local macro_rules | `(tactic| walk_at "ts call") => `(tactic| ((with_reducible apply c_l_big); intro z H2 z0 z1 sz))
local macro_rules | `(tactic| walk_at "ts call") => `(tactic| ((with_reducible apply c_l_off); intro z H2 z0 z1 sz))
local macro_rules | `(tactic| walk_at "ts call") => `(tactic| with_reducible apply c_l_whole)
local macro_rules | `(tactic| walk_at "ts call") => `(tactic| ((with_reducible apply c_l_word); (focus omega); (focus omega); intro z hz lz))
local macro_rules | `(tactic| walk_at "ts call") => `(tactic| ((with_reducible apply c_l_names); intro b k p H2 lb lb2 s2 hp))
local macro_rules | `(tactic| walk_at "ts call") => `(tactic| ((with_reducible apply c_l_slack); (focus omega); (focus omega)))
local macro_rules | `(tactic| walk_at "ts call") => `(tactic| ((with_reducible apply c_slack); (focus omega); (focus omega)))
local macro_rules | `(tactic| walk_at "ts call") => `(tactic| ((with_reducible apply c_l_brought); (focus walk_at "ts hp"); (focus omega); (focus omega); intro b H2 s2 hb))
local macro_rules | `(tactic| walk_at "ts call") => `(tactic| ((with_reducible apply c_l_letter); (focus walk_at "ts sq"); (focus first | assumption | omega | (simp; omega)); (focus omega); intro L b H2 s2 hL nL okL))
local macro_rules | `(tactic| walk_at "ts call") => `(tactic| ((with_reducible apply c_l_gathered); (focus walk_at "ts hp"); (focus walk_at "ts ck"); (focus omega); (focus omega); (focus omega); (focus assumption); (focus assumption); intro ys p H2 s2 hfr hp hgc))
local macro_rules | `(tactic| walk_at "ts call") => `(tactic| ((with_reducible apply c_l_many); (focus walk_at "ts hp"); (focus walk_at "ts ck")))
local macro_rules | `(tactic| walk_at "ts call") => `(tactic| ((with_reducible apply c_l_lows); (focus walk_at "ts hp"); (focus walk_at "ts ck"); (focus omega); intro p H2 s2 hp))
local macro_rules | `(tactic| walk_at "ts call") => `(tactic| ((with_reducible apply c_l_edges); (focus walk_at "ts hp"); (focus walk_at "ts ck"); (focus omega); intro ns p H2 s2 hp hnl))

/-! ### a watch and its plain list -/
theorem nodup_app1 {zs : List Str} {z : Str} : zs.Nodup → z ∉ zs → (z :: zs).Nodup := fun h n => List.nodup_cons.mpr ⟨n, h⟩
/-- how many names there are with one more -/
theorem firsts_more (z : Str) (zs : List Str) : (firsts (z :: zs)).length = if z ∈ zs then (firsts zs).length else (firsts zs).length + 1 := by
  have n1 := nd_firsts (z :: zs)
  have n2 := nd_firsts zs
  by_cases h : z ∈ zs
  · rw [if_pos h]
    refine Nat.le_antisymm (nodup_le n1 fun x hx => ?_) (nodup_le n2 fun x hx => ?_)
    · rcases List.mem_cons.mp (mem_firsts.mp hx) with rfl | q
      · exact mem_firsts.mpr h
      · exact mem_firsts.mpr q
    · exact mem_firsts.mpr (List.mem_cons_of_mem _ (mem_firsts.mp hx))
  · rw [if_neg h]
    have n3 : (z :: firsts zs).Nodup := nodup_app1 n2 fun q => h (mem_firsts.mp q)
    have e : (z :: firsts zs).length = (firsts zs).length + 1 := List.length_cons
    rw [← e]
    refine Nat.le_antisymm (nodup_le n1 fun x hx => ?_) (nodup_le n3 fun x hx => ?_)
    · rcases List.mem_cons.mp (mem_firsts.mp hx) with rfl | q
      · exact List.mem_cons_self
      · exact List.mem_cons_of_mem _ (mem_firsts.mpr q)
    · rcases List.mem_cons.mp hx with rfl | q
      · exact mem_firsts.mpr List.mem_cons_self
      · exact mem_firsts.mpr (List.mem_cons_of_mem _ (mem_firsts.mp q))
theorem firsts_perm {z : Str} {zs : List Str} : (firsts (zs ++ [z])).length = if z ∈ zs then (firsts zs).length else (firsts zs).length + 1 := by
  rw [firsts_snoc]
  unfold addN
  by_cases h : z ∈ zs
  · rw [if_pos h, if_pos (mem_firsts.mpr h)]
  · rw [if_neg h, if_neg (fun q => h (mem_firsts.mp q))]
    simp
theorem firsts_sub {zs ys : List Str} (h : ∀ x ∈ zs, x ∈ ys) : (firsts zs).length ≤ (firsts ys).length := nodup_le (nd_firsts zs) fun x hx => mem_firsts.mpr (h x (mem_firsts.mp hx))
/-- one letter too many -/
def Full (ls : List Ltr) (z : Str) : Prop := 200 ≤ ls.length ∨ (z ∉ ls.map Ltr.name ∧ 40 ≤ (firsts (ls.map Ltr.name)).length)
instance (ls : List Ltr) (z : Str) : Decidable (Full ls z) := by unfold Full; exact inferInstance
/-- the word that is due of a letter put -/
def putW (ls : List Ltr) (L : Ltr) : Str := if L.name = "" ∨ L.name = "Q" then "name" else if L.back < L.sent ∨ L.high < L.low then "letter" else if Full ls L.name then "many" else ""
/-- the letters that are handed: a name that is some, or one of two that are none -/
def Lok (L : Ltr) : Prop := (IsName L.name ∨ L.name = "" ∨ L.name = "Q") ∧ NumOk L.sent ∧ NumOk L.back ∧ NumOk L.low ∧ NumOk L.high
theorem no_name {z : Str} (h : z = "" ∨ z = "Q") : ¬ IsName z := by
  rintro ⟨h1, h2, h3⟩
  rcases h with rfl | rfl
  · exact absurd h1 (by decide +kernel)
  · have := h3 81 (by decide +kernel)
    omega
theorem Lok.name {L : Ltr} (h : Lok L) : ¬ IsName L.name ↔ (L.name = "" ∨ L.name = "Q") := by
  constructor
  · intro q
    rcases h.1 with z | z
    · exact absurd z q
    · exact z
  · exact no_name
theorem Lok.good {L : Ltr} (h : Lok L) : ¬ Good L ↔ (L.back < L.sent ∨ L.high < L.low) := by
  obtain ⟨_, h1, h2, h3, h4⟩ := h
  constructor
  · intro q
    by_cases a : L.back < L.sent
    · exact .inl a
    · by_cases b : L.high < L.low
      · exact .inr b
      · exact absurd ⟨h1, h2, h3, h4, by omega, by omega⟩ q
  · rintro q ⟨_, _, _, _, a, b⟩
    omega
theorem Lok.of {L : Ltr} (h : IsName L.name) (g : Good L) : Lok L := ⟨.inl h, g.1, g.2.1, g.2.2.1, g.2.2.2.1⟩
theorem Lok.len {L : Ltr} (h : Lok L) : L.name.length ≤ 1000 := by
  rcases h.1 with z | z | z
  · have := z.2.1; omega
  · rw [z]; decide +kernel
  · rw [z]; decide +kernel
/-- the four answers, one by one -/
theorem putW_cases {ls : List Ltr} {L : Ltr} (h : Lok L) : (¬ IsName L.name ∧ putW ls L = "name") ∨ (IsName L.name ∧ ¬ Good L ∧ putW ls L = "letter") ∨ (IsName L.name ∧ Good L ∧ Full ls L.name ∧ putW ls L = "many") ∨ (IsName L.name ∧ Good L ∧ ¬ Full ls L.name ∧ putW ls L = "") := by
  unfold putW
  by_cases a : L.name = "" ∨ L.name = "Q"
  · exact .inl ⟨h.name.mpr a, if_pos a⟩
  · have n : IsName L.name := Classical.byContradiction fun q => a (h.name.mp q)
    by_cases b : L.back < L.sent ∨ L.high < L.low
    · exact .inr (.inl ⟨n, h.good.mpr b, by rw [if_neg a, if_pos b]⟩)
    · have g : Good L := Classical.byContradiction fun q => b (h.good.mp q)
      by_cases c : Full ls L.name
      · exact .inr (.inr (.inl ⟨n, g, c, by rw [if_neg a, if_neg b, if_pos c]⟩))
      · exact .inr (.inr (.inr ⟨n, g, c, by rw [if_neg a, if_neg b, if_neg c]⟩))
/-- a letter with its place in the heap -/
abbrev LV := Ltr × V
abbrev lsOf (ps : List LV) : List Ltr := ps.map Prod.fst
abbrev xsOf (ps : List LV) : List V := ps.map Prod.snd
/-- a watch at wa, its list at la, the plain list at oa -/
structure WS (T : Lw K mg) (H : Hp) (wa dx oa la : Addr) (f : Int) (ps : List LV) : Prop where
  w : H wa = some (.ins T.C_Watch dx [("off", .int f), ("letters", .ref la)])
  l : H la = some (.lst (xsOf ps))
  o : H oa = some (.lst (xsOf ps))
  ne : la ≠ oa
  lt : Lts H (xsOf ps) (lsOf ps)
  ok : ∀ L ∈ lsOf ps, IsName L.name ∧ Good L
  few : ps.length ≤ 200
  clk : (firsts ((lsOf ps).map Ltr.name)).length ≤ 40
  f0 : 0 ≤ f
  f1 : f ≤ 999
/-- what a deed on a watch leaves alone -/
structure Stp (wa la oa : Addr) (H H' : Hp) : Prop where
  fr : ∀ b o, H b = some o → b ≠ wa → b ≠ la → b ≠ oa → H' b = some o
  ts : TSame H H'
  dom : ∀ b, H' b = none → H b = none
theorem Stp.of_same {wa la oa : Addr} {H H' : Hp} (s : Same H H') : Stp wa la oa H H' := ⟨fun b o h _ _ _ => s b o h, tsame_of s, fun b h => Same.free s h⟩
theorem Stp.comp {wa la la' oa : Addr} {H H1 H2 : Hp} (a : Stp wa la oa H H1) (n : la' = la ∨ H la' = none) (b : Stp wa la' oa H1 H2) : Stp wa la oa H H2 where
  fr := fun x o h h1 h2 h3 => b.fr x o (a.fr x o h h1 h2 h3) h1 (by
    rcases n with rfl | n
    · exact h2
    · rintro rfl
      rw [h] at n
      cases n) h3
  ts := a.ts.trans b.ts
  dom := fun x h => a.dom x (b.dom x h)
theorem Stp.next {wa la la' la2 oa : Addr} {H H1 : Hp} (a : Stp wa la oa H H1) (n : la' = la ∨ H la' = none) (m : la2 = la' ∨ H1 la2 = none) : la2 = la ∨ H la2 = none := by
  rcases m with rfl | m
  · exact n
  · exact .inr (a.dom _ m)
theorem WS.low {T : Lw K mg} {H : Hp} {wa dx oa la : Addr} {f : Int} {ps : List LV} (h : WS T H wa dx oa la f ps) : ∀ L ∈ lsOf ps, LtOk L := fun L hL => ⟨(h.ok L hL).1.2.2, (h.ok L hL).2.2.2.2.2.1, (h.ok L hL).2.2.2.2.2.2⟩
theorem WS.stay {T : Lw K mg} {H H' : Hp} {wa dx oa la : Addr} {f : Int} {ps : List LV} (h : WS T H wa dx oa la f ps) (s : Same H H') : WS T H' wa dx oa la f ps := ⟨s _ _ h.w, s _ _ h.l, s _ _ h.o, h.ne, h.lt.mono (tsame_of s), h.ok, h.few, h.clk, h.f0, h.f1⟩
/-- self.letters, self.off -/
theorem q_fld {K : PySem.W.Frag} {ta : TE} {f : Str} {σ : L2.St} {H : Hp} {Q : VK} (q : ta σ H fun x H1 => ∃ a C dx fs v, x = .ref a ∧ H1 a = some (.ins C dx fs) ∧ Cls K C ∧ NoAttr K C f ∧ fs.lookup f = some v ∧ Q v H1) : tFld K ta f σ H Q := q
theorem q_letters (T : Lw K mg) {wa dx la : Addr} {f : Int} {H : Hp} {P : V → Prop} (h : H wa = some (.ins T.C_Watch dx [("off", .int f), ("letters", .ref la)])) (q : P (.ref la)) : ∃ a C dx fs v, V.ref wa = .ref a ∧ H a = some (.ins C dx fs) ∧ Cls K C ∧ NoAttr K C "letters" ∧ fs.lookup ("letters" : Str) = some v ∧ P v :=
  ⟨wa, _, dx, _, _, rfl, h, T.k_Watch.cls, T.k_Watch.nf _ (by simp), rfl, q⟩
theorem q_offF (T : Lw K mg) {wa dx la : Addr} {f : Int} {H : Hp} {P : V → Prop} (h : H wa = some (.ins T.C_Watch dx [("off", .int f), ("letters", .ref la)])) (q : P (.int f)) : ∃ a C dx fs v, V.ref wa = .ref a ∧ H a = some (.ins C dx fs) ∧ Cls K C ∧ NoAttr K C "off" ∧ fs.lookup ("off" : Str) = some v ∧ P v :=
  ⟨wa, _, dx, _, _, rfl, h, T.k_Watch.cls, T.k_Watch.nf _ (by simp), rfl, q⟩
local macro_rules | `(tactic| walk_at "ts call") => `(tactic| ((with_reducible apply q_fld); (with_reducible apply Ts.q_var); (focus rfl); (with_reducible apply q_letters ‹Lw _ _›); (focus walk_at "ts hp")))
local macro_rules | `(tactic| walk_at "ts call") => `(tactic| ((with_reducible apply q_fld); (with_reducible apply Ts.q_var); (focus rfl); (with_reducible apply q_offF ‹Lw _ _›); (focus walk_at "ts hp")))
theorem q_fldS {K : PySem.W.Frag} {ta tv : TE} {f : Str} {nx bk ct : L2.St → Hp → Prop} {rt : VK} {σ : L2.St} {H : Hp} (q : tv σ H fun y H1 => ta σ H1 fun x H2 => ∃ a C dx fs, x = .ref a ∧ H2 a = some (.ins C dx fs) ∧ Cls K C ∧ NoAttr K C f ∧ fs.length < 1000 ∧ nx σ (upd H2 a (.ins C dx (putF f y fs)))) : sFld K ta tv f ⟨nx, rt, bk, ct⟩ σ H := q

/-! ### Watch.__init__ -/
def sp_w_init (CO C : Addr) : Sp := fun vs H Q E => ∃ (a dx : Addr) (f : Int), vs = [.ref a, .int f] ∧ H a = some (.ins C dx []) ∧
  (0 ≤ f → f ≤ 999 → ∀ la H', H la = none → la ≠ a → H' a = some (.ins C dx [("off", .int f), ("letters", .ref la)]) → H' la = some (.lst []) → (∀ b o, H b = some o → b ≠ a → H' b = some o) → Q .non H') ∧ (¬ (0 ≤ f ∧ f ≤ 999) → E (.ref CO) none H)
theorem ok_Watch_init (T : Lw K mg) : FnOk P w K mg base (L2.CX P w) 2 T.f_Watch_init T.fd_Watch_init ["self", "off"] (sp_w_init T.C_BadOff T.C_Watch) := by
  refine T.d_Watch_init.F.okX sc_Watch_init (fun vs H Q E h => ?_) (fun cdv A outer s H vs Q E hr h => ?_)
  · obtain ⟨a, dx, f, rfl, _⟩ := h
    rfl
  · obtain ⟨a, dx, f, rfl, ha, q, e⟩ := h
    refine ⟨_, (pss_cons (ps_expr (pe_call ((ok_need_off T).mono (by decide)) hr rfl T.m_need_off T.d_need_off.F.kp T.d_need_off.b .nil (passes_call (takes_of rfl rfl rfl rfl) (fun _ _ _ _ h => h)) (pa_cons (pv 1) pa_nil))) (pss_cons (Ts.ps_fldK K (pv 0) (pv 1) rfl) (pss_one (Ts.ps_fldK K (pv 0) (pe_lst pa_nil) rfl)))), ?_⟩
    walk_at "ts"
    refine ⟨f, rfl, fun f0 f1 => ?_, e⟩
    walk_at "ts"
    refine q_fldS ?_
    walk_at "ts"
    refine ⟨a, _, dx, _, rfl, ha, T.k_Watch.cls, T.k_Watch.nf _ (by simp), by simp [putF], ?_⟩
    refine q_fldS ?_
    refine Ts.q_lst ?_
    refine Ts.q_nil ?_
    refine ⟨by simp, fun la hla => ?_⟩
    have na : la ≠ a := fun z => by
      rw [z, upd_same] at hla
      cases hla
    have hl0 : H la = none := by
      rw [upd_ne na] at hla
      exact hla
    walk_at "ts"
    refine ⟨a, _, dx, _, rfl, by rw [upd_ne na.symm, upd_same], T.k_Watch.cls, T.k_Watch.nf _ (by simp), by simp [putF], ?_⟩
    walk_at "ts"
    refine q f0 f1 la _ hl0 na (by rw [upd_same]; rfl) (by rw [upd_ne na, upd_same]) fun b o hb hn => ?_
    have hbl : b ≠ la := fun z => by
      rw [z, hl0] at hb
      cases hb
    rw [upd_ne hn, upd_ne hbl, upd_ne hn]
    exact hb

end Law


namespace Law
open PySem PySem.Spec PyProof.Rows L2 Ts
variable {P : Program} {w : World} {K : PySem.W.Frag} {mg : Str → Option Value} {base : Heap}
local macro_rules | `(tactic| walk_at "ts call") => `(tactic| ((with_reducible apply c_l_cell_at); (focus walk_at "ts sq"); (focus omega); intro z ez))
local macro_rules | `(tactic| walk_at "ts call") => `(tactic| ((with_reducible apply c_l_mix); intro z ez z0 z1))
local macro_rules | `(tactic| walk_at "ts call") => `(tactic| ((with_reducible apply c_l_big); intro z H2 z0 z1 sz))
local macro_rules | `(tactic| walk_at "ts call") => `(tactic| ((with_reducible apply c_l_off); intro z H2 z0 z1 sz))
local macro_rules | `(tactic| walk_at "ts call") => `(tactic| with_reducible apply c_l_whole)
local macro_rules | `(tactic| walk_at "ts call") => `(tactic| ((with_reducible apply c_l_word); (focus omega); (focus omega); intro z hz lz))
local macro_rules | `(tactic| walk_at "ts call") => `(tactic| ((with_reducible apply c_l_names); intro b k p H2 lb lb2 s2 hp))
local macro_rules | `(tactic| walk_at "ts call") => `(tactic| ((with_reducible apply c_l_slack); (focus omega); (focus omega)))
local macro_rules | `(tactic| walk_at "ts call") => `(tactic| ((with_reducible apply c_slack); (focus omega); (focus omega)))
local macro_rules | `(tactic| walk_at "ts call") => `(tactic| ((with_reducible apply c_l_brought); (focus walk_at "ts hp"); (focus omega); (focus omega); intro b H2 s2 hb))
local macro_rules | `(tactic| walk_at "ts call") => `(tactic| ((with_reducible apply c_l_letter); (focus walk_at "ts sq"); (focus first | assumption | omega | (simp; omega)); (focus omega); intro L b H2 s2 hL nL okL))
local macro_rules | `(tactic| walk_at "ts call") => `(tactic| ((with_reducible apply c_l_gathered); (focus walk_at "ts hp"); (focus walk_at "ts ck"); (focus omega); (focus omega); (focus omega); (focus assumption); (focus assumption); intro ys p H2 s2 hfr hp hgc))
local macro_rules | `(tactic| walk_at "ts call") => `(tactic| ((with_reducible apply c_l_many); (focus walk_at "ts hp"); (focus walk_at "ts ck")))
local macro_rules | `(tactic| walk_at "ts call") => `(tactic| ((with_reducible apply c_l_lows); (focus walk_at "ts hp"); (focus walk_at "ts ck"); (focus omega); intro p H2 s2 hp))
local macro_rules | `(tactic| walk_at "ts call") => `(tactic| ((with_reducible apply c_l_edges); (focus walk_at "ts hp"); (focus walk_at "ts ck"); (focus omega); intro ns p H2 s2 hp hnl))
local macro_rules | `(tactic| walk_at "ts call") => `(tactic| ((with_reducible apply q_fld); (with_reducible apply Ts.q_var); (focus rfl); (with_reducible apply q_letters ‹Lw _ _›); (focus walk_at "ts hp")))
local macro_rules | `(tactic| walk_at "ts call") => `(tactic| ((with_reducible apply q_fld); (with_reducible apply Ts.q_var); (focus rfl); (with_reducible apply q_offF ‹Lw _ _›); (focus walk_at "ts hp")))

/-! ### Watch.put -/
theorem q_disp1 {tk tv : TE} {σ : L2.St} {H : Hp} {Q : VK} (q : ∀ p H1, H p = none → Same H H1 → H1 p = some (.dK []) → tk σ H1 fun x H2 => tv σ H2 fun y H3 => H3 p = some (.dK []) ∧ ∃ kvs : List (Key × V), [(x, y)] = kvs.map (fun kv => (kV kv.1, kv.2)) ∧ kvs.length ≤ 15 ∧ Q (.ref p) (upd H3 p (.dK (mergeK [] kvs)))) : tDisp [(tk, tv)] σ H Q :=
  fun p hp => q p _ hp (same_upd hp) upd_same
theorem put_keys {kvs : List (Key × V)} {zs : List Str} {z : Str} {v : V} (hk : kvs.map (·.1) = (firsts zs).map Sum.inr) : (putK kvs (.inr z) v).map (·.1) = (firsts (zs ++ [z])).map Sum.inr := by
  rw [firsts_snoc]
  unfold addN
  by_cases h : z ∈ firsts zs
  · rw [if_pos h, keys_in v (by rw [hk]; exact List.mem_map.mpr ⟨_, h, rfl⟩), hk]
  · rw [if_neg h, keys_no v (by
      rw [hk]
      intro q
      obtain ⟨y, hy, e⟩ := List.mem_map.mp q
      cases e
      exact h hy), hk, List.map_append]
    rfl
def sp_w_put (CN CL CM C : Addr) : Sp := fun vs H Q E => ∃ (wa dx la b : Addr) (f : Int) (xs : List V) (ls : List Ltr) (L : Ltr), vs = [.ref wa, .ref b] ∧ H wa = some (.ins C dx [("off", .int f), ("letters", .ref la)]) ∧ H la = some (.lst xs) ∧ Lts H xs ls ∧ ls.length ≤ 200 ∧ (firsts (ls.map Ltr.name)).length ≤ 40 ∧ LtAt H b L ∧ L.name.length ≤ 1000 ∧
  (IsName L.name → Good L → ¬ Full ls L.name → ∀ H', (∀ c o, H c = some o → c ≠ la → H' c = some o) → (∀ c, H' c = none → H c = none) → H' la = some (.lst (xs ++ [.ref b])) → Q (.int ((xs.length + 1 : Nat) : Int)) H') ∧
  (¬ IsName L.name → E (.ref CN) none H) ∧ (IsName L.name → ¬ Good L → ∀ H', Same H H' → E (.ref CL) none H') ∧ (IsName L.name → Good L → Full ls L.name → ∀ H', Same H H' → E (.ref CM) none H')
theorem ok_Watch_put (T : Lw K mg) : FnOk P w K mg base (L2.CX P w) 3 T.f_Watch_put T.fd_Watch_put ["self", "letter"] (sp_w_put T.C_BadName T.C_BadLetter T.C_TooMany T.C_Watch) := by
  refine T.d_Watch_put.F.okX sc_Watch_put (fun vs H Q E h => ?_) (fun cdv A outer s H vs Q E hr h => ?_)
  · obtain ⟨wa, dx, la, b, f, xs, ls, L, rfl, _⟩ := h
    rfl
  · obtain ⟨wa, dx, la, b, f, xs, ls, L, rfl, hw, hl, hls, h200, h40, hb, hlen, q, e1, e2, e3⟩ := h
    have hlx := Paired.len hls
    refine ⟨_, (pss_cons (ps_expr (pe_call ((ok_checked T).mono (by decide)) hr rfl T.m_checked T.d_checked.F.kp T.d_checked.b .nil (passes_call (takes_of rfl rfl rfl rfl) (fun _ _ _ _ h => h)) (pa_cons (pv 1) pa_nil))) (pss_cons (ps_asg (pe_disp (pps_cons (pe_ix (Ts.ix_tupK K) (pv 1) pe_int (fun _ _ => rfl)) pe_bl pps_nil) (by rfl) (by rfl) (fun z => by cases z) (by decide)) (pg_name (i := 2) sc_Watch_put.nd rfl (by first | exact Or.inl rfl | exact Or.inr rfl))) (pss_cons (ps_for (passes_of rfl) rfl (Ts.pi_listK K (Ts.pe_fldK K (pv 0) rfl)) (pg_name (i := 3) sc_Watch_put.nd rfl (by first | exact Or.inl rfl | exact Or.inr rfl)) (pss_one (ps_dput (hu_of hr) (pv 2) (pe_ix (Ts.ix_tupK K) (pv 3) pe_int (fun _ _ => rfl)) pe_bl rfl))) (pss_cons (ps_if (PW.pt (pw_or (pt_cmpR op_ge (pe_callB (Ts.call_lenK K) (by rfl) T.n_len (by decide +kernel) (pa_cons (Ts.pe_fldK K (pv 0) rfl) pa_nil)) (pe_glob (v := .int 200) rfl T.c_MOST_LETTERS.choose_spec ⟨_, rfl⟩) (nomark _)) (pw_or1 (pt_cmpR op_gt (pe_callB call_lenD (by rfl) T.n_len (by decide +kernel) (pa_cons (pv 2) pa_nil)) (pe_glob (v := .int 40) rfl T.c_MOST_CLOCKS.choose_spec ⟨_, rfl⟩) (nomark _))))) (pss_one (ps_raise rfl (takes_of rfl rfl rfl rfl) (T.x_TooMany.mk' T.m_TooMany rfl))) pss_nil) (pss_cons (ps_expr (pe_bm PySem.F.plainAttrs_list PySem.F.slot_list_append PySem.F.type_list_append mt_append (Ts.pe_fldK K (pv 0) rfl) (pa_cons (pv 1) pa_nil))) (pss_one (ps_ret (pe_callB (Ts.call_lenK K) (by rfl) T.n_len (by decide +kernel) (pa_cons (Ts.pe_fldK K (pv 0) rfl) pa_nil))))))))), ?_⟩
    walk_at "ts"
    refine ⟨b, L, rfl, hb, hlen, fun hn hg H1 s1 => ?_, e1, e2⟩
    have hw1 := s1 _ _ hw
    have hl1 := s1 _ _ hl
    have hb1 : H1 b = some (.tup [.str L.name, .int L.sent, .int L.back, .int L.low, .int L.high]) := s1 _ _ hb
    have hls1 : Lts H1 xs ls := hls.mono (tsame_of s1)
    walk_at "ts"
    refine q_disp1 fun d H2 hd s2 e2d => ?_
    have hb2 := s2 _ _ hb1
    walk_at "ts"
    refine ⟨e2d, [(Sum.inr L.name, .bl true)], rfl, by simp, ?_⟩
    rw [show mergeK [] [((Sum.inr L.name : Key), V.bl true)] = [(Sum.inr L.name, .bl true)] from rfl]
    have s3 : Same H1 (upd H2 d (.dK [(Sum.inr L.name, .bl true)])) := same_mut s2 hd
    generalize hG : upd H2 d (.dK [(Sum.inr L.name, .bl true)]) = H3 at *
    have e3d : H3 d = some (.dK [(Sum.inr L.name, .bl true)]) := by rw [← hG, upd_same]
    clear hG
    have hw3 := s3 _ _ hw1
    walk_at "ts"
    have hl3 := s3 _ _ hl1
    refine Ts.q_forL xs (sqL_of hl3) (fun i σ' H' => ∃ (kvs : List (Key × V)) (v : Option V), σ' = [some (.ref wa), some (.ref b), some (.ref d), v] ∧ Same H1 H' ∧ H' d = some (.dK kvs) ∧ kvs.map (·.1) = (firsts (L.name :: (ls.map Ltr.name).take i)).map Sum.inr)
      ⟨_, none, rfl, s3, e3d, rfl⟩ (fun i σ' H' ⟨_, _, _, s, _⟩ => sqL_of (s _ _ hl1)) ?_ ?_
    · rintro i x σ' H' hx ⟨kvs, v, rfl, sH, hdk, hk⟩
      obtain ⟨M, hMi, a', rfl, hM⟩ := Paired.at_ (hls1.mono (tsame_of sH)) hx
      have hM' : H' a' = some (.tup [.str M.name, .int M.sent, .int M.back, .int M.low, .int M.high]) := hM
      have hkl : kvs.length ≤ 201 := by
        have a := congrArg List.length hk
        have b := len_firsts (L.name :: (ls.map Ltr.name).take i)
        rw [List.length_map, List.length_map] at a
        rw [List.length_cons, List.length_take, List.length_map] at b
        omega
      have hn2 : (ls.map Ltr.name)[i]? = some M.name := by rw [List.getElem?_map, hMi]; rfl
      walk_at "ts"
      refine Ts.q_dputS hdk (by omega) ?_
      refine ⟨_, _, rfl, same_mut sH hd, upd_same, ?_⟩
      rw [put_keys hk, take_snoc hn2]
      rfl
    · rintro σ' H' ⟨kvs, v, rfl, sH, hdk, hk⟩
      have hkl : kvs.length = (firsts (L.name :: ls.map Ltr.name)).length := by
        have a := congrArg List.length hk
        rw [List.length_map, List.length_map, hlx, List.take_of_length_le (by rw [List.length_map]; exact Nat.le_refl _)] at a
        exact a
      rw [firsts_more] at hkl
      have hw' := sH _ _ hw1
      have hl' := sH _ _ hl1
      walk_at "ts"
      refine Ts.q_iteD (fun h1 => ?_) (fun h1 => ?_)
      · walk_at "ts"
        exact e3 hn hg (.inl (by omega)) _ (s1.trans sH)
      walk_at "ts"
      refine ⟨d, kvs, rfl, hdk, ?_⟩
      walk_at "ts"
      refine Ts.q_iteD (fun h2 => ?_) (fun h2 => ?_)
      · walk_at "ts"
        refine e3 hn hg (.inr ?_) _ (s1.trans sH)
        split at hkl
        · omega
        · exact ⟨by assumption, by omega⟩
      · have nf : ¬ Full ls L.name := by
          rintro (z | ⟨z1, z2⟩)
          · omega
          · rw [if_neg z1] at hkl
            omega
        walk_at "ts"
        refine Ts.q_append hl' (by omega) ?_
        have hw4 : upd H' la (.lst (xs ++ [.ref b])) wa = some (.ins T.C_Watch dx [("off", .int f), ("letters", .ref la)]) := by
          rw [upd_ne (ne_of hw' hl' (by intro z; cases z))]
          exact hw'
        walk_at "ts"
        refine Ts.q_lenL (sqL_of upd_same) ?_
        refine (show ((xs ++ [V.ref b]).length : Int) = ((xs.length + 1 : Nat) : Int) by simp) ▸ q hn hg nf _ (fun c o hc hne => ?_) (fun c hc => ?_) upd_same
        · rw [upd_ne hne]
          exact (s1.trans sH) _ _ hc
        · by_cases hcl : c = la
          · rw [hcl, upd_same] at hc
            cases hc
          · rw [upd_ne hcl] at hc
            exact Same.free (s1.trans sH) hc

/-! ### Watch.told -/
def sp_w_told (CO CE CN CC C : Addr) : Sp := fun vs H Q E => ∃ (wa dx la : Addr) (f n : Int) (bd : Option Int), vs = [.ref wa, .int n, oVi bd] ∧ H wa = some (.ins C dx [("off", .int f), ("letters", .ref la)]) ∧ sp_sure CO CE CN CC [.ref la, .int n, .int f, oVi bd] H Q E
theorem ok_Watch_told (T : Lw K mg) : FnOk P w K mg base (L2.CX P w) 5 T.f_Watch_told T.fd_Watch_told ["self", "now", "bad"] (sp_w_told T.C_BadOff T.C_TooEarly T.C_NoAgreement T.C_BadCount T.C_Watch) := by
  refine T.d_Watch_told.okX sc_Watch_told (fun vs H Q E h => ?_) (fun cdv A outer s H vs Q E hr h => ?_)
  · obtain ⟨wa, dx, la, f, n, bd, rfl, _⟩ := h
    rfl
  · obtain ⟨wa, dx, la, f, n, bd, rfl, hw, q⟩ := h
    refine ⟨_, (pss_one (ps_ret (pe_call ((ok_sure T).mono (by decide)) hr rfl T.m_sure T.d_sure.F.kp T.d_sure.b .nil (passes_call (takes_of rfl rfl rfl rfl) (fun _ _ _ _ h => h)) (pa_cons (Ts.pe_fldK K (pv 0) rfl) (pa_cons (pv 1) (pa_cons (Ts.pe_fldK K (pv 0) rfl) (pa_cons (pv 2) pa_nil))))))), ?_⟩
    walk_at "ts"
    exact q

/-! ### Watch.drop -/
/-- the letters of the other names -/
abbrev without (n : Str) (ps : List LV) : List LV := ps.filter fun p => !decide (p.1.name = n)
def sp_w_drop (CC C : Addr) : Sp := fun vs H Q E => ∃ (wa dx la : Addr) (f : Int) (ps : List LV) (n : Str), vs = [.ref wa, .str n] ∧ H wa = some (.ins C dx [("off", .int f), ("letters", .ref la)]) ∧ H la = some (.lst (xsOf ps)) ∧ Lts H (xsOf ps) (lsOf ps) ∧ ps.length ≤ 200 ∧
  ((without n ps).length ≠ ps.length → ∀ la' H', H la' = none → H' wa = some (.ins C dx [("off", .int f), ("letters", .ref la')]) → H' la' = some (.lst (xsOf (without n ps))) → (∀ c o, H c = some o → c ≠ wa → H' c = some o) → (∀ c, H' c = none → H c = none) → Q (.int ((ps.length : Nat) - ((without n ps).length : Nat) : Int)) H') ∧
  ((without n ps).length = ps.length → ∀ H', Same H H' → E (.ref CC) none H')
theorem lv_at {ps : List LV} {i : Nat} {x : V} (h : (xsOf ps)[i]? = some x) : ∃ L, ps[i]? = some (L, x) ∧ (lsOf ps)[i]? = some L := by
  rw [List.getElem?_map] at h
  cases e : ps[i]? with
  | none => rw [e] at h; cases h
  | some p =>
    rw [e] at h
    cases h
    exact ⟨p.1, rfl, by rw [List.getElem?_map, e]; rfl⟩
theorem lv_lt {H : Hp} {ps : List LV} {i : Nat} {L : Ltr} {x : V} (h : Lts H (xsOf ps) (lsOf ps)) (e : ps[i]? = some (L, x)) : ∃ b, x = .ref b ∧ H b = some (.tup [.str L.name, .int L.sent, .int L.back, .int L.low, .int L.high]) := by
  have e1 : (xsOf ps)[i]? = some x := by rw [List.getElem?_map, e]; rfl
  obtain ⟨L2, h2, b, hb, hL⟩ := Paired.at_ h e1
  rw [List.getElem?_map, e] at h2
  cases h2
  exact ⟨b, hb, hL⟩
theorem ok_Watch_drop (T : Lw K mg) : FnOk P w K mg base (L2.CX P w) 1 T.f_Watch_drop T.fd_Watch_drop ["self", "name"] (sp_w_drop T.C_NoClock T.C_Watch) := by
  refine T.d_Watch_drop.F.okX sc_Watch_drop (fun vs H Q E h => ?_) (fun cdv A outer s H vs Q E hr h => ?_)
  · obtain ⟨wa, dx, la, f, ps, n, rfl, _⟩ := h
    rfl
  · obtain ⟨wa, dx, la, f, ps, n, rfl, hw, hl, hls, h200, q, e⟩ := h
    refine ⟨_, (pss_cons (ps_setLc (i := 2) (own := [("one", 4)]) rfl sc_Watch_drop.nd rfl rfl (sw_true rfl rfl rfl (by decide +kernel)) (Ts.pi_listK K (Ts.pe_fldK K (pv 0) rfl)) (blkOk_by (own := [("one", 4)]) (N := N_Watch_drop) (sc := defScope s_Watch_drop) (by decide +kernel)) (fun _ _ _ _ _ => pg_name (i := 4) sc_Watch_drop.nd rfl (Or.inl rfl)) (fun _ _ _ _ _ => pts_one (pt_cmpR op_ne (pe_ix (Ts.ix_tupK K) (pv 4) pe_int (fun _ _ => rfl)) (pv 1) (nomark _))) (fun _ _ _ _ _ => (pv 4))) (pss_cons (ps_asg (pe_op op_sub (pe_callB (Ts.call_lenK K) (by rfl) T.n_len (by decide +kernel) (pa_cons (Ts.pe_fldK K (pv 0) rfl) pa_nil)) (pe_callB (Ts.call_lenK K) (by rfl) T.n_len (by decide +kernel) (pa_cons (pv 2) pa_nil))) (pg_name (i := 3) sc_Watch_drop.nd rfl (by first | exact Or.inl rfl | exact Or.inr rfl))) (pss_cons (ps_if (pt_cmpR op_eq (pv 3) pe_int (nomark _)) (pss_one (ps_raise rfl (takes_of rfl rfl rfl rfl) (T.x_NoClock.mk' T.m_NoClock rfl))) pss_nil) (pss_cons (Ts.ps_fldK K (pv 0) (pv 2) rfl) (pss_one (ps_ret (pv 3))))))), ?_⟩
    walk_at "ts"
    refine Ts.q_lcL (sqL_of hl) (by rw [List.length_map]; omega) (fun i => (ps[i]?).elim false fun p => !decide (p.1.name = n)) (fun i _ v => ∃ p, ps[i]? = some p ∧ v = p.2) (fun _ _ _ _ _ h => h) ?_ ?_
    · intro i x H1 QB QV hx s1 qb qv
      obtain ⟨L, hp, _⟩ := lv_at hx
      obtain ⟨b, rfl, hb⟩ := lv_lt (hls.mono (tsame_of s1)) hp
      rw [hp] at qb qv
      walk_at "ts"
      refine ⟨rfl, ?_⟩
      walk_at "ts"
      refine Ts.q_iteN (fun h => ?_) (fun h => ?_)
      · walk_at "ts"
        exact qv _ _ (by show (!decide (L.name = n)) = true; rw [decide_eq_false h]; rfl) (Same.refl _) ⟨_, rfl, rfl⟩
      · exact qb (by show (!decide (L.name = n)) = false; rw [decide_eq_true h]; rfl) _ (Same.refl _)
    · intro zs pz H1 s1 hfz hpz pr
      rw [List.length_map] at pr
      have pr2 := Ts.paired_filter (R := fun (p : LV) v => v = p.2) ps (fun p => !decide (p.1.name = n)) ps.length (Nat.le_refl _) zs pr
      rw [List.take_length] at pr2
      obtain rfl : zs = xsOf (without n ps) := Ts.paired_eq pr2
      have hw1 := s1 _ _ hw
      have hl1 := s1 _ _ hl
      walk_at "ts"
      rw [List.length_map, List.length_map]
      refine Ts.q_iteD (fun h1 => ?_) (fun h1 => ?_)
      · exact e (by omega) _ s1
      · walk_at "ts"
        refine q_fldS ?_
        walk_at "ts"
        refine ⟨wa, _, dx, _, rfl, hw1, T.k_Watch.cls, T.k_Watch.nf _ (by simp), by simp, ?_⟩
        have nw : pz ≠ wa := fun z => by
          rw [z, hw1] at hpz
          cases hpz
        walk_at "ts"
        refine q (by omega) pz _ hfz (by rw [upd_same]; rfl) (by rw [upd_ne nw]; exact hpz) (fun c o hc hne => by rw [upd_ne hne]; exact s1 _ _ hc) (fun c hc => ?_)
        by_cases hcl : c = wa
        · rw [hcl, upd_same] at hc
          cases hc
        · rw [upd_ne hcl] at hc
          exact Same.free s1 hc
theorem q_methS {C : Addr} {m : Str} {sp : Sp} {dvs : List V} {E : L2.St → XK} {ta : TE} {t : TA} {σ : L2.St} {H : Hp} {Q : VK} (q : ta σ H fun x H1 => ∃ a dx fs, x = .ref a ∧ H1 a = some (.ins C dx fs) ∧ fs.lookup m = none ∧ t σ H1 fun vs H2 => sp (x :: (vs ++ dvs)) H2 Q (E σ)) : tMethS C m sp dvs E ta t σ H Q := q
theorem q_methK {C : Addr} {m : Str} {n mm : Nat} {sp : Sp} {gV : List V → List V → List V} {E : L2.St → XK} {ta : TE} {t tk : TA} {σ : L2.St} {H : Hp} {Q : VK} (q : ta σ H fun x H1 => ∃ a dx fs, x = .ref a ∧ H1 a = some (.ins C dx fs) ∧ fs.lookup m = none ∧ t σ H1 fun vs H2 => tk σ H2 fun zs H3 => (x :: vs).length = n ∧ zs.length = mm ∧ sp (gV (x :: vs) zs) H3 Q (E σ)) : tMethK C m n mm sp gV E ta t tk σ H Q := q
theorem q_lenTx {K : PySem.W.Frag} {ta : TE} {σ : L2.St} {H : Hp} {Q : VK} (q : ta σ H fun x H1 => ∃ l, ∃ zs : List Str, x = .ref l ∧ SqL K H1 l (zs.map V.str) ∧ zs.length ≤ 4000 ∧ Q (.int (firsts zs).length) H1) : tLenTx K ta σ H Q := q

end Law


namespace Law
open PySem PySem.Spec PyProof.Rows L2 Ts
variable {P : Program} {w : World} {K : PySem.W.Frag} {mg : Str → Option Value} {base : Heap}
local macro_rules | `(tactic| walk_at "ts call") => `(tactic| ((with_reducible apply c_l_cell_at); (focus walk_at "ts sq"); (focus omega); intro z ez))
local macro_rules | `(tactic| walk_at "ts call") => `(tactic| ((with_reducible apply c_l_mix); intro z ez z0 z1))
local macro_rules | `(tactic| walk_at "ts call") => `(tactic| ((with_reducible apply c_l_big); intro z H2 z0 z1 sz))
local macro_rules | `(tactic| walk_at "ts call") => `(tactic| ((with_reducible apply c_l_off); intro z H2 z0 z1 sz))
local macro_rules | `(tactic| walk_at "ts call") => `(tactic| with_reducible apply c_l_whole)
local macro_rules | `(tactic| walk_at "ts call") => `(tactic| ((with_reducible apply c_l_word); (focus omega); (focus omega); intro z hz lz))
local macro_rules | `(tactic| walk_at "ts call") => `(tactic| ((with_reducible apply c_l_names); intro b k p H2 lb lb2 s2 hp))
local macro_rules | `(tactic| walk_at "ts call") => `(tactic| ((with_reducible apply c_l_slack); (focus omega); (focus omega)))
local macro_rules | `(tactic| walk_at "ts call") => `(tactic| ((with_reducible apply c_slack); (focus omega); (focus omega)))
local macro_rules | `(tactic| walk_at "ts call") => `(tactic| ((with_reducible apply c_l_brought); (focus walk_at "ts hp"); (focus omega); (focus omega); intro b H2 s2 hb))
local macro_rules | `(tactic| walk_at "ts call") => `(tactic| ((with_reducible apply c_l_letter); (focus walk_at "ts sq"); (focus first | assumption | omega | (simp; omega)); (focus omega); intro L b H2 s2 hL nL okL))
local macro_rules | `(tactic| walk_at "ts call") => `(tactic| ((with_reducible apply c_l_gathered); (focus walk_at "ts hp"); (focus walk_at "ts ck"); (focus omega); (focus omega); (focus omega); (focus assumption); (focus assumption); intro ys p H2 s2 hfr hp hgc))
local macro_rules | `(tactic| walk_at "ts call") => `(tactic| ((with_reducible apply c_l_many); (focus walk_at "ts hp"); (focus walk_at "ts ck")))
local macro_rules | `(tactic| walk_at "ts call") => `(tactic| ((with_reducible apply c_l_lows); (focus walk_at "ts hp"); (focus walk_at "ts ck"); (focus omega); intro p H2 s2 hp))
local macro_rules | `(tactic| walk_at "ts call") => `(tactic| ((with_reducible apply c_l_edges); (focus walk_at "ts hp"); (focus walk_at "ts ck"); (focus omega); intro ns p H2 s2 hp hnl))
local macro_rules | `(tactic| walk_at "ts call") => `(tactic| ((with_reducible apply q_fld); (with_reducible apply Ts.q_var); (focus rfl); (with_reducible apply q_letters ‹Lw _ _›); (focus walk_at "ts hp")))
local macro_rules | `(tactic| walk_at "ts call") => `(tactic| ((with_reducible apply q_fld); (with_reducible apply Ts.q_var); (focus rfl); (with_reducible apply q_offF ‹Lw _ _›); (focus walk_at "ts hp")))

/-! ### what is due of a letter put -/
def sp_l_put_due : Sp := fun vs H Q _ => ∃ (oa b : Addr) (ps : List LV) (L : Ltr), vs = [.ref oa, .ref b] ∧ H oa = some (.lst (xsOf ps)) ∧ Lts H (xsOf ps) (lsOf ps) ∧ ps.length ≤ 200 ∧ LtAt H b L ∧ ∀ w H', w = putW (lsOf ps) L → Same H H' → Q (.str w) H'
theorem ok_l_put_due (T : Lw K mg) : FnOk P w K mg base CX0 1 T.f_l_put_due T.fd_l_put_due ["_law_own", "_law_letter_here"] sp_l_put_due := by
  refine T.d_l_put_due.F.ok sc_l_put_due (fun vs H Q E h => ?_) (fun cdv A outer s H vs Q E hr h => ?_)
  · obtain ⟨oa, b, ps, L, rfl, _⟩ := h
    rfl
  · obtain ⟨oa, b, ps, L, rfl, ho, hls, h200, hb, q⟩ := h
    have hb' : H b = some (.tup [.str L.name, .int L.sent, .int L.back, .int L.low, .int L.high]) := hb
    have hN : ∀ H', Same H H' → (L.name = "" ∨ L.name = "Q") → Q (.str "name") H' := fun H' s h => q _ H' (by unfold putW; rw [if_pos h]) s
    refine ⟨_, (pss_cons (ps_asg (pv 1) (Ts.pg_tupK K 5 (by rfl) (pgs_cons (pg_name (i := 2) sc_l_put_due.nd rfl (by first | exact Or.inl rfl | exact Or.inr rfl)) (pgs_cons (pg_name (i := 3) sc_l_put_due.nd rfl (by first | exact Or.inl rfl | exact Or.inr rfl)) (pgs_cons (pg_name (i := 4) sc_l_put_due.nd rfl (by first | exact Or.inl rfl | exact Or.inr rfl)) (pgs_cons (pg_name (i := 5) sc_l_put_due.nd rfl (by first | exact Or.inl rfl | exact Or.inr rfl)) (pgs_cons (pg_name (i := 6) sc_l_put_due.nd rfl (by first | exact Or.inl rfl | exact Or.inr rfl)) pgs_nil))))))) (pss_cons (ps_if (PW.pt (pw_or (pt_cmpR op_eq (pv 2) pe_str (nomark _)) (pw_or1 (pt_cmpR op_eq (pv 2) pe_str (nomark _))))) (pss_one (ps_ret pe_str)) pss_nil) (pss_cons (ps_if (PW.pt (pw_or (pt_cmpR op_gt (pv 3) (pv 4) (nomark _)) (pw_or1 (pt_cmpR op_gt (pv 5) (pv 6) (nomark _))))) (pss_one (ps_ret pe_str)) pss_nil) (pss_cons (ps_setLc (i := 7) (own := [("_law_one", 8)]) rfl sc_l_put_due.nd rfl rfl (sw_true rfl rfl rfl (by decide +kernel)) (Ts.pi_listK K (pv 0)) (blkOk_by (own := [("_law_one", 8)]) (N := N_l_put_due) (sc := defScope s_l_put_due) (by decide +kernel)) (fun _ _ _ _ _ => pg_name (i := 8) sc_l_put_due.nd rfl (Or.inl rfl)) (fun _ _ _ _ _ => pts_nil) (fun _ _ _ _ _ => (pe_ix (Ts.ix_tupK K) (pv 8) pe_int (fun _ _ => rfl)))) (pss_cons (ps_if (PW.pt (pw_or (pt_cmpR op_ge (pe_callB (Ts.call_lenK K) (by rfl) T.n_len (by decide +kernel) (pa_cons (pv 0) pa_nil)) pe_int (nomark _)) (pw_or1 (PW.pt (pw_and (pt_cmpR (Ts.op_notInK K) (pv 2) (pv 7) rfl) (pw_and1 (pt_cmpR op_ge (Ts.pe_lenTx rfl (by rfl) T.n_len (by rfl) T.n_set (pv 7)) pe_int (nomark _)))))))) (pss_one (ps_ret pe_str)) pss_nil) (pss_one (ps_ret pe_str))))))), ?_⟩
    walk_at "ts"
    refine Ts.q_iteD (fun h1 => ?_) (fun h1 => ?_)
    · walk_at "ts"
      exact hN _ (Same.refl _) (.inl h1)
    walk_at "ts"
    refine Ts.q_iteD (fun h2 => ?_) (fun h2 => ?_)
    · walk_at "ts"
      exact hN _ (Same.refl _) (.inr h2)
    have h12 : ¬ (L.name = "" ∨ L.name = "Q") := fun z => z.elim h1 h2
    have hL : ∀ H', Same H H' → (L.back < L.sent ∨ L.high < L.low) → Q (.str "letter") H' := fun H' s h => q _ H' (by unfold putW; rw [if_neg h12, if_pos h]) s
    walk_at "ts"
    refine Ts.q_iteD (fun h3 => ?_) (fun h3 => ?_)
    · walk_at "ts"
      exact hL _ (Same.refl _) (.inl h3)
    walk_at "ts"
    refine Ts.q_iteD (fun h4 => ?_) (fun h4 => ?_)
    · walk_at "ts"
      exact hL _ (Same.refl _) (.inr h4)
    have h34 : ¬ (L.back < L.sent ∨ L.high < L.low) := fun z => z.elim h3 h4
    have hM : ∀ H', Same H H' → Full (lsOf ps) L.name → Q (.str "many") H' := fun H' s h => q _ H' (by unfold putW; rw [if_neg h12, if_neg h34, if_pos h]) s
    have hE : ∀ H', Same H H' → ¬ Full (lsOf ps) L.name → Q (.str "") H' := fun H' s h => q _ H' (by unfold putW; rw [if_neg h12, if_neg h34, if_neg h]) s
    clear q hN hL
    walk_at "ts"
    refine Ts.q_lcL (sqL_of ho) (by rw [List.length_map]; omega) (fun _ => true) (fun i _ v => ∃ p, (ps.map fun p => p.1.name)[i]? = some p ∧ v = .str p) (fun _ _ _ _ _ h => h) ?_ ?_
    · intro i x H1 QB QV hx s1 qb qv
      obtain ⟨M, hp, _⟩ := lv_at hx
      obtain ⟨c, rfl, hc⟩ := lv_lt (hls.mono (tsame_of s1)) hp
      walk_at "ts"
      refine ⟨rfl, ?_⟩
      walk_at "ts"
      exact qv _ _ rfl (Same.refl _) ⟨M.name, by rw [List.getElem?_map, hp]; rfl, rfl⟩
    · intro zs pz H1 s1 hfz hpz pr
      rw [filt_all, List.length_map] at pr
      have pr2 := Ts.paired_range (R := fun v (z : Str) => v = .str z) (l := ps.map fun p => p.1.name) (by rw [List.length_map]; exact pr)
      obtain rfl : zs = ((lsOf ps).map Ltr.name).map V.str := by
        have e := Ts.paired_eq (f := V.str) (flip_ pr2)
        rw [e, List.map_map, List.map_map, List.map_map]
        rfl
      have ho1 := s1 _ _ ho
      have hlen : ((lsOf ps).map Ltr.name).length = ps.length := by rw [List.length_map, List.length_map]
      walk_at "ts"
      refine Ts.q_iteD (fun h5 => ?_) (fun h5 => ?_)
      · walk_at "ts"
        exact hM _ s1 (.inl (by rw [List.length_map] at h5 ⊢; omega))
      rw [List.length_map] at h5
      walk_at "ts"
      refine q_notInS (sqL_of hpz) ?_
      walk_at "ts"
      refine Ts.q_iteN (fun h6 => ?_) (fun h6 => ?_)
      · walk_at "ts"
        refine q_lenTx ?_
        walk_at "ts"
        refine ⟨pz, _, rfl, sqL_of hpz, by omega, ?_⟩
        walk_at "ts"
        refine Ts.q_iteD (fun h7 => ?_) (fun h7 => ?_)
        · walk_at "ts"
          exact hM _ s1 (.inr ⟨h6, by omega⟩)
        · walk_at "ts"
          refine hE _ s1 ?_
          rintro (z | ⟨_, z⟩)
          · rw [List.length_map] at z; omega
          · omega
      · walk_at "ts"
        refine hE _ s1 ?_
        rintro (z | ⟨z, _⟩)
        · rw [List.length_map] at z; omega
        · exact z h6

/-! ### a letter put -/
theorem lts_mem {H : Hp} {ps : List LV} (h : Lts H (xsOf ps) (lsOf ps)) : ∀ p ∈ ps, IsLt H p.2 p.1 := fun p hp => by
  obtain ⟨i, hi, e⟩ := List.getElem_of_mem hp
  obtain ⟨b, e1, e2⟩ := lv_lt h (L := p.1) (x := p.2) (i := i) (by rw [List.getElem?_eq_getElem hi, e])
  exact ⟨b, e1, e2⟩
theorem lts_of_mem {H : Hp} : ∀ {ps : List LV}, (∀ p ∈ ps, IsLt H p.2 p.1) → Lts H (xsOf ps) (lsOf ps)
  | [], _ => .nil
  | p :: r, h => .cons (h p List.mem_cons_self) (lts_of_mem fun q hq => h q (List.mem_cons_of_mem _ hq))
def sp_l_put (T : Lw K mg) : Sp := fun vs H Q _ => ∃ (wa dx oa la b : Addr) (f : Int) (ps : List LV) (L : Ltr), vs = [.ref wa, .ref oa, .ref b] ∧ WS T H wa dx oa la f ps ∧ LtAt H b L ∧ Lok L ∧ ∀ H' ps', WS T H' wa dx oa la f ps' → Stp wa la oa H H' → Q (.bl true) H'
theorem c_l_put {T : Lw K mg} {wa dx oa la b : Addr} {f : Int} {ps : List LV} {L : Ltr} {H : Hp} {Q : VK} {E : XK} (ws : WS T H wa dx oa la f ps) (hb : LtAt H b L) (hL : Lok L) (q : ∀ H' ps', WS T H' wa dx oa la f ps' → Stp wa la oa H H' → Q (.bl true) H') : sp_l_put T ([.ref wa, .ref oa, .ref b] ++ []) H Q E := ⟨wa, dx, oa, la, b, f, ps, L, rfl, ws, hb, hL, q⟩
theorem putW_name {ls : List Ltr} {L : Ltr} (h : Lok L) (n : ¬ IsName L.name) : putW ls L = "name" := by
  rcases putW_cases (ls := ls) h with ⟨_, e⟩ | ⟨a, _⟩ | ⟨a, _⟩ | ⟨a, _⟩
  · exact e
  all_goals exact absurd a n
theorem putW_letter {ls : List Ltr} {L : Ltr} (h : Lok L) (n : IsName L.name) (g : ¬ Good L) : putW ls L = "letter" := by
  rcases putW_cases (ls := ls) h with ⟨a, _⟩ | ⟨_, _, e⟩ | ⟨_, a, _⟩ | ⟨_, a, _⟩
  · exact absurd n a
  · exact e
  all_goals exact absurd a g
theorem putW_many {ls : List Ltr} {L : Ltr} (h : Lok L) (n : IsName L.name) (g : Good L) (f : Full ls L.name) : putW ls L = "many" := by
  rcases putW_cases (ls := ls) h with ⟨a, _⟩ | ⟨_, a, _⟩ | ⟨_, _, _, e⟩ | ⟨_, _, a, _⟩
  · exact absurd n a
  · exact absurd g a
  · exact e
  · exact absurd f a
theorem putW_none {ls : List Ltr} {L : Ltr} (h : Lok L) (n : IsName L.name) (g : Good L) (f : ¬ Full ls L.name) : putW ls L = "" := by
  rcases putW_cases (ls := ls) h with ⟨a, _⟩ | ⟨_, a, _⟩ | ⟨_, _, a, _⟩ | ⟨_, _, _, e⟩
  · exact absurd n a
  · exact absurd g a
  · exact absurd a f
  · exact e
theorem ok_l_put (T : Lw K mg) : FnOk P w K mg base CX0 4 T.f_l_put T.fd_l_put ["_law_watch", "_law_own", "_law_letter_here"] (sp_l_put T) := by
  refine T.d_l_put.F.ok sc_l_put (fun vs H Q E h => ?_) (fun cdv A outer s H vs Q E hr h => ?_)
  · obtain ⟨wa, dx, oa, la, b, f, ps, L, rfl, _⟩ := h
    rfl
  · obtain ⟨wa, dx, oa, la, b, f, ps, L, rfl, ws, hb, hL, q⟩ := h
    refine ⟨_, (pss_cons (ps_asg (pe_call ((ok_l_put_due T).mono (by decide)) hr rfl T.m_l_put_due T.d_l_put_due.F.kp T.d_l_put_due.b .nil pass0 (pa_cons (pv 1) (pa_cons (pv 2) pa_nil))) (pg_name (i := 3) sc_l_put.nd rfl (by first | exact Or.inl rfl | exact Or.inr rfl))) (pss_cons (ps_try_as (i := 5) rfl rfl sc_l_put.nd rfl rfl ⟨rfl, by decide, .inl T.m_StretchError⟩ takes0 (fun W pn xe tk _ => (pss_one (ps_asg (Ts.pe_methSD (pv 0) T.k_Watch.cls T.w_Watch_put ((ok_Watch_put T).mono (by decide)) hr T.d_Watch_put.b .nil (fun z => passAt tk z) (pa_cons (pv 2) pa_nil)) (pg_name (i := 4) sc_l_put.nd rfl (by first | exact Or.inl rfl | exact Or.inr rfl))))) (fun a oe cls d pn hz hf => (pss_one (ps_ret (pe_and (pe_cmpR op_ne (pv 3) pe_str (nomark _)) (pe_one (pe_cmpR op_eq (pe_callE (ok_l_kind T) ⟨(hr.mono (j := 1) (by decide)).dp, (hr.mono (j := 1) (by decide)).un⟩ List.mem_cons_self hz hf rfl T.m_l_kind T.d_l_kind.F.kp T.d_l_kind.b (pv 5)) (pv 3) (nomark _)))))))) (pss_cons (ps_expr (pe_bm PySem.F.plainAttrs_list PySem.F.slot_list_append PySem.F.type_list_append mt_append (pv 1) (pa_cons (pv 2) pa_nil))) (pss_one (ps_ret (pe_and (pe_cmpR op_eq (pv 3) pe_str (nomark _)) (pe_and (pe_call ((ok_l_whole T).mono (by decide)) hr rfl T.m_l_whole T.d_l_whole.F.kp T.d_l_whole.b .nil pass0 (pa_cons (pv 4) pa_nil)) (pe_one (pe_cmpR op_eq (pv 4) (pe_callB (Ts.call_lenK K) (by rfl) T.n_len (by decide +kernel) (pa_cons (pv 1) pa_nil)) (nomark _)))))))))), ?_⟩
    walk_at "ts"
    refine ⟨oa, b, ps, L, rfl, ws.o, ws.lt, ws.few, hb, fun wd H1 hwd s1 => ?_⟩
    have ws1 := ws.stay s1
    have hb1 : LtAt H1 b L := s1 _ _ hb
    walk_at "ts"
    refine q_methS ?_
    walk_at "ts"
    refine ⟨wa, dx, _, rfl, ws1.w, rfl, ?_⟩
    walk_at "ts"
    refine ⟨wa, dx, la, b, f, xsOf ps, lsOf ps, L, rfl, ws1.w, ws1.l, ws1.lt, by rw [List.length_map]; exact ws1.few, ws1.clk, hb1, hL.len, fun hn hg hf H2 fr dm hl2 => ?_, fun hn => ?_, fun hn hg H2 s2 => ?_, fun hn hg hf H2 s2 => ?_⟩
    · obtain rfl : wd = "" := hwd.trans (putW_none hL hn hg hf)
      have ho2 : H2 oa = some (.lst (xsOf ps)) := fr _ _ ws1.o ws1.ne.symm
      have hw2 := fr _ _ ws1.w (ne_of ws1.w ws1.l (by intro z; cases z))
      have nw : wa ≠ oa := ne_of ws1.w ws1.o (by intro z; cases z)
      have t2 : TSame H1 H2 := fun c xs hc => fr _ _ hc (ne_of hc ws1.l (by intro z; cases z))
      have ex : xsOf (ps ++ [(L, V.ref b)]) = xsOf ps ++ [.ref b] := List.map_append
      have el : lsOf (ps ++ [(L, V.ref b)]) = lsOf ps ++ [L] := List.map_append
      have nf := hf
      unfold Full at nf
      rw [List.length_map] at nf
      have h200 := ws.few
      walk_at "ts"
      refine Ts.q_append ho2 (by rw [List.length_map]; omega) ?_
      have t3 : TSame H2 (upd H2 oa (.lst (xsOf ps ++ [.ref b]))) := tsame_lst ho2
      walk_at "ts"
      refine Ts.q_lenL (sqL_of upd_same) ?_
      walk_at "ts"
      refine Ts.q_blT (by simp) ?_
      refine q _ (ps ++ [(L, .ref b)]) ⟨?_, ?_, ?_, ws.ne, ?_, ?_, ?_, ?_, ws.f0, ws.f1⟩ ⟨fun c o hc h1 h2 h3 => ?_, ((tsame_of s1).trans t2).trans t3, fun c hc => ?_⟩
      · rw [upd_ne nw]
        exact hw2
      · rw [upd_ne ws.ne, ex]
        exact hl2
      · rw [upd_same, ex]
      · rw [ex, el]
        exact Paired.snoc ⟨b, rfl, t3 _ _ (t2 _ _ hb1)⟩ ((ws1.lt.mono t2).mono t3)
      · intro M hM
        rw [el] at hM
        rcases List.mem_append.mp hM with hM | hM
        · exact ws.ok M hM
        · rw [List.mem_singleton] at hM
          subst hM
          exact ⟨hn, hg⟩
      · rw [List.length_append]
        show ps.length + 1 ≤ 200
        omega
      · rw [el, List.map_append, show [L].map Ltr.name = [L.name] from rfl, firsts_perm]
        have := ws.clk
        split
        · exact this
        · rename_i hnm
          by_cases h40 : 40 ≤ (firsts ((lsOf ps).map Ltr.name)).length
          · exact absurd (.inr ⟨hnm, h40⟩) nf
          · omega
      · rw [upd_ne h3]
        exact fr _ _ (s1 _ _ hc) h2
      · by_cases hco : c = oa
        · rw [hco, upd_same] at hc
          cases hc
        · rw [upd_ne hco] at hc
          exact Same.free s1 (dm c hc)
    · obtain rfl : wd = "name" := hwd.trans (putW_name hL hn)
      refine ⟨true, T.t_BadName, fun _ a2 na => ?_, fun z => nomatch z⟩
      walk_at "ts"
      refine ⟨rfl, rfl, T.C_BadName, 0, "name", rfl, kd_BadName T, rfl, fun H3 s3 => ?_⟩
      walk_at "ts"
      exact q _ ps (ws1.stay s3) (.of_same (s1.trans s3))
    · obtain rfl : wd = "letter" := hwd.trans (putW_letter hL hn hg)
      refine ⟨true, T.t_BadLetter, fun _ a2 na => ?_, fun z => nomatch z⟩
      walk_at "ts"
      refine ⟨rfl, rfl, T.C_BadLetter, 1, "letter", rfl, kd_BadLetter T, rfl, fun H3 s3 => ?_⟩
      walk_at "ts"
      exact q _ ps (ws1.stay (s2.trans s3)) (.of_same (s1.trans (s2.trans s3)))
    · obtain rfl : wd = "many" := hwd.trans (putW_many hL hn hg hf)
      refine ⟨true, T.t_TooMany, fun _ a2 na => ?_, fun z => nomatch z⟩
      walk_at "ts"
      refine ⟨rfl, rfl, T.C_TooMany, 7, "many", rfl, kd_TooMany T, rfl, fun H3 s3 => ?_⟩
      walk_at "ts"
      exact q _ ps (ws1.stay (s2.trans s3)) (.of_same (s1.trans (s2.trans s3)))

end Law


namespace Law
open PySem PySem.Spec PyProof.Rows L2 Ts
variable {P : Program} {w : World} {K : PySem.W.Frag} {mg : Str → Option Value} {base : Heap}
local macro_rules | `(tactic| walk_at "ts call") => `(tactic| ((with_reducible apply c_l_cell_at); (focus walk_at "ts sq"); (focus omega); intro z ez))
local macro_rules | `(tactic| walk_at "ts call") => `(tactic| ((with_reducible apply c_l_mix); intro z ez z0 z1))
local macro_rules | `(tactic| walk_at "ts call") => `(tactic| ((with_reducible apply c_l_big); intro z H2 z0 z1 sz))
local macro_rules | `(tactic| walk_at "ts call") => `(tactic| ((with_reducible apply c_l_off); intro z H2 z0 z1 sz))
local macro_rules | `(tactic| walk_at "ts call") => `(tactic| with_reducible apply c_l_whole)
local macro_rules | `(tactic| walk_at "ts call") => `(tactic| ((with_reducible apply c_l_word); (focus omega); (focus omega); intro z hz lz))
local macro_rules | `(tactic| walk_at "ts call") => `(tactic| ((with_reducible apply c_l_names); intro b k p H2 lb lb2 s2 hp))
local macro_rules | `(tactic| walk_at "ts call") => `(tactic| ((with_reducible apply c_l_slack); (focus omega); (focus omega)))
local macro_rules | `(tactic| walk_at "ts call") => `(tactic| ((with_reducible apply c_slack); (focus omega); (focus omega)))
local macro_rules | `(tactic| walk_at "ts call") => `(tactic| ((with_reducible apply c_l_brought); (focus walk_at "ts hp"); (focus omega); (focus omega); intro b H2 s2 hb))
local macro_rules | `(tactic| walk_at "ts call") => `(tactic| ((with_reducible apply c_l_letter); (focus walk_at "ts sq"); (focus first | assumption | omega | (simp; omega)); (focus omega); intro L b H2 s2 hL nL okL))
local macro_rules | `(tactic| walk_at "ts call") => `(tactic| ((with_reducible apply c_l_gathered); (focus walk_at "ts hp"); (focus walk_at "ts ck"); (focus omega); (focus omega); (focus omega); (focus assumption); (focus assumption); intro ys p H2 s2 hfr hp hgc))
local macro_rules | `(tactic| walk_at "ts call") => `(tactic| ((with_reducible apply c_l_many); (focus walk_at "ts hp"); (focus walk_at "ts ck")))
local macro_rules | `(tactic| walk_at "ts call") => `(tactic| ((with_reducible apply c_l_lows); (focus walk_at "ts hp"); (focus walk_at "ts ck"); (focus omega); intro p H2 s2 hp))
local macro_rules | `(tactic| walk_at "ts call") => `(tactic| ((with_reducible apply c_l_edges); (focus walk_at "ts hp"); (focus walk_at "ts ck"); (focus omega); intro ns p H2 s2 hp hnl))
local macro_rules | `(tactic| walk_at "ts call") => `(tactic| ((with_reducible apply q_fld); (with_reducible apply Ts.q_var); (focus rfl); (with_reducible apply q_letters ‹Lw _ _›); (focus walk_at "ts hp")))
local macro_rules | `(tactic| walk_at "ts call") => `(tactic| ((with_reducible apply q_fld); (with_reducible apply Ts.q_var); (focus rfl); (with_reducible apply q_offF ‹Lw _ _›); (focus walk_at "ts hp")))

/-! ### a name dropped -/
theorem cnt_without (n : Str) : ∀ ps : List LV, (ps.filter fun p => decide (p.1.name = n)).length + (without n ps).length = ps.length
  | [] => rfl
  | p :: r => by
    have ih := cnt_without n r
    unfold without at ih ⊢
    by_cases h : p.1.name = n
    · rw [List.filter_cons, if_pos (decide_eq_true h), List.filter_cons, if_neg (by rw [decide_eq_true h]; decide), List.length_cons, List.length_cons]
      omega
    · rw [List.filter_cons, if_neg (by rw [decide_eq_false h]; decide), List.filter_cons, if_pos (by rw [decide_eq_false h]; rfl), List.length_cons, List.length_cons]
      omega
theorem without_snoc {n : Str} {ps : List LV} {i : Nat} {p : LV} (h : ps[i]? = some p) : without n (ps.take (i + 1)) = without n (ps.take i) ++ if p.1.name = n then [] else [p] := by
  unfold without
  rw [take_snocL h, List.filter_append, List.filter_cons]
  by_cases e : p.1.name = n
  · rw [if_pos e, if_neg (by rw [decide_eq_true e]; decide)]
    rfl
  · rw [if_neg e, if_pos (by rw [decide_eq_false e]; rfl)]
    rfl
theorem drop_cons {α : Type} {ps : List α} {i : Nat} {p : α} (h : ps[i]? = some p) : ps.drop i = p :: ps.drop (i + 1) := by
  obtain ⟨hi, e⟩ := List.getElem?_eq_some_iff.mp h
  rw [List.drop_eq_getElem_cons hi, e]
theorem erase_mid {α : Type} : ∀ (a : List α) (x : α) (b : List α), (a ++ x :: b).eraseIdx a.length = a ++ b
  | [], x, b => rfl
  | y :: a, x, b => by
    have ih := erase_mid a x b
    simp [ih]
theorem at_mid {α : Type} : ∀ (a : List α) (x : α) (b : List α), (a ++ x :: b)[a.length]? = some x
  | [], x, b => rfl
  | y :: a, x, b => by
    have ih := at_mid a x b
    simpa using ih
theorem eqv_names {M L : Ltr} (h : M.name ≠ L.name) : PyData.eqv (dLt M) (dLt L) = false := by
  have e : (M.name == L.name) = false := beq_eq_false_iff_ne.mpr h
  simp [dLt, PyData.eqv, PyData.eqvAll, e]
/-- what stands behind the i-th turn -/
abbrev halfway (n : Str) (ps : List LV) (i : Nat) : List LV := without n (ps.take i) ++ ps.drop i
theorem half_mem {n : Str} {ps : List LV} {i : Nat} {p : LV} (h : p ∈ halfway n ps i) : p ∈ ps := by
  rcases List.mem_append.mp h with h | h
  · exact List.mem_of_mem_take (List.mem_filter.mp h).1
  · exact List.mem_of_mem_drop h
theorem half_len (n : Str) (ps : List LV) (i : Nat) : (halfway n ps i).length ≤ ps.length := by
  unfold halfway without
  rw [List.length_append, List.length_drop]
  have a := List.length_filter_le (fun p : LV => !decide (p.1.name = n)) (ps.take i)
  rw [List.length_take] at a
  omega
theorem ne_of_none' {H : Hp} {a b : Addr} {o : HO} (h : H b = some o) (n : H a = none) : a ≠ b := by
  rintro rfl
  rw [h] at n
  cases n
theorem q_listOfF {a : Addr} {xs : List V} {H : Hp} {Q : VK} (h : SqL K H a xs) (q : ∀ p H', Same H H' → H p = none → H' p = some (.lst xs) → Q (.ref p) H') : rListOf K [.ref a] H Q := ⟨a, xs, rfl, .inl h, fun l hl => q l _ (same_upd hl) hl upd_same⟩
def sp_l_drop (T : Lw K mg) : Sp := fun vs H Q _ => ∃ (wa dx oa la : Addr) (f : Int) (ps : List LV) (n : Str), vs = [.ref wa, .ref oa, .str n] ∧ WS T H wa dx oa la f ps ∧ ∀ H' la' ps', (la' = la ∨ H la' = none) → WS T H' wa dx oa la' f ps' → Stp wa la oa H H' → Q (.bl true) H'
theorem c_l_drop {T : Lw K mg} {wa dx oa la : Addr} {f : Int} {ps : List LV} {n : Str} {H : Hp} {Q : VK} {E : XK} (ws : WS T H wa dx oa la f ps) (q : ∀ H' la' ps', (la' = la ∨ H la' = none) → WS T H' wa dx oa la' f ps' → Stp wa la oa H H' → Q (.bl true) H') : sp_l_drop T ([.ref wa, .ref oa, .str n] ++ []) H Q E := ⟨wa, dx, oa, la, f, ps, n, rfl, ws, q⟩
theorem ok_l_drop (T : Lw K mg) : FnOk P w K mg base CX0 2 T.f_l_drop T.fd_l_drop ["_law_watch", "_law_own", "_law_name"] (sp_l_drop T) := by
  refine T.d_l_drop.F.ok sc_l_drop (fun vs H Q E h => ?_) (fun cdv A outer s H vs Q E hr h => ?_)
  · obtain ⟨wa, dx, oa, la, f, ps, n, rfl, _⟩ := h
    rfl
  · obtain ⟨wa, dx, oa, la, f, ps, n, rfl, ws, q⟩ := h
    have h200 := ws.few
    have hcw := cnt_without n ps
    refine ⟨_, (pss_cons (ps_asg (pe_callB (Ts.call_lenK K) (by rfl) T.n_len (by decide +kernel) (pa_cons (pe_lc (own := [("_law_one", 6)]) rfl sc_l_drop.nd (Ts.pi_listK K (pv 1)) (blkOk_by (own := [("_law_one", 6)]) (N := N_l_drop) (sc := defScope s_l_drop) (by decide +kernel)) (fun _ _ _ _ _ => pg_name (i := 6) sc_l_drop.nd rfl (Or.inl rfl)) (fun _ _ _ _ _ => pts_one (pt_cmpR op_eq (pe_ix (Ts.ix_tupK K) (pv 6) pe_int (fun _ _ => rfl)) (pv 2) (nomark _))) (fun _ _ _ _ _ => (pv 6))) pa_nil)) (pg_name (i := 3) sc_l_drop.nd rfl (by first | exact Or.inl rfl | exact Or.inr rfl))) (pss_cons (ps_try_as (i := 5) rfl rfl sc_l_drop.nd rfl rfl ⟨rfl, by decide, .inl T.m_StretchError⟩ takes0 (fun W pn xe tk _ => (pss_one (ps_asg (Ts.pe_methSD (pv 0) T.k_Watch.cls T.w_Watch_drop ((ok_Watch_drop T).mono (by decide)) hr T.d_Watch_drop.b .nil (fun z => passAt tk z) (pa_cons (pv 2) pa_nil)) (pg_name (i := 4) sc_l_drop.nd rfl (by first | exact Or.inl rfl | exact Or.inr rfl))))) (fun a oe cls d pn hz hf => (pss_one (ps_ret (pe_and (pe_cmpR op_eq (pv 3) pe_int (nomark _)) (pe_one (pe_cmpR op_eq (pe_callE (ok_l_kind T) ⟨(hr.mono (j := 1) (by decide)).dp, (hr.mono (j := 1) (by decide)).un⟩ List.mem_cons_self hz hf rfl T.m_l_kind T.d_l_kind.F.kp T.d_l_kind.b (pv 5)) pe_str (nomark _)))))))) (pss_cons (ps_for PassesOwn.never rfl (Ts.pi_listK K (pe_callTy (Ts.call_listK K) (by rfl) T.n_list (by decide +kernel) (pa_cons (pv 1) pa_nil))) (pg_name (i := 6) sc_l_drop.nd rfl (by first | exact Or.inl rfl | exact Or.inr rfl)) (pss_one (ps_if (pt_cmpR op_eq (pe_ix (Ts.ix_tupK K) (pv 6) pe_int (fun _ _ => rfl)) (pv 2) (nomark _)) (pss_one (ps_expr (pe_bm PySem.F.plainAttrs_list PySem.F.slot_list_remove PySem.F.type_list_remove (Ts.mt_removeK K (Ts.units_65 hr)) (pv 1) (pa_cons (pv 6) pa_nil)))) pss_nil))) (pss_one (ps_ret (pe_and (pe_cmpR op_gt (pv 3) pe_int (nomark _)) (pe_and (pe_call ((ok_l_whole T).mono (by decide)) hr rfl T.m_l_whole T.d_l_whole.F.kp T.d_l_whole.b .nil pass0 (pa_cons (pv 4) pa_nil)) (pe_one (pe_cmpR op_eq (pv 4) (pv 3) (nomark _)))))))))), ?_⟩
    walk_at "ts"
    have ho := ws.o
    refine Ts.q_lcL (sqL_of ho) (by rw [List.length_map]; omega) (fun i => (ps[i]?).elim false fun p => decide (p.1.name = n)) (fun i _ v => ∃ p, ps[i]? = some p ∧ v = p.2) (fun _ _ _ _ _ h => h) ?_ ?_
    · intro i x H1 QB QV hx s1 qb qv
      obtain ⟨L, hp, _⟩ := lv_at hx
      obtain ⟨b, rfl, hb⟩ := lv_lt (ws.lt.mono (tsame_of s1)) hp
      rw [hp] at qb qv
      walk_at "ts"
      refine ⟨rfl, ?_⟩
      walk_at "ts"
      refine Ts.q_iteD (fun h => ?_) (fun h => ?_)
      · walk_at "ts"
        exact qv _ _ (decide_eq_true h) (Same.refl _) ⟨_, rfl, rfl⟩
      · exact qb (decide_eq_false h) _ (Same.refl _)
    · intro zs pz H1 s1 hfz hpz pr
      rw [List.length_map] at pr
      have pr2 := Ts.paired_filter (R := fun (p : LV) v => v = p.2) ps (fun p => decide (p.1.name = n)) ps.length (Nat.le_refl _) zs pr
      rw [List.take_length] at pr2
      have ez := Ts.paired_eq pr2
      have hzl : zs.length = (ps.filter fun p => decide (p.1.name = n)).length := by rw [ez, List.length_map]
      have ws1 := ws.stay s1
      walk_at "ts"
      rw [hzl]
      generalize hc : (ps.filter fun p => decide (p.1.name = n)).length = cnt at *
      walk_at "ts"
      refine q_methS ?_
      walk_at "ts"
      refine ⟨wa, dx, _, rfl, ws1.w, rfl, ?_⟩
      walk_at "ts"
      refine ⟨wa, dx, la, f, ps, n, rfl, ws1.w, ws1.l, ws1.lt, ws1.few, fun hne la' H2 hla hw2 hl2 fr dm => ?_, fun he H2 s2 => ?_⟩
      · have no1 : wa ≠ oa := ne_of ws1.w ws1.o (by intro z; cases z)
        have no2 : la' ≠ oa := ne_of_none' ws1.o hla
        have ho2 : H2 oa = some (.lst (xsOf ps)) := fr _ _ ws1.o no1.symm
        have t2 : TSame H1 H2 := fun c xs hc => fr _ _ hc (ne_of hc ws1.w (by intro z; cases z))
        have lt2 := lts_mem (ws1.lt.mono t2)
        walk_at "ts"
        refine q_listOfF (sqL_of ho2) fun pc H3 s3 hfc hpc => ?_
        have noc : pc ≠ oa := ne_of_none' ho2 hfc
        have ho3 := s3 _ _ ho2
        walk_at "ts"
        refine Ts.q_forL (xsOf ps) (sqL_of hpc) (fun i σ' H' => ∃ v : Option V, σ' = [some (.ref wa), some (.ref oa), some (.str n), some (.int cnt), some (.int ((ps.length : Nat) - ((without n ps).length : Nat) : Int)), none, v] ∧ (∀ c o, H3 c = some o → c ≠ oa → H' c = some o) ∧ (∀ c, H' c = none → H3 c = none) ∧ H' oa = some (.lst (xsOf (halfway n ps i))))
          ⟨none, rfl, fun _ _ h _ => h, fun _ h => h, ho3⟩ (fun i σ' H' ⟨_, _, h, _, _⟩ => sqL_of (h _ _ hpc noc)) ?_ ?_
        · rintro i x σ' H' hx ⟨v, rfl, fr3, dm3, hoh⟩
          obtain ⟨L, hp, _⟩ := lv_at hx
          have t3 : TSame H2 H' := fun c xs hc => fr3 _ _ (s3 _ _ hc) (ne_of (s3 _ _ hc) ho3 (by intro z; cases z))
          have hall : ∀ p ∈ halfway n ps i, IsLt H' p.2 p.1 := fun p hp => (lt2 p (half_mem hp)).mono t3
          obtain ⟨b, rfl, hb⟩ := lv_lt (lts_of_mem fun p hp => (lt2 p hp).mono t3) hp
          have eh : halfway n ps i = without n (ps.take i) ++ (L, .ref b) :: ps.drop (i + 1) := by rw [← drop_cons hp]
          walk_at "ts"
          refine Ts.q_iteD (fun h => ?_) (fun h => ?_)
          · have hokL : ∀ p ∈ ps, PyData.strOk p.1.name = true := fun p hp => (ws.ok p.1 (List.mem_map.mpr ⟨p, hp, rfl⟩)).1.2.2.ok
            have e1 : halfway n ps (i + 1) = without n (ps.take i) ++ ps.drop (i + 1) := by
              unfold halfway
              rw [without_snoc hp, if_pos h, List.append_nil]
            walk_at "ts"
            refine ⟨oa, .ref b, xsOf (halfway n ps i), dLt L, (lsOf (halfway n ps i)).map dLt, (without n (ps.take i)).length, dLt L, rfl, rfl, hoh, dp_all (fun _ _ z => dp_lt z) (lts_of_mem hall), dp_lt ⟨b, rfl, hb⟩, shaped_list _ (fun M hM => ?_), shaped_lt (hokL (L, .ref b) (List.mem_of_getElem? hp)), ?_, SeqAt.eqv_refl _ (SeqAt.canLay_of_shaped (shaped_lt (hokL (L, .ref b) (List.mem_of_getElem? hp)))), ?_, ?_⟩
            · obtain ⟨p, hp', rfl⟩ := List.mem_map.mp hM
              exact ok_dLt _ (hokL p (half_mem hp'))
            · rw [List.getElem?_map, List.getElem?_map, eh, at_mid]
              rfl
            · intro m z' hm hz'
              rw [List.getElem?_map, List.getElem?_map, eh, List.getElem?_append_left hm, List.getElem?_eq_getElem hm] at hz'
              cases hz'
              refine eqv_names ?_
              have hmem := List.getElem_mem hm
              have := (List.mem_filter.mp hmem).2
              rw [h]
              simpa using this
            · have e2 : (xsOf (halfway n ps i)).eraseIdx (without n (ps.take i)).length = xsOf (halfway n ps (i + 1)) := by
                rw [eh, e1]
                show (List.map Prod.snd _).eraseIdx _ = List.map Prod.snd _
                rw [List.map_append, List.map_append, List.map_cons]
                have e3 : (without n (ps.take i)).length = (List.map Prod.snd (without n (ps.take i))).length := (List.length_map _).symm
                rw [e3, erase_mid]
              rw [e2]
              walk_at "ts"
              refine ⟨_, rfl, fun c o hc hne => ?_, fun c hc => ?_, upd_same⟩
              · rw [upd_ne hne]
                exact fr3 _ _ hc hne
              · by_cases hco : c = oa
                · rw [hco, upd_same] at hc
                  cases hc
                · rw [upd_ne hco] at hc
                  exact dm3 c hc
          · walk_at "ts"
            refine ⟨_, rfl, fr3, dm3, ?_⟩
            have e1 : halfway n ps (i + 1) = halfway n ps i := by
              unfold halfway
              rw [without_snoc hp, if_neg h, drop_cons hp, List.append_assoc]
              rfl
            rw [e1]
            exact hoh
        · rintro σ' H' ⟨v, rfl, fr3, dm3, hoh⟩
          have eend : halfway n ps (xsOf ps).length = without n ps := by
            unfold halfway
            rw [List.length_map, List.take_length, List.drop_length, List.append_nil]
          rw [eend] at hoh
          have fr4 : ∀ c o, H1 c = some o → c ≠ wa → c ≠ oa → H' c = some o := fun c o hc h1 h2 => fr3 _ _ (s3 _ _ (fr _ _ hc h1)) h2
          have t4 : TSame H1 H' := fun c xs hc => fr4 _ _ hc (ne_of hc ws1.w (by intro z; cases z)) (ne_of hc ws1.o (by intro z; cases z))
          have hsub : ∀ p ∈ without n ps, p ∈ ps := fun p hp => (List.mem_filter.mp hp).1
          have hwl : (without n ps).length ≤ ps.length := List.length_filter_le _ _
          walk_at "ts"
          refine Ts.q_iteD (fun _ => ?_) (fun z => absurd (by omega) z)
          walk_at "ts"
          refine Ts.q_blT (by omega) ?_
          refine q _ la' (without n ps) (.inr (Same.free s1 hla)) ⟨?_, ?_, hoh, no2, ?_, ?_, ?_, ?_, ws.f0, ws.f1⟩ ⟨fun c o hc h1 h2 h3 => fr4 _ _ (s1 _ _ hc) h1 h3, (tsame_of s1).trans t4, fun c hc => Same.free s1 (dm c (Same.free s3 (dm3 c hc)))⟩
          · exact fr3 _ _ (s3 _ _ hw2) no1
          · exact fr3 _ _ (s3 _ _ hl2) no2
          · exact lts_of_mem fun p hp => (lts_mem ws1.lt p (hsub p hp)).mono t4
          · intro M hM
            obtain ⟨p, hp', rfl⟩ := List.mem_map.mp hM
            exact ws.ok _ (List.mem_map.mpr ⟨p, hsub p hp', rfl⟩)
          · omega
          · refine Nat.le_trans (firsts_sub fun z hz => ?_) ws.clk
            obtain ⟨M, hM, rfl⟩ := List.mem_map.mp hz
            obtain ⟨p, hp', rfl⟩ := List.mem_map.mp hM
            exact List.mem_map.mpr ⟨_, List.mem_map.mpr ⟨p, hsub p hp', rfl⟩, rfl⟩
      · obtain rfl : cnt = 0 := by omega
        refine ⟨true, T.t_NoClock, fun _ a2 na => ?_, fun z => nomatch z⟩
        walk_at "ts"
        refine ⟨rfl, rfl, T.C_NoClock, 8, "clock", rfl, kd_NoClock T, rfl, fun H3 s3 => ?_⟩
        walk_at "ts"
        exact q _ la ps (.inl rfl) (ws1.stay (s2.trans s3)) (.of_same (s1.trans (s2.trans s3)))

end Law


namespace Law
open PySem PySem.Spec PyProof.Rows L2 Ts
variable {P : Program} {w : World} {K : PySem.W.Frag} {mg : Str → Option Value} {base : Heap}
local macro_rules | `(tactic| walk_at "ts call") => `(tactic| ((with_reducible apply c_l_cell_at); (focus walk_at "ts sq"); (focus omega); intro z ez))
local macro_rules | `(tactic| walk_at "ts call") => `(tactic| ((with_reducible apply c_l_mix); intro z ez z0 z1))
local macro_rules | `(tactic| walk_at "ts call") => `(tactic| ((with_reducible apply c_l_big); intro z H2 z0 z1 sz))
local macro_rules | `(tactic| walk_at "ts call") => `(tactic| ((with_reducible apply c_l_off); intro z H2 z0 z1 sz))
local macro_rules | `(tactic| walk_at "ts call") => `(tactic| with_reducible apply c_l_whole)
local macro_rules | `(tactic| walk_at "ts call") => `(tactic| ((with_reducible apply c_l_word); (focus omega); (focus omega); intro z hz lz))
local macro_rules | `(tactic| walk_at "ts call") => `(tactic| ((with_reducible apply c_l_names); intro b k p H2 lb lb2 s2 hp))
local macro_rules | `(tactic| walk_at "ts call") => `(tactic| ((with_reducible apply c_l_slack); (focus omega); (focus omega)))
local macro_rules | `(tactic| walk_at "ts call") => `(tactic| ((with_reducible apply c_slack); (focus omega); (focus omega)))
local macro_rules | `(tactic| walk_at "ts call") => `(tactic| ((with_reducible apply c_l_brought); (focus walk_at "ts hp"); (focus omega); (focus omega); intro b H2 s2 hb))
local macro_rules | `(tactic| walk_at "ts call") => `(tactic| ((with_reducible apply c_l_letter); (focus walk_at "ts sq"); (focus first | assumption | omega | (simp; omega)); (focus omega); intro L b H2 s2 hL nL okL))
local macro_rules | `(tactic| walk_at "ts call") => `(tactic| ((with_reducible apply c_l_gathered); (focus walk_at "ts hp"); (focus walk_at "ts ck"); (focus omega); (focus omega); (focus omega); (focus assumption); (focus assumption); intro ys p H2 s2 hfr hp hgc))
local macro_rules | `(tactic| walk_at "ts call") => `(tactic| ((with_reducible apply c_l_many); (focus walk_at "ts hp"); (focus walk_at "ts ck")))
local macro_rules | `(tactic| walk_at "ts call") => `(tactic| ((with_reducible apply c_l_lows); (focus walk_at "ts hp"); (focus walk_at "ts ck"); (focus omega); intro p H2 s2 hp))
local macro_rules | `(tactic| walk_at "ts call") => `(tactic| ((with_reducible apply c_l_edges); (focus walk_at "ts hp"); (focus walk_at "ts ck"); (focus omega); intro ns p H2 s2 hp hnl))
local macro_rules | `(tactic| walk_at "ts call") => `(tactic| ((with_reducible apply q_fld); (with_reducible apply Ts.q_var); (focus rfl); (with_reducible apply q_letters ‹Lw _ _›); (focus walk_at "ts hp")))
local macro_rules | `(tactic| walk_at "ts call") => `(tactic| ((with_reducible apply q_fld); (with_reducible apply Ts.q_var); (focus rfl); (with_reducible apply q_offF ‹Lw _ _›); (focus walk_at "ts hp")))

/-! ### what is sure asked of a watch -/
/-- what was told, and its copy -/
structure HI where
  p : Addr
  q : Addr
  pw : Addr
  ps : Addr
  pw2 : Addr
  ps2 : Addr
  lo : Int
  hi : Int
  zs : List Str
  ys : List V
  ss : List (Int × Int)
abbrev HI.lists (x : HI) : List Addr := [x.pw, x.ps, x.pw2, x.ps2]
structure HdAt (H : Hp) (v : V) (x : HI) : Prop where
  t : ∃ t, v = .ref t ∧ H t = some (.tup [.ref x.p, .ref x.q])
  p : H x.p = some (.tup [.int x.lo, .int x.hi, .ref x.pw, .ref x.ps])
  q : H x.q = some (.tup [.int x.lo, .int x.hi, .ref x.pw2, .ref x.ps2])
  pw : H x.pw = some (.lst (x.zs.map V.str))
  ps : H x.ps = some (.lst x.ys)
  pw2 : H x.pw2 = some (.lst (x.zs.map V.str))
  ps2 : H x.ps2 = some (.lst x.ys)
  pr : Prs H x.ys x.ss
  ok : ∀ z ∈ x.zs, PyData.strOk z = true
theorem HdAt.mono {H H' : Hp} {v : V} {x : HI} (h : HdAt H v x) (t : TSame H H') (l : ∀ a ∈ x.lists, H' a = H a) : HdAt H' v x where
  t := by
    obtain ⟨a, e1, e2⟩ := h.t
    exact ⟨a, e1, t _ _ e2⟩
  p := t _ _ h.p
  q := t _ _ h.q
  pw := (l _ (by simp)).trans h.pw
  ps := (l _ (by simp)).trans h.ps
  pw2 := (l _ (by simp)).trans h.pw2
  ps2 := (l _ (by simp)).trans h.ps2
  pr := h.pr.mono t
  ok := h.ok
theorem HdAt.same {H H' : Hp} {v : V} {x : HI} (h : HdAt H v x) (s : Same H H') : HdAt H' v x := h.mono (tsame_of s) fun a ha => by
  simp only [List.mem_cons, List.not_mem_nil, or_false] at ha
  rcases ha with rfl | rfl | rfl | rfl
  · rw [h.pw, s _ _ h.pw]
  · rw [h.ps, s _ _ h.ps]
  · rw [h.pw2, s _ _ h.pw2]
  · rw [h.ps2, s _ _ h.ps2]
/-- the word of what is asked -/
def Word2 (ls : List Ltr) (n f : Int) (bd : Option Int) (z : Str) : Prop := ((∀ L ∈ ls, L.back ≤ n) ∧ DueW (gathL (stOf n f) ls) bd z) ∨ ((∃ L ∈ ls, n < L.back) ∧ z = "early")
theorem word2_refu {ls : List Ltr} {n f : Int} {bd : Option Int} {w z : Str} (f0 : 0 ≤ f) (f1 : f ≤ 999) (h : Word2 ls n f bd w) (r : Refu ls n f bd z) : z = w ∧ w ≠ "" := by
  rcases h with ⟨a, d⟩ | ⟨⟨L, hL, a⟩, e⟩
  · rcases r with ⟨b, _⟩ | ⟨_, _, ⟨L, hL, c⟩, _⟩ | ⟨_, _, _, d2, e2⟩
    · exact absurd ⟨f0, f1⟩ b
    · exfalso; have := a L hL; omega
    · have := due_one d2 d
      exact ⟨this, this ▸ e2⟩
  · rcases r with ⟨b, _⟩ | ⟨_, _, _, e2⟩ | ⟨_, _, c, _⟩
    · exact absurd ⟨f0, f1⟩ b
    · exact ⟨e2.trans e.symm, by rw [e]; decide +kernel⟩
    · exfalso; have := c L hL; omega
theorem word2_ok {ls : List Ltr} {n f lo hi : Int} {bd : Option Int} {w : Str} {H : Hp} {p pw ps : Addr} {ys : List V} {found : List (Int × Int)} (h : Word2 ls n f bd w) (hb : ∀ L ∈ ls, L.back ≤ n)
    (b0 : 0 ≤ badOf bd (gathL (stOf n f) ls).length) (b1 : badOf bd (gathL (stOf n f) ls).length < (gathL (stOf n f) ls).length) (sk : SureOk (gathL (stOf n f) ls) ((gathL (stOf n f) ls).length - badOf bd (gathL (stOf n f) ls).length) H p pw ps ys found lo hi) : w = "" := by
  rcases h with ⟨a, d⟩ | ⟨⟨L, hL, a⟩, _⟩
  · refine due_one d (.inr (.inr (.inr ⟨gath_ne b0 b1, b0, b1, ?_, rfl⟩)))
    obtain ⟨pk, ⟨x, r, e, _⟩, _⟩ := sk
    obtain ⟨y1, _, _, y4⟩ := pk.each x (by rw [e]; exact List.mem_cons_self)
    exact ⟨x.1, y4 _ (Int.le_refl _) y1⟩
  · exfalso; have := hb L hL; omega
theorem ask_core (T : Lw K mg) {H : Hp} {wa dx oa la : Addr} {f n : Int} {ps : List LV} {bd : Option Int} {w : Str} {Q : VK} {E : XK} (ws : WS T H wa dx oa la f ps) (hw : Word2 (lsOf ps) n f bd w)
    (q : w = "" → (∀ L ∈ lsOf ps, L.back ≤ n) → 0 ≤ badOf bd (gathL (stOf n f) (lsOf ps)).length → badOf bd (gathL (stOf n f) (lsOf ps)).length < (gathL (stOf n f) (lsOf ps)).length →
      ∀ p pw pq ys found lo hi H', Same H H' → H pw = none → H pq = none → pw ≠ pq → SureOk (gathL (stOf n f) (lsOf ps)) ((gathL (stOf n f) (lsOf ps)).length - badOf bd (gathL (stOf n f) (lsOf ps)).length) H' p pw pq ys found lo hi → Q (.ref p) H')
    (e : ∀ C j H', KindE T C j → kindWords[j]? = some (.str w) → PySem.W.exmOne K (.ref C) (.ref T.C_StretchError) = some true → w ≠ "" → Same H H' → E (.ref C) none H') :
    sp_w_told T.C_BadOff T.C_TooEarly T.C_NoAgreement T.C_BadCount T.C_Watch [.ref wa, .int n, oVi bd] H Q E := by
  refine ⟨wa, dx, la, f, n, bd, rfl, ws.w, told_core (bd := bd) T ws.l ws.lt (by rw [List.length_map]; have := ws.few; omega) ws.low (fun f0 f1 hb b0 b1 p pw pq ys found lo hi H1 s1 n1 n2 n3 sk => ?_) (fun C j z H1 kd hz tx hrf s1 => ?_)⟩
  · exact q (word2_ok hw hb b0 b1 sk) hb b0 b1 p pw pq ys found lo hi H1 s1 n1 n2 n3 sk
  · obtain ⟨rfl, hne⟩ := word2_refu ws.f0 ws.f1 hw hrf
    exact e C j H1 kd hz tx hne s1
theorem q_eqNilL {p r : Addr} {xs : List V} {ls : List Ltr} {H : Hp} {Q : VK} (h1 : H p = some (.lst xs)) (h2 : H r = some (.lst [])) (hp : Lts H xs ls) (hok : ∀ L ∈ ls, PyData.strOk L.name = true) (q0 : ls = [] → Q (.bl true) H) (q1 : ls ≠ [] → Q (.bl false) H) : rEqD K (.ref p) (.ref r) H Q := by
  refine ⟨.list (ls.map dLt), .list [], dp_lst (fun _ _ h => dp_lt h) h1 hp, .lst (sqL_of h2) .nil, shaped_list ls fun L hL => ok_dLt L (hok L hL), rfl, ?_⟩
  cases ls with
  | nil => exact q0 rfl
  | cons a r => exact q1 (by simp)
theorem q_isB {bd : Option Int} {H : Hp} {Q : VK} (q : Q (.bl bd.isNone) H) : rIsN (oVi bd) .non H Q := by
  cases bd with
  | none => exact ⟨rfl, q⟩
  | some b => exact ⟨rfl, q⟩
theorem q_joinIf {tt : TT} {ta tb : TE} {σ : L2.St} {H : Hp} {Q : VK} (P : V → Hp → Prop) (h1 : ∀ v H', P v H' → Q v H') (h2 : ∀ Q' : VK, (∀ v H', P v H' → Q' v H') → tIf tt ta tb σ H Q') : tIf tt ta tb σ H Q := h2 Q h1
def sp_l_ask (T : Lw K mg) : Sp := fun vs H Q _ => ∃ (wa dx oa la ha : Addr) (f c : Int) (ps : List LV) (hs : List V), vs = [.ref wa, .ref oa, .int f, .int c, .ref ha] ∧ WS T H wa dx oa la f ps ∧ H ha = some (.lst hs) ∧ hs.length ≤ 1000 ∧ ha ≠ la ∧ ha ≠ oa ∧
  ∀ H' (add : List (V × HI)), add.length ≤ 1 → WS T H' wa dx oa la f ps → H' ha = some (.lst (hs ++ add.map Prod.fst)) → (∀ p ∈ add, HdAt H' p.1 p.2 ∧ ∀ a ∈ p.2.lists, H a = none) → (∀ b o, H b = some o → b ≠ ha → H' b = some o) → (∀ b, H' b = none → H b = none) → Q (.bl true) H'
theorem c_l_ask {T : Lw K mg} {wa dx oa la ha : Addr} {f c : Int} {ps : List LV} {hs : List V} {H : Hp} {Q : VK} {E : XK} (ws : WS T H wa dx oa la f ps) (h : H ha = some (.lst hs)) (hl : hs.length ≤ 1000) (n1 : ha ≠ la) (n2 : ha ≠ oa)
    (q : ∀ H' (add : List (V × HI)), add.length ≤ 1 → WS T H' wa dx oa la f ps → H' ha = some (.lst (hs ++ add.map Prod.fst)) → (∀ p ∈ add, HdAt H' p.1 p.2 ∧ ∀ a ∈ p.2.lists, H a = none) → (∀ b o, H b = some o → b ≠ ha → H' b = some o) → (∀ b, H' b = none → H b = none) → Q (.bl true) H') : sp_l_ask T ([.ref wa, .ref oa, .int f, .int c, .ref ha] ++ []) H Q E := ⟨wa, dx, oa, la, ha, f, c, ps, hs, rfl, ws, h, hl, n1, n2, q⟩
theorem ok_l_ask (T : Lw K mg) : FnOk P w K mg base CX0 6 T.f_l_ask T.fd_l_ask ["_law_watch", "_law_own", "_law_off_here", "_law_cell", "_law_held"] (sp_l_ask T) := by
  refine T.d_l_ask.F.ok sc_l_ask (fun vs H Q E h => ?_) (fun cdv A outer s H vs Q E hr h => ?_)
  · obtain ⟨wa, dx, oa, la, ha, f, c, ps, hs, rfl, _⟩ := h
    rfl
  · obtain ⟨wa, dx, oa, la, ha, f, c, ps, hs, rfl, ws, hha, hhl, n1, n2, q⟩ := h
    have h200 := ws.few
    have stay : ∀ H', Same H H' → Q (.bl true) H' := fun H' s' => q H' [] (by simp) (ws.stay s') (by rw [List.map_nil, List.append_nil]; exact s' _ _ hha) (fun p hp => by cases hp) (fun b o hb _ => s' _ _ hb) (fun b hb => Same.free s' hb)
    refine ⟨_, (pss_cons (ps_asg (pe_callB (Ts.cr_maxK K rfl) (by rfl) T.n_max (by decide +kernel) (pa_cons (pe_op op_cat (pe_lst (pa_cons pe_int pa_nil)) (pe_lc (own := [("_law_one", 10)]) rfl sc_l_ask.nd (Ts.pi_listK K (pv 1)) (blkOk_by (own := [("_law_one", 10)]) (N := N_l_ask) (sc := defScope s_l_ask) (by decide +kernel)) (fun _ _ _ _ _ => pg_name (i := 10) sc_l_ask.nd rfl (Or.inl rfl)) (fun _ _ _ _ _ => pts_nil) (fun _ _ _ _ _ => (pe_ix (Ts.ix_tupK K) (pv 10) pe_int (fun _ _ => rfl))))) pa_nil)) (pg_name (i := 5) sc_l_ask.nd rfl (by first | exact Or.inl rfl | exact Or.inr rfl))) (pss_cons (ps_asg (pe_op op_add (pv 5) (pe_ix (Ts.ix_listK K) (pe_lst (pa_cons pe_int (pa_cons (pe_op op_mod (pe_call ((ok_l_mix T).mono (by decide)) hr rfl T.m_l_mix T.d_l_mix.F.kp T.d_l_mix.b .nil pass0 (pa_cons (pv 3) (pa_cons pe_int pa_nil))) pe_int) (pa_cons pe_int (pa_cons (pe_un un_neg pe_int) pa_nil))))) (pe_op op_mod (pe_call ((ok_l_mix T).mono (by decide)) hr rfl T.m_l_mix T.d_l_mix.F.kp T.d_l_mix.b .nil pass0 (pa_cons (pv 3) (pa_cons pe_int pa_nil))) pe_int) (fun _ _ => rfl))) (pg_name (i := 5) sc_l_ask.nd rfl (by first | exact Or.inl rfl | exact Or.inr rfl))) (pss_cons (ps_asg (pe_ix (Ts.ix_listK K) (pe_lst (pa_cons pe_non (pa_cons (pe_op op_mod (pe_call ((ok_l_mix T).mono (by decide)) hr rfl T.m_l_mix T.d_l_mix.F.kp T.d_l_mix.b .nil pass0 (pa_cons (pv 3) (pa_cons pe_int pa_nil))) pe_int) (pa_cons (pe_op op_mod (pe_call ((ok_l_mix T).mono (by decide)) hr rfl T.m_l_mix T.d_l_mix.F.kp T.d_l_mix.b .nil pass0 (pa_cons (pv 3) (pa_cons pe_int pa_nil))) pe_int) (pa_cons (pe_un un_neg pe_int) pa_nil))))) (pe_op op_mod (pe_call ((ok_l_mix T).mono (by decide)) hr rfl T.m_l_mix T.d_l_mix.F.kp T.d_l_mix.b .nil pass0 (pa_cons (pv 3) (pa_cons pe_int pa_nil))) pe_int) (fun _ _ => rfl)) (pg_name (i := 6) sc_l_ask.nd rfl (by first | exact Or.inl rfl | exact Or.inr rfl))) (pss_cons (ps_asg (pe_ifExp (pt_cmpR (Ts.op_eqK K hr.units) (pe_lc (own := [("_law_one", 10)]) rfl sc_l_ask.nd (Ts.pi_listK K (pv 1)) (blkOk_by (own := [("_law_one", 10)]) (N := N_l_ask) (sc := defScope s_l_ask) (by decide +kernel)) (fun _ _ _ _ _ => pg_name (i := 10) sc_l_ask.nd rfl (Or.inl rfl)) (fun _ _ _ _ _ => pts_one (pt_cmpR op_gt (pe_ix (Ts.ix_tupK K) (pv 10) pe_int (fun _ _ => rfl)) (pv 5) (nomark _))) (fun _ _ _ _ _ => (pv 10))) (pe_lst pa_nil) (nomark _)) (pe_call ((ok_l_due T).mono (by decide)) hr rfl T.m_l_due T.d_l_due.F.kp T.d_l_due.b .nil pass0 (pa_cons (pv 1) (pa_cons (pv 5) (pa_cons (pv 2) (pa_cons (pv 6) pa_nil))))) pe_str) (pg_name (i := 7) sc_l_ask.nd rfl (by first | exact Or.inl rfl | exact Or.inr rfl))) (pss_cons (ps_try_as (i := 9) rfl rfl sc_l_ask.nd rfl rfl ⟨rfl, by decide, .inl T.m_StretchError⟩ takes0 (fun W pn xe tk _ => (pss_one (ps_if (PW.pt (pw_and (pt_cmpR op_isN1 (pv 6) pe_non (nomark _)) (pw_and1 (pt_cmpR op_gt (pe_op op_mod (pv 3) pe_int) pe_int (nomark _))))) (pss_one (ps_asg (Ts.pe_methSD (pv 0) T.k_Watch.cls T.w_Watch_told ((ok_Watch_told T).mono (by decide)) hr T.d_Watch_told.bd.choose_spec.2 T.d_Watch_told.bd.choose_spec.1 (fun z => passAt tk z) (pa_cons (pv 5) pa_nil)) (pg_name (i := 8) sc_l_ask.nd rfl (by first | exact Or.inl rfl | exact Or.inr rfl)))) (pss_one (ps_if (pt_cmpR op_eq (pe_op op_mod (pv 3) pe_int) pe_int (nomark _)) (pss_one (ps_asg (Ts.pe_methSK (pv 0) T.k_Watch.cls T.w_Watch_told ((ok_Watch_told T).mono (by decide)) hr T.kb_Watch_told (fun z => passAt tk z) (pa_cons (pv 5) pa_nil) (pk_cons (pv 6) pk_nil)) (pg_name (i := 8) sc_l_ask.nd rfl (by first | exact Or.inl rfl | exact Or.inr rfl)))) (pss_one (ps_asg (Ts.pe_methSD (pv 0) T.k_Watch.cls T.w_Watch_told ((ok_Watch_told T).mono (by decide)) hr T.d_Watch_told.b .nil (fun z => passAt tk z) (pa_cons (pv 5) (pa_cons (pv 6) pa_nil))) (pg_name (i := 8) sc_l_ask.nd rfl (by first | exact Or.inl rfl | exact Or.inr rfl))))))))) (fun a oe cls d pn hz hf => (pss_one (ps_ret (pe_and (pe_cmpR op_ne (pv 7) pe_str (nomark _)) (pe_one (pe_cmpR op_eq (pe_callE (ok_l_kind T) ⟨(hr.mono (j := 1) (by decide)).dp, (hr.mono (j := 1) (by decide)).un⟩ List.mem_cons_self hz hf rfl T.m_l_kind T.d_l_kind.F.kp T.d_l_kind.b (pv 9)) (pv 7) (nomark _)))))))) (pss_cons (ps_if (PW.pt (pw_or (pt_cmpR op_ne (pv 7) pe_str (nomark _)) (pw_or1 (pt_not (pt_val (pe_call ((ok_l_sure_right T).mono (by decide)) hr rfl T.m_l_sure_right T.d_l_sure_right.F.kp T.d_l_sure_right.b .nil pass0 (pa_cons (pv 1) (pa_cons (pv 5) (pa_cons (pv 2) (pa_cons (pv 6) (pa_cons (pv 8) pa_nil))))))))))) (pss_one (ps_ret pe_bl)) pss_nil) (pss_cons (ps_expr (pe_bm PySem.F.plainAttrs_list PySem.F.slot_list_append PySem.F.type_list_append mt_append (pv 4) (pa_cons (pe_tup (pa_cons (pv 8) (pa_cons (pe_tup (pa_cons (pe_ix (Ts.ix_tupK K) (pv 8) pe_int (fun _ _ => rfl)) (pa_cons (pe_ix (Ts.ix_tupK K) (pv 8) pe_int (fun _ _ => rfl)) (pa_cons (pe_callTy (Ts.call_listK K) (by rfl) T.n_list (by decide +kernel) (pa_cons (pe_ix (Ts.ix_tupK K) (pv 8) pe_int (fun _ _ => rfl)) pa_nil)) (pa_cons (pe_callTy (Ts.call_listK K) (by rfl) T.n_list (by decide +kernel) (pa_cons (pe_ix (Ts.ix_tupK K) (pv 8) pe_int (fun _ _ => rfl)) pa_nil)) pa_nil))))) pa_nil))) pa_nil))) (pss_one (ps_ret pe_bl))))))))), ?_⟩
    walk_at "ts"
    rename_i p0 hp0 H0 s0 e0
    have ws0 := ws.stay s0
    have ho0 := ws0.o
    refine Ts.q_lcL (sqL_of ho0) (by rw [List.length_map]; omega) (fun _ => true) (fun i _ v => ∃ b, (ps.map fun p => p.1.back)[i]? = some b ∧ v = .int b) (fun _ _ _ _ _ h => h) ?_ ?_
    · intro i x H1 QB QV hx s1 qb qv
      obtain ⟨M, hp, _⟩ := lv_at hx
      obtain ⟨b, rfl, hb⟩ := lv_lt (ws0.lt.mono (tsame_of s1)) hp
      walk_at "ts"
      refine ⟨rfl, ?_⟩
      walk_at "ts"
      exact qv _ _ rfl (Same.refl _) ⟨M.back, by rw [List.getElem?_map, hp]; rfl, rfl⟩
    · intro zs pz H1 s1 hfz hpz pr
      rw [filt_all, List.length_map] at pr
      have pr2 := Ts.paired_range (R := fun v (z : Int) => v = .int z) (l := ps.map fun p => p.1.back) (by rw [List.length_map]; exact pr)
      obtain rfl : zs = (ps.map fun p => p.1.back).map V.int := Ts.paired_eq (f := V.int) (flip_ pr2)
      have e1 := s1 _ _ e0
      walk_at "ts"
      refine Ts.q_cat e1 hpz (Ts.size_of (by simp; omega)) fun pm H2 s2 e2 => ?_
      walk_at "ts"
      have e2' : H2 pm = some (.lst (((0 : Int) :: ps.map fun p => p.1.back).map V.int)) := e2
      refine ⟨pm, _, rfl, sqL_of e2', by simp, fun mx _ _ => ?_⟩
      have ws2 := ws0.stay (s1.trans s2)
      have s02 := (s0.trans s1).trans s2
      clear pr pr2 hpz e1 e2 e2' hfz e0 s0 s1 s2 ws0 ho0
      walk_at "ts"
      refine Ts.q_ixAny (by walk_at "ts sq") (by omega) (by simp; omega) fun v hv => ?_
      obtain ⟨d, rfl⟩ : ∃ d : Int, v = .int d := by
        simp at hv
        rcases hv with rfl | rfl | rfl | rfl <;> exact ⟨_, rfl⟩
      clear hv
      walk_at "ts"
      refine Ts.q_ixAny (by walk_at "ts sq") (by omega) (by simp; omega) fun v hv => ?_
      obtain ⟨bd, rfl⟩ : ∃ bd, v = oVi bd := by
        simp at hv
        rcases hv with rfl | rfl | rfl | rfl
        · exact ⟨none, rfl⟩
        · exact ⟨some _, rfl⟩
        · exact ⟨some _, rfl⟩
        · exact ⟨some _, rfl⟩
      clear hv
      generalize mx + d = n at *
      rename_i H3 sm3 _ _ _ _ _ _ _ _ _ _ _ _ _ _ _ H4 sm4 _ _ _ _ _
      have ws4 := ws2.stay (sm3.trans sm4)
      have s04 := (s02.trans sm3).trans sm4
      clear ws2 s02 sm3 sm4
      have hokN : ∀ L ∈ lsOf ps, PyData.strOk L.name = true := fun L hL => (ws.ok L hL).1.2.2.ok
      refine Ts.q_seq ?_
      refine Ts.q_set ?_
      refine q_joinIf (fun v H' => ∃ wd, v = .str wd ∧ Same H4 H' ∧ Word2 (lsOf ps) n f bd wd) ?_ ?_
      rotate_left
      · intro Q' hQ
        walk_at "ts"
        refine Ts.q_lcL (sqL_of ws4.o) (by rw [List.length_map]; omega) (fun i => (ps[i]?).elim false fun p => decide (n < p.1.back)) (fun i _ v => ∃ p, ps[i]? = some p ∧ v = p.2) (fun _ _ _ _ _ h => h) ?_ ?_
        · intro i x H5 QB QV hx s5 qb qv
          obtain ⟨L, hp, _⟩ := lv_at hx
          obtain ⟨b, rfl, hb⟩ := lv_lt (ws4.lt.mono (tsame_of s5)) hp
          rw [hp] at qb qv
          walk_at "ts"
          refine ⟨rfl, ?_⟩
          walk_at "ts"
          refine Ts.q_iteD (fun h => ?_) (fun h => ?_)
          · walk_at "ts"
            exact qv _ _ (decide_eq_true h) (Same.refl _) ⟨_, rfl, rfl⟩
          · exact qb (decide_eq_false h) _ (Same.refl _)
        · intro zs pz H5 s5 hfz hpz pr
          rw [List.length_map] at pr
          have pr2 := Ts.paired_filter (R := fun (p : LV) v => v = p.2) ps (fun p => decide (n < p.1.back)) ps.length (Nat.le_refl _) zs pr
          rw [List.take_length] at pr2
          obtain rfl : zs = xsOf (ps.filter fun p => decide (n < p.1.back)) := Ts.paired_eq pr2
          have ws5 := ws4.stay s5
          have hsub : ∀ p ∈ ps.filter (fun p => decide (n < p.1.back)), p ∈ ps := fun p hp => (List.mem_filter.mp hp).1
          walk_at "ts"
          rename_i p6 hp6 H6 s6 e6
          have ws6 := ws5.stay s6
          refine q_eqNilL (s6 _ _ hpz) e6 (lts_of_mem fun p hp => lts_mem ws6.lt p (hsub p hp)) (fun L hL => ?_) (fun h0 => ?_) (fun h0 => ?_)
          · obtain ⟨p, hp, rfl⟩ := List.mem_map.mp hL
            exact hokN _ (List.mem_map.mpr ⟨p, hsub p hp, rfl⟩)
          · have hb : ∀ L ∈ lsOf ps, L.back ≤ n := fun L hL => by
              obtain ⟨p, hp, rfl⟩ := List.mem_map.mp hL
              by_cases hlt : n < p.1.back
              · have hm : p ∈ ps.filter fun p => decide (n < p.1.back) := List.mem_filter.mpr ⟨hp, decide_eq_true hlt⟩
                rw [List.map_eq_nil_iff.mp h0] at hm
                cases hm
              · omega
            walk_at "ts"
            refine c_l_due ws6.o ws6.lt (by rw [List.length_map]; omega) ws.f0 ws.f1 ws.low hb fun w H7 s7 hw => ?_
            exact hQ _ _ ⟨w, rfl, (s5.trans s6).trans s7, .inl ⟨hb, hw⟩⟩
          · walk_at "ts"
            obtain ⟨L, hL⟩ := List.exists_mem_of_ne_nil _ h0
            obtain ⟨p, hp, rfl⟩ := List.mem_map.mp hL
            exact hQ _ _ ⟨"early", rfl, s5.trans s6, .inr ⟨⟨_, List.mem_map.mpr ⟨p, hsub p hp, rfl⟩, of_decide_eq_true (List.mem_filter.mp hp).2⟩, rfl⟩⟩
      rintro v H5 ⟨wd, rfl, s5, hwd⟩
      have ws5 := ws4.stay s5
      have s05 := s04.trans s5
      clear ws4 s04 s5
      walk_at "ts toif"
      refine Ts.q_joinS (fun σ' H' => ∃ (p pw pq : Addr) (ys : List V) (found : List (Int × Int)) (lo hi : Int), σ' = [some (.ref wa), some (.ref oa), some (.int f), some (.int c), some (.ref ha), some (.int n), some (oVi bd), some (.str wd), some (.ref p), none, none] ∧ Same H5 H' ∧ H5 pw = none ∧ H5 pq = none ∧ pw ≠ pq ∧ wd = "" ∧ (∀ L ∈ lsOf ps, L.back ≤ n) ∧ 0 ≤ badOf bd (gathL (stOf n f) (lsOf ps)).length ∧ badOf bd (gathL (stOf n f) (lsOf ps)).length < (gathL (stOf n f) (lsOf ps)).length ∧
        SureOk (gathL (stOf n f) (lsOf ps)) ((gathL (stOf n f) (lsOf ps)).length - badOf bd (gathL (stOf n f) (lsOf ps)).length) H' p pw pq ys found lo hi) ?_ ?_
      rotate_left
      · intro nx' hnx
        walk_at "ts"
        refine q_isB ?_
        walk_at "ts"
        cases bd with
        | none =>
          refine Ts.q_iteB (fun _ => ?_) (fun z => by cases z)
          walk_at "ts"
          refine Ts.q_iteD (fun h1 => ?_) (fun h1 => ?_)
          · walk_at "ts"
            refine q_methS ?_
            walk_at "ts"
            refine ⟨wa, dx, _, rfl, ws5.w, rfl, ?_⟩
            walk_at "ts"
            refine ask_core (bd := none) T ws5 hwd (fun h0 hb b0 b1 p pw pq ys found lo hi H6 s6 m1 m2 m3 sk => ?_) (fun C j H6 kd hz tx hne s6 => ?_)
            · exact hnx _ _ ⟨p, pw, pq, ys, found, lo, hi, rfl, s6, m1, m2, m3, h0, hb, b0, b1, sk⟩
            · refine ⟨true, tx, fun _ a2 na => ?_, fun z => nomatch z⟩
              walk_at "ts"
              refine Ts.q_iteN (fun _ => ?_) (fun z => absurd z hne)
              walk_at "ts"
              refine ⟨rfl, rfl, C, j, wd, rfl, kd, hz, fun H7 s7 => ?_⟩
              walk_at "ts"
              refine Ts.q_blT rfl ?_
              exact stay _ ((s05.trans s6).trans s7)
          · walk_at "ts"
            refine Ts.q_iteD (fun h2 => ?_) (fun h2 => ?_)
            · walk_at "ts"
              refine q_methK ?_
              walk_at "ts"
              refine ⟨wa, dx, _, rfl, ws5.w, rfl, ?_⟩
              walk_at "ts"
              refine ⟨rfl, rfl, ?_⟩
              refine ask_core (bd := none) T ws5 hwd (fun h0 hb b0 b1 p pw pq ys found lo hi H6 s6 m1 m2 m3 sk => ?_) (fun C j H6 kd hz tx hne s6 => ?_)
              · exact hnx _ _ ⟨p, pw, pq, ys, found, lo, hi, rfl, s6, m1, m2, m3, h0, hb, b0, b1, sk⟩
              · refine ⟨true, tx, fun _ a2 na => ?_, fun z => nomatch z⟩
                walk_at "ts"
                refine Ts.q_iteN (fun _ => ?_) (fun z => absurd z hne)
                walk_at "ts"
                refine ⟨rfl, rfl, C, j, wd, rfl, kd, hz, fun H7 s7 => ?_⟩
                walk_at "ts"
                refine Ts.q_blT rfl ?_
                exact stay _ ((s05.trans s6).trans s7)
            · walk_at "ts"
              refine q_methS ?_
              walk_at "ts"
              refine ⟨wa, dx, _, rfl, ws5.w, rfl, ?_⟩
              walk_at "ts"
              refine ask_core (bd := none) T ws5 hwd (fun h0 hb b0 b1 p pw pq ys found lo hi H6 s6 m1 m2 m3 sk => ?_) (fun C j H6 kd hz tx hne s6 => ?_)
              · exact hnx _ _ ⟨p, pw, pq, ys, found, lo, hi, rfl, s6, m1, m2, m3, h0, hb, b0, b1, sk⟩
              · refine ⟨true, tx, fun _ a2 na => ?_, fun z => nomatch z⟩
                walk_at "ts"
                refine Ts.q_iteN (fun _ => ?_) (fun z => absurd z hne)
                walk_at "ts"
                refine ⟨rfl, rfl, C, j, wd, rfl, kd, hz, fun H7 s7 => ?_⟩
                walk_at "ts"
                refine Ts.q_blT rfl ?_
                exact stay _ ((s05.trans s6).trans s7)
        | some b =>
          refine Ts.q_iteB (fun z => by cases z) (fun _ => ?_)
          walk_at "ts"
          refine Ts.q_iteD (fun h2 => ?_) (fun h2 => ?_)
          · walk_at "ts"
            refine q_methK ?_
            walk_at "ts"
            refine ⟨wa, dx, _, rfl, ws5.w, rfl, ?_⟩
            walk_at "ts"
            refine ⟨rfl, rfl, ?_⟩
            refine ask_core (bd := some b) T ws5 hwd (fun h0 hb b0 b1 p pw pq ys found lo hi H6 s6 m1 m2 m3 sk => ?_) (fun C j H6 kd hz tx hne s6 => ?_)
            · exact hnx _ _ ⟨p, pw, pq, ys, found, lo, hi, rfl, s6, m1, m2, m3, h0, hb, b0, b1, sk⟩
            · refine ⟨true, tx, fun _ a2 na => ?_, fun z => nomatch z⟩
              walk_at "ts"
              refine Ts.q_iteN (fun _ => ?_) (fun z => absurd z hne)
              walk_at "ts"
              refine ⟨rfl, rfl, C, j, wd, rfl, kd, hz, fun H7 s7 => ?_⟩
              walk_at "ts"
              refine Ts.q_blT rfl ?_
              exact stay _ ((s05.trans s6).trans s7)
          · walk_at "ts"
            refine q_methS ?_
            walk_at "ts"
            refine ⟨wa, dx, _, rfl, ws5.w, rfl, ?_⟩
            walk_at "ts"
            refine ask_core (bd := some b) T ws5 hwd (fun h0 hb b0 b1 p pw pq ys found lo hi H6 s6 m1 m2 m3 sk => ?_) (fun C j H6 kd hz tx hne s6 => ?_)
            · exact hnx _ _ ⟨p, pw, pq, ys, found, lo, hi, rfl, s6, m1, m2, m3, h0, hb, b0, b1, sk⟩
            · refine ⟨true, tx, fun _ a2 na => ?_, fun z => nomatch z⟩
              walk_at "ts"
              refine Ts.q_iteN (fun _ => ?_) (fun z => absurd z hne)
              walk_at "ts"
              refine ⟨rfl, rfl, C, j, wd, rfl, kd, hz, fun H7 s7 => ?_⟩
              walk_at "ts"
              refine Ts.q_blT rfl ?_
              exact stay _ ((s05.trans s6).trans s7)
      rintro σ' H6 ⟨p, pw, pq, ys, found, lo, hi, rfl, s6, m1, m2, m3, rfl, hb, b0, b1, sk⟩
      have ws6 := ws5.stay s6
      have hp6 : H6 p = some (.tup [.int lo, .int hi, .ref pw, .ref pq]) := sk.2.2.2.1
      walk_at "ts"
      refine c_l_sure_right ws6.o ws6.lt (by rw [List.length_map]; omega) ws.f0 ws.f1 ws.low hb b0 b1 sk fun H7 s7 => ?_
      obtain ⟨_, _, _, _, hw6, hq6, hpr, _⟩ := sk
      have hcok := cksOk_of ws.low hb ws.f0
      have hzs : ∀ z ∈ ((gathL (stOf n f) (lsOf ps)).filter fun c => !meetsB c.2 found).map Prod.fst, PyData.strOk z = true := fun z hz => by
        obtain ⟨k, hk, rfl⟩ := List.mem_map.mp hz
        exact (hcok k (List.mem_filter.mp hk).1).1
      generalize hZ : ((gathL (stOf n f) (lsOf ps)).filter fun c => !meetsB c.2 found).map Prod.fst = zs at *
      have s07 := (s05.trans s6).trans s7
      have hha7 := s07 _ _ hha
      have hp7 := s7 _ _ hp6
      have hw7 := s7 _ _ hw6
      have hq7 := s7 _ _ hq6
      walk_at "ts"
      refine q_listOfF (sqL_of hw7) fun pw2 H8 s8 f8 e8 => ?_
      walk_at "ts"
      refine q_listOfF (sqL_of (s8 _ _ hq7)) fun pq2 H9 s9 f9 e9 => ?_
      walk_at "ts"
      rename_i pc hpc H10 s10 e10 pt hpt H11 s11 e11
      have s0 := (((s07.trans s8).trans s9).trans s10).trans s11
      have t12 : TSame H11 (upd H11 ha (.lst (hs ++ [.ref pt]))) := tsame_lst (s0 _ _ hha)
      refine Ts.q_append (s0 _ _ hha) (by omega) ?_
      walk_at "ts"
      have known : ∀ a, H a = none → a ≠ ha := fun a h1 h2 => by
        rw [h2, hha] at h1
        cases h1
      have k1 : H pw = none := Same.free s05 m1
      have k2 : H pq = none := Same.free s05 m2
      have k3 : H pw2 = none := Same.free s07 f8
      have k4 : H pq2 = none := Same.free (s07.trans s8) f9
      refine q _ [(.ref pt, ⟨p, pc, pw, pq, pw2, pq2, lo, hi, zs, ys, found⟩)] (by simp) ?_ upd_same (fun y hy => ?_) (fun b o hb' hne => by rw [upd_ne hne]; exact s0 _ _ hb') (fun b hb' => ?_)
      · have w11 := ws.stay s0
        refine ⟨?_, ?_, ?_, w11.ne, w11.lt.mono t12, w11.ok, w11.few, w11.clk, w11.f0, w11.f1⟩
        · rw [upd_ne (ne_of w11.w (s0 _ _ hha) (by intro z; cases z))]
          exact w11.w
        · rw [upd_ne n1.symm]
          exact w11.l
        · rw [upd_ne n2.symm]
          exact w11.o
      · rw [List.mem_singleton] at hy
        subst hy
        refine ⟨?_, fun a ha' => ?_⟩
        · have q1 := s10.trans s11
          have q2 := s9.trans q1
          have q3 := s8.trans q2
          have at_ : HdAt H11 (.ref pt) ⟨p, pc, pw, pq, pw2, pq2, lo, hi, zs, ys, found⟩ := ⟨⟨pt, rfl, e11⟩, q3 _ _ hp7, s11 _ _ e10, q3 _ _ hw7, q3 _ _ hq7, q2 _ _ e8, q1 _ _ e9, hpr.mono (tsame_of (s7.trans q3)), hzs⟩
          refine at_.mono t12 fun a ha' => ?_
          rw [upd_ne]
          simp only [List.mem_cons, List.not_mem_nil, or_false] at ha'
          rcases ha' with rfl | rfl | rfl | rfl
          · exact known _ k1
          · exact known _ k2
          · exact known _ k3
          · exact known _ k4
        · simp only [List.mem_cons, List.not_mem_nil, or_false] at ha'
          rcases ha' with rfl | rfl | rfl | rfl
          · exact k1
          · exact k2
          · exact k3
          · exact k4
      · by_cases hbh : b = ha
        · rw [hbh, upd_same] at hb'
          cases hb'
        · rw [upd_ne hbh] at hb'
          exact Same.free s0 hb'

end Law


namespace Law
open PySem PySem.Spec PyProof.Rows L2 Ts
variable {P : Program} {w : World} {K : PySem.W.Frag} {mg : Str → Option Value} {base : Heap}
local macro_rules | `(tactic| walk_at "ts call") => `(tactic| ((with_reducible apply c_l_cell_at); (focus walk_at "ts sq"); (focus omega); intro z ez))
local macro_rules | `(tactic| walk_at "ts call") => `(tactic| ((with_reducible apply c_l_mix); intro z ez z0 z1))
local macro_rules | `(tactic| walk_at "ts call") => `(tactic| ((with_reducible apply c_l_big); intro z H2 z0 z1 sz))
local macro_rules | `(tactic| walk_at "ts call") => `(tactic| ((with_reducible apply c_l_off); intro z H2 z0 z1 sz))
local macro_rules | `(tactic| walk_at "ts call") => `(tactic| with_reducible apply c_l_whole)
local macro_rules | `(tactic| walk_at "ts call") => `(tactic| ((with_reducible apply c_l_word); (focus omega); (focus omega); intro z hz lz))
local macro_rules | `(tactic| walk_at "ts call") => `(tactic| ((with_reducible apply c_l_names); intro b k p H2 lb lb2 s2 hp))
local macro_rules | `(tactic| walk_at "ts call") => `(tactic| ((with_reducible apply c_l_slack); (focus omega); (focus omega)))
local macro_rules | `(tactic| walk_at "ts call") => `(tactic| ((with_reducible apply c_slack); (focus omega); (focus omega)))
local macro_rules | `(tactic| walk_at "ts call") => `(tactic| ((with_reducible apply c_l_brought); (focus walk_at "ts hp"); (focus omega); (focus omega); intro b H2 s2 hb))
local macro_rules | `(tactic| walk_at "ts call") => `(tactic| ((with_reducible apply c_l_letter); (focus walk_at "ts sq"); (focus first | assumption | omega | (simp; omega)); (focus omega); intro L b H2 s2 hL nL okL))
local macro_rules | `(tactic| walk_at "ts call") => `(tactic| ((with_reducible apply c_l_gathered); (focus walk_at "ts hp"); (focus walk_at "ts ck"); (focus omega); (focus omega); (focus omega); (focus assumption); (focus assumption); intro ys p H2 s2 hfr hp hgc))
local macro_rules | `(tactic| walk_at "ts call") => `(tactic| ((with_reducible apply c_l_many); (focus walk_at "ts hp"); (focus walk_at "ts ck")))
local macro_rules | `(tactic| walk_at "ts call") => `(tactic| ((with_reducible apply c_l_lows); (focus walk_at "ts hp"); (focus walk_at "ts ck"); (focus omega); intro p H2 s2 hp))
local macro_rules | `(tactic| walk_at "ts call") => `(tactic| ((with_reducible apply c_l_edges); (focus walk_at "ts hp"); (focus walk_at "ts ck"); (focus omega); intro ns p H2 s2 hp hnl))
local macro_rules | `(tactic| walk_at "ts call") => `(tactic| ((with_reducible apply q_fld); (with_reducible apply Ts.q_var); (focus rfl); (with_reducible apply q_letters ‹Lw _ _›); (focus walk_at "ts hp")))
local macro_rules | `(tactic| walk_at "ts call") => `(tactic| ((with_reducible apply q_fld); (with_reducible apply Ts.q_var); (focus rfl); (with_reducible apply q_offF ‹Lw _ _›); (focus walk_at "ts hp")))

/-! ### other thousandths -/
def sp_l_no_watch : Sp := fun vs H Q _ => ∃ f : Int, vs = [.int f] ∧ ¬ (0 ≤ f ∧ f ≤ 999) ∧ ∀ H', Q (.bl true) H'
theorem c_l_no_watch {f : Int} {H : Hp} {Q : VK} {E : XK} (h : ¬ (0 ≤ f ∧ f ≤ 999)) (q : ∀ H', Q (.bl true) H') : sp_l_no_watch ([.int f] ++ []) H Q E := ⟨f, rfl, h, q⟩
theorem q_makeS {C : Addr} {sp : Sp} {E : L2.St → XK} {t : TA} {σ : L2.St} {H : Hp} {Q : VK} (q : t σ H fun vs H1 => ∀ b d, H1 b = none → H1 d = none → d ≠ b → sp (.ref b :: vs) (upd (upd H1 d (.own b)) b (.ins C d [])) (fun v H2 => v = .non ∧ Q (.ref b) H2) (E σ)) : tMakeS C sp E t σ H Q := q
theorem ok_l_no_watch (T : Lw K mg) : FnOk P w K mg base CX0 4 T.f_l_no_watch T.fd_l_no_watch ["_law_off_here"] sp_l_no_watch := by
  refine T.d_l_no_watch.F.ok sc_l_no_watch (fun vs H Q E h => ?_) (fun cdv A outer s H vs Q E hr h => ?_)
  · obtain ⟨f, rfl, _⟩ := h
    rfl
  · obtain ⟨f, rfl, hf, q⟩ := h
    refine ⟨_, (pss_cons (ps_try_as (i := 1) rfl rfl sc_l_no_watch.nd rfl rfl ⟨rfl, by decide, .inl T.m_StretchError⟩ takes0 (fun W pn xe tk _ => (pss_one (ps_expr (Ts.pe_makeS T.k_Watch.make ((ok_Watch_init T).mono (by decide)) hr rfl T.k_Watch.at_ T.d_Watch_init.b (fun z => passAt tk z) (pa_cons (pv 0) pa_nil))))) (fun a oe cls d pn hz hf => (pss_one (ps_ret (pe_cmpR op_eq (pe_callE (ok_l_kind T) ⟨(hr.mono (j := 1) (by decide)).dp, (hr.mono (j := 1) (by decide)).un⟩ List.mem_cons_self hz hf rfl T.m_l_kind T.d_l_kind.F.kp T.d_l_kind.b (pv 1)) pe_str (nomark _)))))) (pss_one (ps_ret pe_bl))), ?_⟩
    walk_at "ts"
    refine q_makeS ?_
    walk_at "ts"
    refine fun b d hb hd hne => ⟨b, d, f, rfl, upd_same, fun f0 f1 => absurd ⟨f0, f1⟩ hf, fun _ => ?_⟩
    refine ⟨true, T.t_BadOff, fun _ a2 na => ?_, fun z => nomatch z⟩
    walk_at "ts"
    refine ⟨rfl, rfl, T.C_BadOff, 2, "off", rfl, kd_BadOff T, rfl, fun H3 s3 => ?_⟩
    walk_at "ts"
    exact q _
/-! ### a watch filled -/
theorem many_at {r x y : Int} (h0 : 0 ≤ r) (h1 : r < 5) (x0 : 0 ≤ x) (x1 : x ≤ 200) (y0 : 0 ≤ y) (y1 : y ≤ 40) : ∃ z : Int, atI [V.int 0, .int x, .int y, .int 0, .int 0] r = some (.int z) ∧ 0 ≤ z ∧ z ≤ 200 ∧ (r = 2 → z ≤ 40) := by
  obtain rfl | rfl | rfl | rfl | rfl : r = 0 ∨ r = 1 ∨ r = 2 ∨ r = 3 ∨ r = 4 := by omega
  · exact ⟨0, Ts.at0 rfl, by omega, by omega, by omega⟩
  · exact ⟨x, Ts.at1 rfl, by omega, by omega, by omega⟩
  · exact ⟨y, Ts.at2 rfl, by omega, by omega, fun _ => y1⟩
  · exact ⟨0, Ts.at3 rfl, by omega, by omega, by omega⟩
  · exact ⟨0, Ts.at4 rfl, by omega, by omega, by omega⟩
/-- a list that the watch's deeds leave alone -/
theorem Stp.lst {T : Lw K mg} {wa dx oa la pn : Addr} {f : Int} {ps : List LV} {xs : List V} {H H' : Hp} (s : Stp wa la oa H H') (ws : WS T H wa dx oa la f ps) (h : H pn = some (.lst xs)) (h1 : pn ≠ la) (h2 : pn ≠ oa) : H' pn = some (.lst xs) :=
  s.fr _ _ h (ne_of h ws.w (by intro z; cases z)) h1 h2
def sp_l_filled (T : Lw K mg) : Sp := fun vs H Q _ => ∃ (wa dx oa la pn : Addr) (f c : Int) (ps : List LV) (nm : List Str), vs = [.ref wa, .ref oa, .int c, .ref pn] ∧ WS T H wa dx oa la f ps ∧ H pn = some (.lst (nm.map V.str)) ∧ pn ≠ la ∧ pn ≠ oa ∧ nm.length = 42 ∧ (∀ z ∈ nm, IsName z) ∧ ∀ H' ps', WS T H' wa dx oa la f ps' → Stp wa la oa H H' → Q (.bl true) H'
theorem c_l_filled {T : Lw K mg} {wa dx oa la pn : Addr} {f c : Int} {ps : List LV} {nm : List Str} {H : Hp} {Q : VK} {E : XK} (ws : WS T H wa dx oa la f ps) (h : H pn = some (.lst (nm.map V.str))) (h1 : pn ≠ la) (h2 : pn ≠ oa) (h3 : nm.length = 42) (h4 : ∀ z ∈ nm, IsName z) (q : ∀ H' ps', WS T H' wa dx oa la f ps' → Stp wa la oa H H' → Q (.bl true) H') : sp_l_filled T ([.ref wa, .ref oa, .int c, .ref pn] ++ []) H Q E := ⟨wa, dx, oa, la, pn, f, c, ps, nm, rfl, ws, h, h1, h2, h3, h4, q⟩
theorem ok_l_filled (T : Lw K mg) : FnOk P w K mg base CX0 5 T.f_l_filled T.fd_l_filled ["_law_watch", "_law_own", "_law_first", "_law_names_here"] (sp_l_filled T) := by
  refine T.d_l_filled.F.ok sc_l_filled (fun vs H Q E h => ?_) (fun cdv A outer s H vs Q E hr h => ?_)
  · obtain ⟨wa, dx, oa, la, pn, f, c, ps, nm, rfl, _⟩ := h
    rfl
  · obtain ⟨wa, dx, oa, la, pn, f, c, ps, nm, rfl, ws, hpn, h1, h2, h42, hnm, q⟩ := h
    refine ⟨_, (pss_cons (ps_for PassesOwn.never rfl (pi_range1 (by rfl) T.n_range (pa_cons (pe_ix (Ts.ix_listK K) (pe_lst (pa_cons pe_int (pa_cons (pe_op op_add pe_int (pe_op op_mod (pe_op op_fdiv (pv 2) pe_int) pe_int)) (pa_cons (pe_op op_add pe_int (pe_op op_mod (pe_op op_fdiv (pv 2) pe_int) pe_int)) (pa_cons pe_int (pa_cons pe_int pa_nil)))))) (pe_op op_mod (pv 2) pe_int) (fun _ _ => rfl)) pa_nil)) (pg_name (i := 4) sc_l_filled.nd rfl (by first | exact Or.inl rfl | exact Or.inr rfl)) (pss_cons (ps_asg (pe_call ((ok_l_letter T).mono (by decide)) hr rfl T.m_l_letter T.d_l_letter.F.kp T.d_l_letter.b .nil pass0 (pa_cons (pe_op op_add (pv 2) (pv 4)) (pa_cons (pv 3) (pa_cons pe_int pa_nil)))) (pg_name (i := 5) sc_l_filled.nd rfl (by first | exact Or.inl rfl | exact Or.inr rfl))) (pss_cons (ps_if (pt_cmpR op_eq (pe_op op_mod (pv 2) pe_int) pe_int (nomark _)) (pss_one (ps_asg (pe_tup (pa_cons (pe_ix (Ts.ix_listK K) (pv 3) (pv 4) (fun _ _ => rfl)) (pa_cons (pe_ix (Ts.ix_tupK K) (pv 5) pe_int (fun _ _ => rfl)) (pa_cons (pe_ix (Ts.ix_tupK K) (pv 5) pe_int (fun _ _ => rfl)) (pa_cons (pe_ix (Ts.ix_tupK K) (pv 5) pe_int (fun _ _ => rfl)) (pa_cons (pe_ix (Ts.ix_tupK K) (pv 5) pe_int (fun _ _ => rfl)) pa_nil)))))) (pg_name (i := 5) sc_l_filled.nd rfl (by first | exact Or.inl rfl | exact Or.inr rfl)))) pss_nil) (pss_one (ps_if (pt_not (pt_val (pe_call ((ok_l_put T).mono (by decide)) hr rfl T.m_l_put T.d_l_put.F.kp T.d_l_put.b .nil pass0 (pa_cons (pv 0) (pa_cons (pv 1) (pa_cons (pv 5) pa_nil)))))) (pss_one (ps_ret pe_bl)) pss_nil))))) (pss_one (ps_ret pe_bl))), ?_⟩
    walk_at "ts"
    rename_i p0 hp0 H0 s0 e0
    obtain ⟨m, hm, m0, m1, m2⟩ := many_at (r := c % 5) (x := 197 + c / 5 % 4) (y := 38 + c / 5 % 3) (by omega) (by omega) (by omega) (by omega) (by omega) (by omega)
    refine Ts.q_ixL (sqL_of e0) hm ?_
    walk_at "ts"
    refine Ts.q_forR m0 (by omega) (fun i σ' H' => ∃ (v4 v5 : Option V) (ps' : List LV), σ' = [some (.ref wa), some (.ref oa), some (.int c), some (.ref pn), v4, v5] ∧ WS T H' wa dx oa la f ps' ∧ Stp wa la oa H H') ⟨none, none, ps, rfl, ws.stay s0, .of_same s0⟩ ?_ ?_
    · rintro i σ' H' hi ⟨v4, v5, ps', rfl, ws', st⟩
      have hpn' := st.lst ws hpn h1 h2
      walk_at "ts toif"
      rename_i L b H1 s1 hL hLn hg
      have ws1 := ws'.stay s1
      have hpn1 := s1 _ _ hpn'
      have hL' : H1 b = some (.tup [.str L.name, .int L.sent, .int L.back, .int L.low, .int L.high]) := hL
      refine Ts.q_joinS (fun σ' H2 => ∃ (M : Ltr) (b2 : Addr), σ' = [some (.ref wa), some (.ref oa), some (.int c), some (.ref pn), some (.int i), some (.ref b2)] ∧ Same H1 H2 ∧ LtAt H2 b2 M ∧ M.name ∈ nm ∧ Good M) ?_ ?_
      rotate_left
      · intro nx' hnx
        walk_at "ts"
        refine Ts.q_iteD (fun h5 => ?_) (fun h5 => ?_)
        · have hil : i < nm.length := by have := m2 h5; omega
          walk_at "ts"
          refine Ts.q_ixL (v := .str nm[i]) (sqL_of hpn1) (atI_nat (by rw [List.getElem?_map, List.getElem?_eq_getElem hil]; rfl)) ?_
          walk_at "ts"
          rename_i b2 hb2 H2 s2 e2
          exact hnx _ _ ⟨⟨nm[i], L.sent, L.back, L.low, L.high⟩, b2, rfl, s2, e2, List.getElem_mem hil, hg⟩
        · walk_at "ts"
          exact hnx _ _ ⟨L, b, rfl, Same.refl _, hL, hLn, hg⟩
      rintro σ' H2 ⟨M, b2, rfl, s2, hM, hMn, hMg⟩
      have ws2 := ws1.stay s2
      walk_at "ts"
      refine c_l_put ws2 hM (Lok.of (hnm _ hMn) hMg) fun H3 ps3 ws3 st3 => ?_
      walk_at "ts"
      exact ⟨_, _, ps3, rfl, ws3, (st.comp (.inl rfl) (.of_same (s1.trans s2))).comp (.inl rfl) st3⟩
    · rintro σ' H' ⟨v4, v5, ps', rfl, ws', st⟩
      walk_at "ts"
      exact q _ ps' ws' st

/-! ### forty clocks put, one more, one dropped -/
theorem cutV_mem {α : Type} (g : α → V) (ns : List α) (lo hi : Option Int) : ∃ ms : List α, cutV (ns.map g) lo hi = ms.map g ∧ (∀ z ∈ ms, z ∈ ns) ∧ ms.length ≤ ns.length := by
  unfold cutV
  generalize HT.sIx (ns.map g).length 0 lo = a
  generalize HT.sIx (ns.map g).length (ns.map g).length hi - a = b
  refine ⟨(ns.drop a).take b, ?_, fun z hz => List.mem_of_mem_drop (List.mem_of_mem_take hz), ?_⟩
  · rw [List.map_take, List.map_drop]
  · rw [List.length_take, List.length_drop]
    omega
def sp_l_forty (T : Lw K mg) : Sp := fun vs H Q _ => ∃ (wa dx oa la pn : Addr) (f c : Int) (ps : List LV) (nm : List Str), vs = [.ref wa, .ref oa, .int c, .ref pn] ∧ WS T H wa dx oa la f ps ∧ H pn = some (.lst (nm.map V.str)) ∧ pn ≠ la ∧ pn ≠ oa ∧ nm.length = 42 ∧ (∀ z ∈ nm, IsName z) ∧ ∀ H' la' ps', (la' = la ∨ H la' = none) → WS T H' wa dx oa la' f ps' → Stp wa la oa H H' → Q (.bl true) H'
theorem c_l_forty {T : Lw K mg} {wa dx oa la pn : Addr} {f c : Int} {ps : List LV} {nm : List Str} {H : Hp} {Q : VK} {E : XK} (ws : WS T H wa dx oa la f ps) (h : H pn = some (.lst (nm.map V.str))) (h1 : pn ≠ la) (h2 : pn ≠ oa) (h3 : nm.length = 42) (h4 : ∀ z ∈ nm, IsName z) (q : ∀ H' la' ps', (la' = la ∨ H la' = none) → WS T H' wa dx oa la' f ps' → Stp wa la oa H H' → Q (.bl true) H') : sp_l_forty T ([.ref wa, .ref oa, .int c, .ref pn] ++ []) H Q E := ⟨wa, dx, oa, la, pn, f, c, ps, nm, rfl, ws, h, h1, h2, h3, h4, q⟩
theorem ok_l_forty (T : Lw K mg) : FnOk P w K mg base CX0 5 T.f_l_forty T.fd_l_forty ["_law_watch", "_law_own", "_law_first", "_law_names_here"] (sp_l_forty T) := by
  refine T.d_l_forty.F.ok sc_l_forty (fun vs H Q E h => ?_) (fun cdv A outer s H vs Q E hr h => ?_)
  · obtain ⟨wa, dx, oa, la, pn, f, c, ps, nm, rfl, _⟩ := h
    rfl
  · obtain ⟨wa, dx, oa, la, pn, f, c, ps, nm, rfl, ws, hpn, h1, h2, h42, hnm, q⟩ := h
    have atn : ∀ k : Nat, (hk : k < 42) → atI (nm.map V.str) (k : Int) = some (.str (nm[k]'(by omega))) := fun k hk => atI_nat (by rw [List.getElem?_map, List.getElem?_eq_getElem (show k < nm.length by omega)]; rfl)
    refine ⟨_, (pss_cons (ps_asg (pe_ix (Ts.ix_listK K) (pv 3) (pe_op op_mod (pe_op op_fdiv (pv 2) pe_int) pe_int) (fun _ _ => rfl)) (pg_name (i := 4) sc_l_forty.nd rfl (by first | exact Or.inl rfl | exact Or.inr rfl))) (pss_cons (ps_for PassesOwn.never rfl (Ts.pi_listK K (pe_op op_cat (pe_slice (Ts.sl_listK K) (pv 3) po_none (po_some pe_int)) (pe_lst (pa_cons (pe_ix (Ts.ix_listK K) (pv 3) pe_int (fun _ _ => rfl)) (pa_cons pe_str (pa_cons (pe_ix (Ts.ix_listK K) (pv 3) pe_int (fun _ _ => rfl)) (pa_cons (pv 4) (pa_cons (pe_ix (Ts.ix_listK K) (pv 3) pe_int (fun _ _ => rfl)) pa_nil)))))))) (pg_name (i := 5) sc_l_forty.nd rfl (by first | exact Or.inl rfl | exact Or.inr rfl)) (pss_cons (ps_asg (pe_call ((ok_l_letter T).mono (by decide)) hr rfl T.m_l_letter T.d_l_letter.F.kp T.d_l_letter.b .nil pass0 (pa_cons (pv 2) (pa_cons (pe_lst (pa_cons (pv 5) pa_nil)) (pa_cons pe_int pa_nil)))) (pg_name (i := 6) sc_l_forty.nd rfl (by first | exact Or.inl rfl | exact Or.inr rfl))) (pss_one (ps_if (pt_cmpR op_eq (pv 5) pe_str (nomark _)) (pss_one (ps_if (pt_not (pt_val (pe_call ((ok_l_drop T).mono (by decide)) hr rfl T.m_l_drop T.d_l_drop.F.kp T.d_l_drop.b .nil pass0 (pa_cons (pv 0) (pa_cons (pv 1) (pa_cons (pv 4) pa_nil)))))) (pss_one (ps_ret pe_bl)) pss_nil)) (pss_one (ps_if (pt_not (pt_val (pe_call ((ok_l_put T).mono (by decide)) hr rfl T.m_l_put T.d_l_put.F.kp T.d_l_put.b .nil pass0 (pa_cons (pv 0) (pa_cons (pv 1) (pa_cons (pv 6) pa_nil)))))) (pss_one (ps_ret pe_bl)) pss_nil)))))) (pss_one (ps_ret (pe_and (pe_call ((ok_l_drop T).mono (by decide)) hr rfl T.m_l_drop T.d_l_drop.F.kp T.d_l_drop.b .nil pass0 (pa_cons (pv 0) (pa_cons (pv 1) (pa_cons (pe_ix (Ts.ix_listK K) (pv 3) pe_int (fun _ _ => rfl)) pa_nil)))) (pe_one (pe_call ((ok_l_put T).mono (by decide)) hr rfl T.m_l_put T.d_l_put.F.kp T.d_l_put.b .nil pass0 (pa_cons (pv 0) (pa_cons (pv 1) (pa_cons (pe_call ((ok_l_letter T).mono (by decide)) hr rfl T.m_l_letter T.d_l_letter.F.kp T.d_l_letter.b .nil pass0 (pa_cons (pv 2) (pa_cons (pe_lst (pa_cons (pv 4) pa_nil)) (pa_cons pe_int pa_nil)))) pa_nil)))))))))), ?_⟩
    walk_at "ts"
    refine Ts.q_ixAny (sqL_of hpn) (by omega) (by rw [List.length_map]; omega) fun v hv => ?_
    obtain ⟨tu, htu, rfl⟩ := List.mem_map.mp hv
    clear hv
    walk_at "ts"
    refine q_slLst (sqL_of hpn) fun pc H1 s1 f1 e1 => ?_
    obtain ⟨ms, em, hms, hml⟩ := cutV_mem V.str nm none (some 40)
    rw [em] at e1
    have hpn1 := s1 _ _ hpn
    walk_at "ts"
    refine Ts.q_ixL (sqL_of hpn1) (atn 40 (by omega)) ?_
    walk_at "ts"
    refine Ts.q_ixL (sqL_of hpn1) (atn 40 (by omega)) ?_
    walk_at "ts"
    refine Ts.q_ixL (sqL_of hpn1) (atn 41 (by omega)) ?_
    walk_at "ts"
    rename_i pd hpd H2 s2 e2
    refine Ts.q_catF (s2 _ _ e1) e2 (Ts.size_of (by simp; omega)) fun pl H3 f3 s3 e3 => ?_
    have s02 := s1.trans s2
    have s03 := s02.trans s3
    have hplF : H pl = none := Same.free s02 f3
    have npl : pl ≠ la := ne_of_none' ws.l hplF
    have npo : pl ≠ oa := ne_of_none' ws.o hplF
    have hpn3 := s03 _ _ hpn
    have ws3 := ws.stay s03
    have each : ∀ (i : Nat) (x : V), (ms.map V.str ++ [V.str nm[40], .str "", .str nm[40], .str tu, .str nm[41]])[i]? = some x → ∃ z, x = .str z ∧ (IsName z ∨ z = "") := fun i x hx => by
      rcases List.mem_append.mp (List.mem_of_getElem? hx) with hm | hm
      · obtain ⟨z, hz, rfl⟩ := List.mem_map.mp hm
        exact ⟨z, rfl, .inl (hnm _ (hms _ hz))⟩
      · simp only [List.mem_cons, List.not_mem_nil, or_false] at hm
        rcases hm with rfl | rfl | rfl | rfl | rfl
        · exact ⟨_, rfl, .inl (hnm _ (List.getElem_mem _))⟩
        · exact ⟨_, rfl, .inr rfl⟩
        · exact ⟨_, rfl, .inl (hnm _ (List.getElem_mem _))⟩
        · exact ⟨_, rfl, .inl (hnm _ htu)⟩
        · exact ⟨_, rfl, .inl (hnm _ (List.getElem_mem _))⟩
    walk_at "ts"
    refine Ts.q_forL _ (sqL_of e3) (fun i σ' H' => ∃ (v5 v6 : Option V) (la' : Addr) (ps' : List LV), σ' = [some (.ref wa), some (.ref oa), some (.int c), some (.ref pn), some (.str tu), v5, v6] ∧ (la' = la ∨ H3 la' = none) ∧ WS T H' wa dx oa la' f ps' ∧ Stp wa la oa H3 H')
      ⟨none, none, la, ps, rfl, .inl rfl, ws3, .of_same (Same.refl _)⟩ (fun i σ' H' ⟨_, _, _, _, _, _, _, st⟩ => sqL_of (st.lst ws3 e3 npl npo)) ?_ ?_
    · rintro i x σ' H' hx ⟨v5, v6, la', ps', rfl, nla, ws', st⟩
      obtain ⟨z, rfl, hz⟩ := each i x hx
      walk_at "ts"
      rename_i p4 hp4 H4 s4 e4
      refine c_l_letter (nm := [z]) (sqL_of e4) (by simp) (by omega) fun L b H5 s5 hL hLn hg => ?_
      rw [List.mem_singleton] at hLn
      have ws5 := ws'.stay (s4.trans s5)
      have st5 : Stp wa la oa H3 H5 := st.comp nla (.of_same (s4.trans s5))
      walk_at "ts"
      refine Ts.q_iteD (fun hze => ?_) (fun hze => ?_)
      · walk_at "ts"
        refine c_l_drop ws5 fun H6 la6 ps6 m6 ws6 st6 => ?_
        walk_at "ts"
        exact ⟨_, _, la6, ps6, rfl, st5.next nla m6, ws6, st5.comp nla st6⟩
      · have hzn : IsName L.name := by
          rw [hLn]
          exact hz.resolve_right hze
        walk_at "ts"
        refine c_l_put ws5 hL (Lok.of hzn hg) fun H6 ps6 ws6 st6 => ?_
        walk_at "ts"
        exact ⟨_, _, la', ps6, rfl, nla, ws6, st5.comp nla st6⟩
    · rintro σ' H' ⟨v5, v6, la', ps', rfl, nla, ws', st⟩
      have hpn' := st.lst ws3 hpn3 h1 h2
      walk_at "ts"
      refine Ts.q_ixL (sqL_of hpn') (atn 40 (by omega)) ?_
      walk_at "ts"
      refine c_l_drop ws' fun H6 la6 ps6 m6 ws6 st6 => ?_
      have st06 : Stp wa la oa H H6 := (Stp.of_same s03).comp (.inl rfl) (st.comp nla st6)
      have n6 : la6 = la ∨ H la6 = none := (st.next nla m6).imp id (fun z => Same.free s03 z)
      walk_at "ts"
      rename_i p7 hp7 H7 s7 e7
      refine c_l_letter (nm := [tu]) (sqL_of e7) (by simp) (by omega) fun L b H8 s8 hL hLn hg => ?_
      rw [List.mem_singleton] at hLn
      walk_at "ts"
      refine c_l_put (ws6.stay (s7.trans s8)) hL (Lok.of (by rw [hLn]; exact hnm _ htu) hg) fun H9 ps9 ws9 st9 => ?_
      exact q _ la6 ps9 n6 ws9 ((st06.comp n6 (.of_same (s7.trans s8))).comp n6 st9)

end Law


namespace Law
open PySem PySem.Spec PyProof.Rows L2 Ts
variable {P : Program} {w : World} {K : PySem.W.Frag} {mg : Str → Option Value} {base : Heap}
local macro_rules | `(tactic| walk_at "ts call") => `(tactic| ((with_reducible apply c_l_cell_at); (focus walk_at "ts sq"); (focus omega); intro z ez))
local macro_rules | `(tactic| walk_at "ts call") => `(tactic| ((with_reducible apply c_l_mix); intro z ez z0 z1))
local macro_rules | `(tactic| walk_at "ts call") => `(tactic| ((with_reducible apply c_l_big); intro z H2 z0 z1 sz))
local macro_rules | `(tactic| walk_at "ts call") => `(tactic| ((with_reducible apply c_l_off); intro z H2 z0 z1 sz))
local macro_rules | `(tactic| walk_at "ts call") => `(tactic| with_reducible apply c_l_whole)
local macro_rules | `(tactic| walk_at "ts call") => `(tactic| ((with_reducible apply c_l_word); (focus omega); (focus omega); intro z hz lz))
local macro_rules | `(tactic| walk_at "ts call") => `(tactic| ((with_reducible apply c_l_names); intro b k p H2 lb lb2 s2 hp))
local macro_rules | `(tactic| walk_at "ts call") => `(tactic| ((with_reducible apply c_l_slack); (focus omega); (focus omega)))
local macro_rules | `(tactic| walk_at "ts call") => `(tactic| ((with_reducible apply c_slack); (focus omega); (focus omega)))
local macro_rules | `(tactic| walk_at "ts call") => `(tactic| ((with_reducible apply c_l_brought); (focus walk_at "ts hp"); (focus omega); (focus omega); intro b H2 s2 hb))
local macro_rules | `(tactic| walk_at "ts call") => `(tactic| ((with_reducible apply c_l_letter); (focus walk_at "ts sq"); (focus first | assumption | omega | (simp; omega)); (focus omega); intro L b H2 s2 hL nL okL))
local macro_rules | `(tactic| walk_at "ts call") => `(tactic| ((with_reducible apply c_l_gathered); (focus walk_at "ts hp"); (focus walk_at "ts ck"); (focus omega); (focus omega); (focus omega); (focus assumption); (focus assumption); intro ys p H2 s2 hfr hp hgc))
local macro_rules | `(tactic| walk_at "ts call") => `(tactic| ((with_reducible apply c_l_many); (focus walk_at "ts hp"); (focus walk_at "ts ck")))
local macro_rules | `(tactic| walk_at "ts call") => `(tactic| ((with_reducible apply c_l_lows); (focus walk_at "ts hp"); (focus walk_at "ts ck"); (focus omega); intro p H2 s2 hp))
local macro_rules | `(tactic| walk_at "ts call") => `(tactic| ((with_reducible apply c_l_edges); (focus walk_at "ts hp"); (focus walk_at "ts ck"); (focus omega); intro ns p H2 s2 hp hnl))
local macro_rules | `(tactic| walk_at "ts call") => `(tactic| ((with_reducible apply q_fld); (with_reducible apply Ts.q_var); (focus rfl); (with_reducible apply q_letters ‹Lw _ _›); (focus walk_at "ts hp")))
local macro_rules | `(tactic| walk_at "ts call") => `(tactic| ((with_reducible apply q_fld); (with_reducible apply Ts.q_var); (focus rfl); (with_reducible apply q_offF ‹Lw _ _›); (focus walk_at "ts hp")))

/-! ### a deed on one of the watches -/
theorem num_ok {x : Int} (h0 : 0 ≤ x) (h1 : x ≤ 100) : NumOk x := ⟨h0, by omega⟩
theorem is_q : IsName "q" := by
  refine ⟨by decide +kernel, by decide +kernel, fun c hc => ?_⟩
  rw [show ("q" : Str).cps.toList = [113] from by decide +kernel, List.mem_singleton] at hc
  omega
/-- what a deed promises -/
abbrev DeedQ (T : Lw K mg) (wa dx oa la ha : Addr) (f : Int) (hs : List V) (H : Hp) (Q : VK) : Prop := ∀ H' la' ps' (add : List (V × HI)), (la' = la ∨ H la' = none) → (add = [] ∨ la' = la) → add.length ≤ 1 → WS T H' wa dx oa la' f ps' → H' ha = some (.lst (hs ++ add.map Prod.fst)) → (∀ p ∈ add, HdAt H' p.1 p.2 ∧ ∀ a ∈ p.2.lists, H a = none) →
  (∀ b o, H b = some o → b ≠ wa → b ≠ la → b ≠ oa → b ≠ ha → H' b = some o) → TSame H H' → (∀ b, H' b = none → H b = none) → Q (.bl true) H'
def sp_l_deed (T : Lw K mg) : Sp := fun vs H Q _ => ∃ (wa dx oa la pn ha : Addr) (f c : Int) (ps : List LV) (nm : List Str) (hs : List V), vs = [.ref wa, .ref oa, .int f, .int c, .ref pn, .ref ha] ∧ WS T H wa dx oa la f ps ∧ H pn = some (.lst (nm.map V.str)) ∧ nm.length = 42 ∧ (∀ z ∈ nm, IsName z) ∧ H ha = some (.lst hs) ∧ hs.length ≤ 1000 ∧ ha ≠ la ∧ ha ≠ oa ∧ DeedQ T wa dx oa la ha f hs H Q
theorem c_l_deed {T : Lw K mg} {wa dx oa la pn ha : Addr} {f c : Int} {ps : List LV} {nm : List Str} {hs : List V} {H : Hp} {Q : VK} {E : XK} (ws : WS T H wa dx oa la f ps) (h : H pn = some (.lst (nm.map V.str))) (h3 : nm.length = 42) (h4 : ∀ z ∈ nm, IsName z) (h5 : H ha = some (.lst hs)) (h6 : hs.length ≤ 1000) (h7 : ha ≠ la) (h8 : ha ≠ oa) (q : DeedQ T wa dx oa la ha f hs H Q) : sp_l_deed T ([.ref wa, .ref oa, .int f, .int c, .ref pn, .ref ha] ++ []) H Q E := ⟨wa, dx, oa, la, pn, ha, f, c, ps, nm, hs, rfl, ws, h, h3, h4, h5, h6, h7, h8, q⟩
theorem ok_l_deed (T : Lw K mg) : FnOk P w K mg base CX0 7 T.f_l_deed T.fd_l_deed ["_law_watch", "_law_own", "_law_off_here", "_law_cell", "_law_names_here", "_law_held"] (sp_l_deed T) := by
  refine T.d_l_deed.F.ok sc_l_deed (fun vs H Q E h => ?_) (fun cdv A outer s H vs Q E hr h => ?_)
  · obtain ⟨wa, dx, oa, la, pn, ha, f, c, ps, nm, hs, rfl, _⟩ := h
    rfl
  · obtain ⟨wa, dx, oa, la, pn, ha, f, c, ps, nm, hs, rfl, ws, hpn, h42, hnm, hha, hhl, n1, n2, q⟩ := h
    have nw : ha ≠ wa := ne_of hha ws.w (by intro z; cases z)
    -- put and drop leave what was told alone
    have fin : ∀ (H1 H' : Hp) la' ps', Same H H1 → (la' = la ∨ H1 la' = none) → WS T H' wa dx oa la' f ps' → Stp wa la oa H1 H' → Q (.bl true) H' := fun H1 H' la' ps' s1 n ws' st => by
      have st0 : Stp wa la oa H H' := (Stp.of_same s1).comp (.inl rfl) st
      exact q H' la' ps' [] (n.imp id fun z => Same.free s1 z) (.inl rfl) (by simp) ws' (by rw [List.map_nil, List.append_nil]; exact st0.fr _ _ hha nw n1 n2) (fun p hp => by cases hp) (fun b o hb h1 h2 h3 _ => st0.fr b o hb h1 h2 h3) st0.ts st0.dom
    refine ⟨_, (pss_cons (ps_asg (pe_op op_mod (pe_call ((ok_l_mix T).mono (by decide)) hr rfl T.m_l_mix T.d_l_mix.F.kp T.d_l_mix.b .nil pass0 (pa_cons (pv 3) (pa_cons pe_int pa_nil))) pe_int) (pg_name (i := 6) sc_l_deed.nd rfl (by first | exact Or.inl rfl | exact Or.inr rfl))) (pss_cons (ps_asg (pe_call ((ok_l_letter T).mono (by decide)) hr rfl T.m_l_letter T.d_l_letter.F.kp T.d_l_letter.b .nil pass0 (pa_cons (pv 3) (pa_cons (pv 4) (pa_cons (pe_ix (Ts.ix_listK K) (pe_lst (pa_cons pe_int (pa_cons pe_int pa_nil))) (pe_op op_mod (pe_call ((ok_l_mix T).mono (by decide)) hr rfl T.m_l_mix T.d_l_mix.F.kp T.d_l_mix.b .nil pass0 (pa_cons (pv 3) (pa_cons pe_int pa_nil))) pe_int) (fun _ _ => rfl)) pa_nil)))) (pg_name (i := 7) sc_l_deed.nd rfl (by first | exact Or.inl rfl | exact Or.inr rfl))) (pss_cons (ps_if (pt_cmpR op_lt (pv 6) pe_int (nomark _)) (pss_one (ps_ret (pe_call ((ok_l_put T).mono (by decide)) hr rfl T.m_l_put T.d_l_put.F.kp T.d_l_put.b .nil pass0 (pa_cons (pv 0) (pa_cons (pv 1) (pa_cons (pv 7) pa_nil)))))) pss_nil) (pss_cons (ps_if (pt_cmpR op_eq (pv 6) pe_int (nomark _)) (pss_cons (ps_asg (pe_lst (pa_cons (pe_tup (pa_cons pe_str (pa_cons pe_int (pa_cons pe_int (pa_cons pe_int (pa_cons pe_int pa_nil)))))) (pa_cons (pe_tup (pa_cons pe_str (pa_cons pe_int (pa_cons pe_int (pa_cons pe_int (pa_cons pe_int pa_nil)))))) (pa_cons (pe_tup (pa_cons pe_str (pa_cons pe_int (pa_cons pe_int (pa_cons pe_int (pa_cons pe_int pa_nil)))))) (pa_cons (pe_tup (pa_cons pe_str (pa_cons pe_int (pa_cons pe_int (pa_cons pe_int (pa_cons pe_int pa_nil)))))) pa_nil))))) (pg_name (i := 8) sc_l_deed.nd rfl (by first | exact Or.inl rfl | exact Or.inr rfl))) (pss_one (ps_ret (pe_call ((ok_l_put T).mono (by decide)) hr rfl T.m_l_put T.d_l_put.F.kp T.d_l_put.b .nil pass0 (pa_cons (pv 0) (pa_cons (pv 1) (pa_cons (pe_ix (Ts.ix_listK K) (pv 8) (pe_op op_mod (pe_call ((ok_l_mix T).mono (by decide)) hr rfl T.m_l_mix T.d_l_mix.F.kp T.d_l_mix.b .nil pass0 (pa_cons (pv 3) (pa_cons pe_int pa_nil))) pe_int) (fun _ _ => rfl)) pa_nil))))))) pss_nil) (pss_cons (ps_if (pt_cmpR op_eq (pv 6) pe_int (nomark _)) (pss_one (ps_ret (pe_call ((ok_l_drop T).mono (by decide)) hr rfl T.m_l_drop T.d_l_drop.F.kp T.d_l_drop.b .nil pass0 (pa_cons (pv 0) (pa_cons (pv 1) (pa_cons (pe_ix (Ts.ix_tupK K) (pv 7) pe_int (fun _ _ => rfl)) pa_nil)))))) pss_nil) (pss_one (ps_ret (pe_call ((ok_l_ask T).mono (by decide)) hr rfl T.m_l_ask T.d_l_ask.F.kp T.d_l_ask.b .nil pass0 (pa_cons (pv 0) (pa_cons (pv 1) (pa_cons (pv 2) (pa_cons (pv 3) (pa_cons (pv 5) pa_nil))))))))))))), ?_⟩
    walk_at "ts"
    rename_i way ewy wy0 wy1 pm hpm Hm sm em z2 ez2 z20 z21
    refine Ts.q_ixB 3 42 (sqL_of em) (by omega) (by simp; omega) (by walk_at "ts allin") fun m m0 m1 => ?_
    walk_at "ts toif"
    rename_i L b H1 s1 hL hLn hg
    have sH1 := sm.trans s1
    have ws1 := ws.stay sH1
    have hL' : H1 b = some (.tup [.str L.name, .int L.sent, .int L.back, .int L.low, .int L.high]) := hL
    walk_at "ts"
    refine Ts.q_iteD (fun h1 => ?_) (fun h1 => ?_)
    · walk_at "ts"
      exact c_l_put ws1 hL (Lok.of (hnm _ hLn) hg) fun H2 ps2 ws2 st2 => fin H1 H2 la ps2 sH1 (.inl rfl) ws2 st2
    walk_at "ts"
    refine Ts.q_iteD (fun h2 => ?_) (fun h2 => ?_)
    · walk_at "ts"
      refine Ts.q_ixAny (by walk_at "ts sq") (by omega) (by simp; omega) fun v hv => ?_
      rename_i q1 hq1 J1 t1 g1 q2 hq2 J2 t2 g2 q3 hq3 J3 t3 g3 q4 hq4 J4 t4 g4 q5 hq5 J5 t5 g5 _ _ _ _
      have sJ : Same H1 J5 := (((t1.trans t2).trans t3).trans t4).trans t5
      have k1 := t5 _ _ (t4 _ _ (t3 _ _ (t2 _ _ g1)))
      have k2 := t5 _ _ (t4 _ _ (t3 _ _ g2))
      have k3 := t5 _ _ (t4 _ _ g3)
      have k4 := t5 _ _ g4
      have nk : ∀ x : Int, 0 ≤ x → x ≤ 100 → NumOk x := fun x h0 h1 => num_ok h0 h1
      obtain ⟨b2, M, rfl, hM, hMk⟩ : ∃ (b2 : Addr) (M : Ltr), v = .ref b2 ∧ LtAt J5 b2 M ∧ Lok M := by
        simp only [List.mem_cons, List.not_mem_nil, or_false] at hv
        rcases hv with rfl | rfl | rfl | rfl
        · exact ⟨q1, ⟨"", 1, 2, 3, 4⟩, rfl, k1, .inr (.inl rfl), nk _ (by simp) (by simp), nk _ (by simp) (by simp), nk _ (by simp) (by simp), nk _ (by simp) (by simp)⟩
        · exact ⟨q2, ⟨"Q", 9, 2, 3, 4⟩, rfl, k2, .inr (.inr rfl), nk _ (by simp) (by simp), nk _ (by simp) (by simp), nk _ (by simp) (by simp), nk _ (by simp) (by simp)⟩
        · exact ⟨q3, ⟨"q", 9, 2, 3, 4⟩, rfl, k3, .inl is_q, nk _ (by simp) (by simp), nk _ (by simp) (by simp), nk _ (by simp) (by simp), nk _ (by simp) (by simp)⟩
        · exact ⟨q4, ⟨"q", 1, 2, 5, 4⟩, rfl, k4, .inl is_q, nk _ (by simp) (by simp), nk _ (by simp) (by simp), nk _ (by simp) (by simp), nk _ (by simp) (by simp)⟩
      walk_at "ts"
      exact c_l_put (ws1.stay sJ) hM hMk fun H2 ps2 ws2 st2 => fin J5 H2 la ps2 (sH1.trans sJ) (.inl rfl) ws2 st2
    walk_at "ts"
    refine Ts.q_iteD (fun h3 => ?_) (fun h3 => ?_)
    · walk_at "ts"
      exact c_l_drop ws1 fun H2 la2 ps2 m2 ws2 st2 => fin H1 H2 la2 ps2 sH1 m2 ws2 st2
    · walk_at "ts"
      refine c_l_ask ws1 (sH1 _ _ hha) hhl n1 n2 fun H2 add hal ws2 hh2 had fr dm => ?_
      refine q H2 la ps add (.inl rfl) (.inr rfl) hal ws2 hh2 (fun p hp => ⟨(had p hp).1, fun a ha' => Same.free sH1 ((had p hp).2 a ha')⟩) (fun b o hb _ _ _ hne => fr _ _ (sH1 _ _ hb) hne) (fun b xs hb => fr _ _ (sH1 _ _ hb) (ne_of hb hha (by intro z; cases z))) (fun b hb => Same.free sH1 (dm b hb))

end Law


namespace Law
open PySem PySem.Spec PyProof.Rows L2 Ts
variable {P : Program} {w : World} {K : PySem.W.Frag} {mg : Str → Option Value} {base : Heap}
local macro_rules | `(tactic| walk_at "ts call") => `(tactic| ((with_reducible apply c_l_cell_at); (focus walk_at "ts sq"); (focus omega); intro z ez))
local macro_rules | `(tactic| walk_at "ts call") => `(tactic| ((with_reducible apply c_l_mix); intro z ez z0 z1))
local macro_rules | `(tactic| walk_at "ts call") => `(tactic| ((with_reducible apply c_l_big); intro z H2 z0 z1 sz))
local macro_rules | `(tactic| walk_at "ts call") => `(tactic| ((with_reducible apply c_l_off); intro z H2 z0 z1 sz))
local macro_rules | `(tactic| walk_at "ts call") => `(tactic| with_reducible apply c_l_whole)
local macro_rules | `(tactic| walk_at "ts call") => `(tactic| ((with_reducible apply c_l_word); (focus omega); (focus omega); intro z hz lz))
local macro_rules | `(tactic| walk_at "ts call") => `(tactic| ((with_reducible apply c_l_names); intro b k p H2 lb lb2 s2 hp))
local macro_rules | `(tactic| walk_at "ts call") => `(tactic| ((with_reducible apply c_l_slack); (focus omega); (focus omega)))
local macro_rules | `(tactic| walk_at "ts call") => `(tactic| ((with_reducible apply c_slack); (focus omega); (focus omega)))
local macro_rules | `(tactic| walk_at "ts call") => `(tactic| ((with_reducible apply c_l_brought); (focus walk_at "ts hp"); (focus omega); (focus omega); intro b H2 s2 hb))
local macro_rules | `(tactic| walk_at "ts call") => `(tactic| ((with_reducible apply c_l_letter); (focus walk_at "ts sq"); (focus first | assumption | omega | (simp; omega)); (focus omega); intro L b H2 s2 hL nL okL))
local macro_rules | `(tactic| walk_at "ts call") => `(tactic| ((with_reducible apply c_l_gathered); (focus walk_at "ts hp"); (focus walk_at "ts ck"); (focus omega); (focus omega); (focus omega); (focus assumption); (focus assumption); intro ys p H2 s2 hfr hp hgc))
local macro_rules | `(tactic| walk_at "ts call") => `(tactic| ((with_reducible apply c_l_many); (focus walk_at "ts hp"); (focus walk_at "ts ck")))
local macro_rules | `(tactic| walk_at "ts call") => `(tactic| ((with_reducible apply c_l_lows); (focus walk_at "ts hp"); (focus walk_at "ts ck"); (focus omega); intro p H2 s2 hp))
local macro_rules | `(tactic| walk_at "ts call") => `(tactic| ((with_reducible apply c_l_edges); (focus walk_at "ts hp"); (focus walk_at "ts ck"); (focus omega); intro ns p H2 s2 hp hnl))
local macro_rules | `(tactic| walk_at "ts call") => `(tactic| ((with_reducible apply q_fld); (with_reducible apply Ts.q_var); (focus rfl); (with_reducible apply q_letters ‹Lw _ _›); (focus walk_at "ts hp")))
local macro_rules | `(tactic| walk_at "ts call") => `(tactic| ((with_reducible apply q_fld); (with_reducible apply Ts.q_var); (focus rfl); (with_reducible apply q_offF ‹Lw _ _›); (focus walk_at "ts hp")))

/-! ### the law -/
def spLaw (K : PySem.W.Frag) : Sp := fun vs H Q _ => ∃ (a : Addr) (ns : List Int), vs = [.ref a] ∧ SqL K H a (ns.map V.int) ∧ ns.length ≤ 63 ∧ ∀ H', Q (.bl true) H'

/-! ### two watches at once -/
structure WW where
  wa : Addr
  dx : Addr
  oa : Addr
  la : Addr
  f : Int
  ps : List LV
abbrev WSr (T : Lw K mg) (H : Hp) (x : WW) : Prop := WS T H x.wa x.dx x.oa x.la x.f x.ps
structure S2 (T : Lw K mg) (H : Hp) (X Y : WW) (ha : Addr) (its : List (V × HI)) (sls : List (Addr × List V)) : Prop where
  x : WSr T H X
  y : WSr T H Y
  ww : X.wa ≠ Y.wa
  n1 : X.la ≠ Y.la
  n2 : X.la ≠ Y.oa
  n3 : X.oa ≠ Y.la
  n4 : X.oa ≠ Y.oa
  hx : ha ≠ X.la
  hx2 : ha ≠ X.oa
  hy : ha ≠ Y.la
  hy2 : ha ≠ Y.oa
  h : H ha = some (.lst (its.map Prod.fst))
  it : ∀ p ∈ its, HdAt H p.1 p.2 ∧ ∀ a ∈ p.2.lists, a ≠ X.la ∧ a ≠ X.oa ∧ a ≠ Y.la ∧ a ≠ Y.oa ∧ a ≠ ha
  sl : ∀ p ∈ sls, H p.1 = some (.lst p.2) ∧ p.1 ≠ X.la ∧ p.1 ≠ X.oa ∧ p.1 ≠ Y.la ∧ p.1 ≠ Y.oa ∧ p.1 ≠ ha
theorem S2.swap {T : Lw K mg} {H : Hp} {x y : WW} {ha : Addr} {it : List (V × HI)} {sl : List (Addr × List V)} (s : S2 T H x y ha it sl) : S2 T H y x ha it sl where
  x := s.y
  y := s.x
  ww := s.ww.symm
  n1 := s.n1.symm
  n2 := s.n3.symm
  n3 := s.n2.symm
  n4 := s.n4.symm
  hx := s.hy
  hx2 := s.hy2
  hy := s.hx
  hy2 := s.hx2
  h := s.h
  it := fun p hp => ⟨(s.it p hp).1, fun a ha' => by
    obtain ⟨a1, a2, a3, a4, a5⟩ := (s.it p hp).2 a ha'
    exact ⟨a3, a4, a1, a2, a5⟩⟩
  sl := fun p hp => by
    obtain ⟨e, a1, a2, a3, a4, a5⟩ := s.sl p hp
    exact ⟨e, a3, a4, a1, a2, a5⟩
theorem S2.step {T : Lw K mg} {H H' : Hp} {x y : WW} {ha la' : Addr} {ps' : List LV} {it add : List (V × HI)} {sl : List (Addr × List V)} (s : S2 T H x y ha it sl) (n : la' = x.la ∨ H la' = none) (no : add = [] ∨ la' = x.la) (w : WS T H' x.wa x.dx x.oa la' x.f ps') (hh : H' ha = some (.lst (it.map Prod.fst ++ add.map Prod.fst)))
    (ad : ∀ p ∈ add, HdAt H' p.1 p.2 ∧ ∀ a ∈ p.2.lists, H a = none) (fr : ∀ b o, H b = some o → b ≠ x.wa → b ≠ x.la → b ≠ x.oa → b ≠ ha → H' b = some o) (ts : TSame H H') : S2 T H' ⟨x.wa, x.dx, x.oa, la', x.f, ps'⟩ y ha (it ++ add) sl := by
  have far : ∀ b o, H b = some o → b ≠ x.la → la' ≠ b := fun b o h1 h2 => by
    rcases n with rfl | n
    · exact h2.symm
    · exact ne_of_none' h1 n
  have lstw : ∀ b xs, H b = some (.lst xs) → b ≠ x.wa := fun b xs h1 => ne_of h1 s.x.w (by intro z; cases z)
  have keep : ∀ b xs, H b = some (.lst xs) → b ≠ x.la → b ≠ x.oa → b ≠ ha → H' b = some (.lst xs) := fun b xs h1 h2 h3 h4 => fr _ _ h1 (lstw _ _ h1) h2 h3 h4
  have ky : H' y.wa = some (.ins T.C_Watch y.dx [("off", .int y.f), ("letters", .ref y.la)]) := fr _ _ s.y.w s.ww.symm (ne_of s.y.w s.x.l (by intro z; cases z)) (ne_of s.y.w s.x.o (by intro z; cases z)) (ne_of s.y.w s.h (by intro z; cases z))
  refine ⟨w, ⟨ky, keep _ _ s.y.l s.n1.symm s.n3.symm s.hy.symm, keep _ _ s.y.o s.n2.symm s.n4.symm s.hy2.symm, s.y.ne, s.y.lt.mono ts, s.y.ok, s.y.few, s.y.clk, s.y.f0, s.y.f1⟩, s.ww, far _ _ s.y.l s.n1.symm, far _ _ s.y.o s.n2.symm, s.n3, s.n4, (far _ _ s.h s.hx).symm, s.hx2, s.hy, s.hy2, by rw [List.map_append]; exact hh, fun p hp => ?_, fun p hp => ?_⟩
  · rcases List.mem_append.mp hp with hp | hp
    · obtain ⟨at_, q⟩ := s.it p hp
      have known : ∀ a ∈ p.2.lists, ∃ zs, H a = some (.lst zs) := fun a ha' => by
        simp only [List.mem_cons, List.not_mem_nil, or_false] at ha'
        rcases ha' with rfl | rfl | rfl | rfl
        · exact ⟨_, at_.pw⟩
        · exact ⟨_, at_.ps⟩
        · exact ⟨_, at_.pw2⟩
        · exact ⟨_, at_.ps2⟩
      refine ⟨at_.mono ts fun a ha' => ?_, fun a ha' => ?_⟩
      · obtain ⟨zs, e⟩ := known a ha'
        obtain ⟨a1, a2, _, _, a5⟩ := q a ha'
        rw [e, keep _ _ e a1 a2 a5]
      · obtain ⟨zs, e⟩ := known a ha'
        obtain ⟨a1, a2, a3, a4, a5⟩ := q a ha'
        exact ⟨(far _ _ e a1).symm, a2, a3, a4, a5⟩
    · obtain ⟨at_, q⟩ := ad p hp
      refine ⟨at_, fun a ha' => ?_⟩
      have fa := q a ha'
      have nn : ∀ b o, H b = some o → a ≠ b := fun b o e => ne_of_none' e fa
      have el : la' = x.la := no.resolve_left fun z => by rw [z] at hp; cases hp
      exact ⟨by show a ≠ la'; rw [el]; exact nn _ _ s.x.l, nn _ _ s.x.o, nn _ _ s.y.l, nn _ _ s.y.o, nn _ _ s.h⟩
  · obtain ⟨e, a1, a2, a3, a4, a5⟩ := s.sl p hp
    exact ⟨keep _ _ e a1 a2 a5, (far _ _ e a1).symm, a2, a3, a4, a5⟩
theorem S2.same {T : Lw K mg} {H H' : Hp} {x y : WW} {ha : Addr} {it : List (V × HI)} {sl : List (Addr × List V)} (s : S2 T H x y ha it sl) (q : Same H H') : S2 T H' x y ha it sl := by
  have e := S2.step (H' := H') (la' := x.la) (ps' := x.ps) (add := []) s (.inl rfl) (.inl rfl) (s.x.stay q) (by rw [List.map_nil, List.append_nil]; exact q _ _ s.h) (fun p hp => by cases hp) (fun b o hb _ _ _ _ => q _ _ hb) (tsame_of q)
  rw [List.append_nil] at e
  exact e
/-- one more list that stays -/
theorem S2.more {T : Lw K mg} {H H' : Hp} {x y : WW} {ha a : Addr} {xs : List V} {it : List (V × HI)} {sl : List (Addr × List V)} (s : S2 T H x y ha it sl) (q : Same H H') (n : H a = none) (e : H' a = some (.lst xs)) : S2 T H' x y ha it ((a, xs) :: sl) := by
  have t := s.same q
  refine { t with sl := fun p hp => ?_ }
  rcases List.mem_cons.mp hp with rfl | hp
  · exact ⟨e, ne_of_none' s.x.l n, ne_of_none' s.x.o n, ne_of_none' s.y.l n, ne_of_none' s.y.o n, ne_of_none' s.h n⟩
  · exact t.sl p hp
theorem q_in12 {p : Addr} {i : Int} {H : Hp} {Q : VK} (h : H p = some (.tup [.int 1, .int 2])) (q : ∀ b, Q (.bl b) H) : rIn K false (.int i) (.ref p) H Q := ⟨p, _, rfl, .inr (sqT_of h), rfl, rfl, q _⟩
theorem names_is {b : Str} {k : Nat} (h : Low b) (hl : b.length ≤ 10) : ∀ z ∈ nmList b k, IsName z := fun z hz => by
  obtain ⟨i, _, rfl⟩ := List.mem_map.mp hz
  have e := nameAt_len b k i
  refine ⟨?_, ?_, nameAt_low h⟩
  · rw [e]; split <;> omega
  · rw [e]; split <;> omega
theorem q_make {C : Addr} {sp : Sp} {dvs : List V} {E : XK} {t : TA} {σ : L2.St} {H : Hp} {Q : VK} (q : t σ H fun vs H1 => ∀ b d, H1 b = none → H1 d = none → d ≠ b → sp (.ref b :: (vs ++ dvs)) (upd (upd H1 d (.own b)) b (.ins C d [])) (fun v H2 => v = .non ∧ Q (.ref b) H2) E) : tMake C sp dvs E t σ H Q := q
/-- a new watch -/
theorem made {CO C : Addr} {f : Int} {H : Hp} {Q : Addr → Hp → Prop} {E : XK} (f0 : 0 ≤ f) (f1 : f ≤ 999) (q : ∀ wa dx la H', H wa = none → H la = none → la ≠ wa → Same H H' → H' wa = some (.ins C dx [("off", .int f), ("letters", .ref la)]) → H' la = some (.lst []) → Q wa H') :
    ∀ b d, H b = none → H d = none → d ≠ b → sp_w_init CO C (.ref b :: ([.int f] ++ [])) (upd (upd H d (.own b)) b (.ins C d [])) (fun v H2 => v = .non ∧ Q b H2) E := by
  intro b d hb hd hn
  have s1 : Same H (upd (upd H d (.own b)) b (.ins C d [])) := same_mut (same_upd hd) hb
  refine ⟨b, d, f, rfl, upd_same, fun _ _ la H' nla nb hw hl fr => ⟨rfl, q b d la H' hb (Same.free s1 nla) nb (fun c o hc => fr c o (s1 _ _ hc) (ne_of_none hc hb)) hw hl⟩, fun z => absurd ⟨f0, f1⟩ z⟩
theorem ok_law (T : Lw K mg) : FnOk P w K mg base CX0 8 T.f_law T.fd_law ["_law_script"] (spLaw K) := by
  refine T.d_law.F.ok sc_law (fun vs H Q E h => ?_) (fun cdv A outer s H vs Q E hr h => ?_)
  · obtain ⟨a, ns, rfl, _⟩ := h
    rfl
  · obtain ⟨a, ns, rfl, hs, hlen, q⟩ := h
    refine ⟨_, (pss_cons (ps_asg (pe_call ((ok_l_cell_at T).mono (by decide)) hr rfl T.m_l_cell_at T.d_l_cell_at.F.kp T.d_l_cell_at.b .nil pass0 (pa_cons (pv 0) (pa_cons pe_int pa_nil))) (pg_name (i := 1) sc_law.nd rfl (by first | exact Or.inl rfl | exact Or.inr rfl))) (pss_cons (ps_asg (pe_call ((ok_l_names T).mono (by decide)) hr rfl T.m_l_names T.d_l_names.F.kp T.d_l_names.b .nil pass0 (pa_cons (pe_call ((ok_l_cell_at T).mono (by decide)) hr rfl T.m_l_cell_at T.d_l_cell_at.F.kp T.d_l_cell_at.b .nil pass0 (pa_cons (pv 0) (pa_cons pe_int pa_nil))) pa_nil)) (pg_name (i := 2) sc_law.nd rfl (by first | exact Or.inl rfl | exact Or.inr rfl))) (pss_cons (ps_asg (pe_lst (pa_cons (pe_call ((ok_l_off T).mono (by decide)) hr rfl T.m_l_off T.d_l_off.F.kp T.d_l_off.b .nil pass0 (pa_cons (pe_op op_fdiv (pv 1) pe_int) pa_nil)) (pa_cons (pe_call ((ok_l_off T).mono (by decide)) hr rfl T.m_l_off T.d_l_off.F.kp T.d_l_off.b .nil pass0 (pa_cons (pe_call ((ok_l_cell_at T).mono (by decide)) hr rfl T.m_l_cell_at T.d_l_cell_at.F.kp T.d_l_cell_at.b .nil pass0 (pa_cons (pv 0) (pa_cons pe_int pa_nil))) pa_nil)) pa_nil))) (pg_name (i := 3) sc_law.nd rfl (by first | exact Or.inl rfl | exact Or.inr rfl))) (pss_cons (ps_asg (pe_lst (pa_cons (pe_make T.k_Watch.make ((ok_Watch_init T).mono (by decide)) hr rfl T.k_Watch.at_ T.d_Watch_init.b .nil Ts.pass_never (pa_cons (pe_ix (Ts.ix_listK K) (pv 3) pe_int (fun _ _ => rfl)) pa_nil)) (pa_cons (pe_make T.k_Watch.make ((ok_Watch_init T).mono (by decide)) hr rfl T.k_Watch.at_ T.d_Watch_init.b .nil Ts.pass_never (pa_cons (pe_ix (Ts.ix_listK K) (pv 3) pe_int (fun _ _ => rfl)) pa_nil)) pa_nil))) (pg_name (i := 4) sc_law.nd rfl (by first | exact Or.inl rfl | exact Or.inr rfl))) (pss_cons (ps_asg (pe_lst (pa_cons (pe_lst pa_nil) (pa_cons (pe_lst pa_nil) pa_nil))) (pg_name (i := 5) sc_law.nd rfl (by first | exact Or.inl rfl | exact Or.inr rfl))) (pss_cons (ps_asg (pe_lst pa_nil) (pg_name (i := 6) sc_law.nd rfl (by first | exact Or.inl rfl | exact Or.inr rfl))) (pss_cons (ps_if (pt_not (pt_val (pe_call ((ok_l_filled T).mono (by decide)) hr rfl T.m_l_filled T.d_l_filled.F.kp T.d_l_filled.b .nil pass0 (pa_cons (pe_ix (Ts.ix_listK K) (pv 4) pe_int (fun _ _ => rfl)) (pa_cons (pe_ix (Ts.ix_listK K) (pv 5) pe_int (fun _ _ => rfl)) (pa_cons (pv 1) (pa_cons (pv 2) pa_nil))))))) (pss_one (ps_ret pe_bl)) pss_nil) (pss_cons (ps_for PassesOwn.never rfl (Ts.pi_listK K (pe_slice (Ts.sl_listK K) (pv 0) (po_some pe_int) (po_some (pe_op op_add pe_int (pe_ix (Ts.ix_listK K) (pe_lst (pa_cons pe_int (pa_cons pe_int pa_nil))) (pe_callTy call_int1' (by rfl) T.n_int (by decide +kernel) (pa_cons (pe_cmpR (Ts.op_inK K) (pe_op op_mod (pv 1) pe_int) (pe_tup (pa_cons pe_int (pa_cons pe_int pa_nil))) rfl) pa_nil)) (fun _ _ => rfl)))))) (pg_name (i := 7) sc_law.nd rfl (by first | exact Or.inl rfl | exact Or.inr rfl)) (pss_cons (ps_asg (pe_op op_mod (pe_op op_mod (pe_call ((ok_l_mix T).mono (by decide)) hr rfl T.m_l_mix T.d_l_mix.F.kp T.d_l_mix.b .nil pass0 (pa_cons (pv 7) (pa_cons pe_int pa_nil))) pe_int) pe_int) (pg_name (i := 8) sc_law.nd rfl (by first | exact Or.inl rfl | exact Or.inr rfl))) (pss_cons (ps_if (pt_not (pt_val (pe_call ((ok_l_deed T).mono (by decide)) hr rfl T.m_l_deed T.d_l_deed.F.kp T.d_l_deed.b .nil pass0 (pa_cons (pe_ix (Ts.ix_listK K) (pv 4) (pv 8) (fun _ _ => rfl)) (pa_cons (pe_ix (Ts.ix_listK K) (pv 5) (pv 8) (fun _ _ => rfl)) (pa_cons (pe_ix (Ts.ix_listK K) (pv 3) (pv 8) (fun _ _ => rfl)) (pa_cons (pv 7) (pa_cons (pv 2) (pa_cons (pv 6) pa_nil))))))))) (pss_one (ps_ret pe_bl)) pss_nil) (pss_one (ps_for PassesOwn.never rfl (pi_range1 (by rfl) T.n_range (pa_cons pe_int pa_nil)) (pg_name (i := 9) sc_law.nd rfl (by first | exact Or.inl rfl | exact Or.inr rfl)) (pss_one (ps_if (PW.pt (pw_or (pt_cmpR (Ts.op_neK K hr.units) (Ts.pe_fldK K (pe_ix (Ts.ix_listK K) (pv 4) (pv 9) (fun _ _ => rfl)) rfl) (pe_ix (Ts.ix_listK K) (pv 5) (pv 9) (fun _ _ => rfl)) (nomark _)) (pw_or1 (pt_cmpR op_ne (Ts.pe_fldK K (pe_ix (Ts.ix_listK K) (pv 4) (pv 9) (fun _ _ => rfl)) rfl) (pe_ix (Ts.ix_listK K) (pv 3) (pv 9) (fun _ _ => rfl)) (nomark _))))) (pss_one (ps_ret pe_bl)) pss_nil))))))) (pss_cons (ps_if (PW.pt (pw_and (pt_cmpR op_eq (pe_op op_mod (pv 1) pe_int) pe_int (nomark _)) (pw_and1 (pt_not (pt_val (pe_call ((ok_l_forty T).mono (by decide)) hr rfl T.m_l_forty T.d_l_forty.F.kp T.d_l_forty.b .nil pass0 (pa_cons (pe_ix (Ts.ix_listK K) (pv 4) pe_int (fun _ _ => rfl)) (pa_cons (pe_ix (Ts.ix_listK K) (pv 5) pe_int (fun _ _ => rfl)) (pa_cons (pv 1) (pa_cons (pv 2) pa_nil)))))))))) (pss_one (ps_ret pe_bl)) pss_nil) (pss_cons (ps_for PassesOwn.never rfl (Ts.pi_listK K (pv 6)) (Ts.pg_tupK K 2 (by rfl) (pgs_cons (pg_name (i := 10) sc_law.nd rfl (by first | exact Or.inl rfl | exact Or.inr rfl)) (pgs_cons (pg_name (i := 11) sc_law.nd rfl (by first | exact Or.inl rfl | exact Or.inr rfl)) pgs_nil))) (pss_one (ps_if (pt_cmpR (Ts.op_neK K hr.units) (pv 10) (pv 11) (nomark _)) (pss_one (ps_ret pe_bl)) pss_nil))) (pss_one (ps_ret (pe_call ((ok_l_no_watch T).mono (by decide)) hr rfl T.m_l_no_watch T.d_l_no_watch.F.kp T.d_l_no_watch.b .nil pass0 (pa_cons (pe_ix (Ts.ix_listK K) (pe_lst (pa_cons (pe_un un_neg pe_int) (pa_cons pe_int (pa_cons (pe_op op_sub (pe_un un_neg pe_int) (pe_call ((ok_l_big T).mono (by decide)) hr rfl T.m_l_big T.d_l_big.F.kp T.d_l_big.b .nil pass0 (pa_cons (pv 1) (pa_cons pe_int pa_nil)))) (pa_cons (pe_op op_add pe_int (pe_call ((ok_l_big T).mono (by decide)) hr rfl T.m_l_big T.d_l_big.F.kp T.d_l_big.b .nil pass0 (pa_cons (pv 1) (pa_cons pe_int pa_nil)))) pa_nil))))) (pe_op op_mod (pv 1) pe_int) (fun _ _ => rfl)) pa_nil)))))))))))))), ?_⟩
    walk_at "ts"
    refine q_make ?_
    walk_at "ts"
    rename_i fst efst zc ezc b k pn Hn lb lb2 sn hpn f1 Hf f10 f11 sf zd ezd f2 Hg f20 f21 sg po hpo Ho smo eo
    refine made f10 f11 fun wa1 dx1 la1 H1 nw1 nl1 wl1 s1 hw1 hl1 => ?_
    walk_at "ts"
    refine q_make ?_
    walk_at "ts"
    refine made f20 f21 fun wa2 dx2 la2 H2 nw2 nl2 wl2 s2 hw2 hl2 => ?_
    walk_at "ts"
    rename_i pW npW J1 t1 g1 oa1 noa1 J2 t2 g2 oa2 noa2 J3 t3 g3 pO npO J4 t4 g4 ha nha J5 t5 g5
    have hnm := names_is (k := k) lb lb2
    have hnl : (nmList b k).length = 42 := by simp [nmList]
    have e35 := t4.trans t5
    have e25 := t3.trans e35
    have e15 := t2.trans e25
    have eH2 := t1.trans e15
    have eH1 := s2.trans eH2
    have eHo := s1.trans eH1
    have sHo : Same H Ho := ((sn.trans sf).trans sg).trans smo
    have pnO : Ho pn = some (.lst ((nmList b k).map V.str)) := smo _ _ (sg _ _ (sf _ _ hpn))
    have a1 : J1 la1 = some (.lst []) := t1 _ _ (s2 _ _ hl1)
    have a2 : J1 la2 = some (.lst []) := t1 _ _ hl2
    have S0 : S2 T J5 ⟨wa1, dx1, oa1, la1, f1, []⟩ ⟨wa2, dx2, oa2, la2, f2, []⟩ ha [] [(pn, (nmList b k).map V.str), (po, [.int f1, .int f2]), (pW, [.ref wa1, .ref wa2]), (pO, [.ref oa1, .ref oa2])] := by
      have k1 := e15 _ _ a1
      have k2 := e15 _ _ a2
      have hal : ∀ c o, J4 c = some o → c ≠ ha := fun c o hc => (ne_of_none' hc nha).symm
      have h2n : ∀ c o, J2 c = some o → c ≠ oa2 := fun c o hc => (ne_of_none' hc noa2).symm
      have h1n : ∀ c o, J1 c = some o → c ≠ oa1 := fun c o hc => (ne_of_none' hc noa1).symm
      have hln2 : ∀ c o, H1 c = some o → c ≠ la2 := fun c o hc => (ne_of_none' hc nl2).symm
      have hln1 : ∀ c o, Ho c = some o → c ≠ la1 := fun c o hc => (ne_of_none' hc nl1).symm
      have old : ∀ c o, Ho c = some o → c ≠ la1 ∧ c ≠ oa1 ∧ c ≠ la2 ∧ c ≠ oa2 ∧ c ≠ ha := fun c o hc => ⟨hln1 c o hc, h1n c o (t1 _ _ (s2 _ _ (s1 _ _ hc))), hln2 c o (s1 _ _ hc), h2n c o (t2 _ _ (t1 _ _ (s2 _ _ (s1 _ _ hc)))), hal c o (t4 _ _ (t3 _ _ (t2 _ _ (t1 _ _ (s2 _ _ (s1 _ _ hc))))))⟩
      have nil1 : ∀ (f : Int) (wa dx oa la : Addr), 0 ≤ f → f ≤ 999 → J5 wa = some (.ins T.C_Watch dx [("off", .int f), ("letters", .ref la)]) → J5 la = some (.lst []) → J5 oa = some (.lst []) → la ≠ oa → WS T J5 wa dx oa la f [] := fun f wa dx oa la x0 x1 h1 h2 h3 h4 => ⟨h1, h2, h3, h4, .nil, (fun L hL => by cases hL), by simp, by simp [firsts], x0, x1⟩
      refine ⟨nil1 _ _ _ _ _ f10 f11 (eH1 _ _ hw1) k1 (e25 _ _ g2) (h1n _ _ a1), nil1 _ _ _ _ _ f20 f21 (eH2 _ _ hw2) k2 (e35 _ _ g3) (h2n _ _ (t2 _ _ a2)), (ne_of_none' hw1 nw2).symm, hln2 _ _ hl1, h2n _ _ (t2 _ _ a1), (h1n _ _ a2).symm, h2n _ _ g2, (hal _ _ (t4 _ _ (t3 _ _ (t2 _ _ a1)))).symm, (hal _ _ (t4 _ _ (t3 _ _ g2))).symm, (hal _ _ (t4 _ _ (t3 _ _ (t2 _ _ a2)))).symm, (hal _ _ (t4 _ _ g3)).symm, g5, (fun p hp => by cases hp), fun p hp => ?_⟩
      simp only [List.mem_cons, List.not_mem_nil, or_false] at hp
      rcases hp with rfl | rfl | rfl | rfl
      · exact ⟨eHo _ _ pnO, old _ _ pnO⟩
      · exact ⟨eHo _ _ eo, old _ _ eo⟩
      · exact ⟨e15 _ _ g1, ne_of_none' (s2 _ _ hl1) npW, h1n _ _ g1, ne_of_none' hl2 npW, h2n _ _ (t2 _ _ g1), hal _ _ (t4 _ _ (t3 _ _ (t2 _ _ g1)))⟩
      · exact ⟨t5 _ _ g4, ne_of_none' (t3 _ _ (t2 _ _ a1)) npO, ne_of_none' (t3 _ _ g2) npO, ne_of_none' (t3 _ _ (t2 _ _ a2)) npO, ne_of_none' g3 npO, hal _ _ g4⟩
    have pn5 := S0.sl (pn, (nmList b k).map V.str) (by simp)
    refine c_l_filled S0.x pn5.1 pn5.2.1 pn5.2.2.1 hnl hnm fun H6 ps6 ws6 st6 => ?_
    have S6 := S2.step (add := []) S0 (.inl rfl) (.inl rfl) ws6 (by rw [List.map_nil, List.append_nil]; exact st6.fr _ _ S0.h (ne_of S0.h S0.x.w (by intro z; cases z)) S0.hx S0.hx2) (fun p hp => by cases hp) (fun c o hc h1 h2 h3 _ => st6.fr c o hc h1 h2 h3) st6.ts
    have s06 : Same H H6 := fun c o hc => by
      have hc2 := sHo _ _ hc
      exact st6.fr c o (eHo _ _ hc2) (ne_of_none hc2 nw1) (ne_of_none hc2 nl1) (ne_of_none (t1 _ _ (s2 _ _ (s1 _ _ hc2))) noa1)
    have hs6 : SqL K H6 a (ns.map V.int) := s06.seq hs
    rw [List.append_nil] at S6
    clear S0 e35 e25 e15 eH2 eH1 eHo a1 a2 pn5 st6 s06 hs
    walk_at "ts"
    rename_i q1 hq1 K1 u1 v1 q2 hq2 K2 u2 v2
    refine q_in12 v2 fun bb => ?_
    walk_at "ts"
    refine Ts.q_ixB 10 30 (sqL_of (u2 _ _ v1)) (by omega) (by simp; omega) (by walk_at "ts allin") fun m m0 m1 => ?_
    walk_at "ts"
    refine q_slLst ((u1.trans u2).seq hs6) fun pc K3 u3 f3 e3 => ?_
    obtain ⟨ms, em, _, hml⟩ := cutV_mem V.int ns (some 2) (some (2 + m))
    rw [em] at e3
    have S7 := S6.more ((u1.trans u2).trans u3) (Same.free (u1.trans u2) f3) e3
    clear S6 hs6 u1 u2 u3 v1 v2 f3
    generalize hSL : ([(pc, ms.map V.int), (pn, (nmList b k).map V.str), (po, [V.int f1, .int f2]), (pW, [V.ref wa1, .ref wa2]), (pO, [V.ref oa1, .ref oa2])] : List (Addr × List V)) = SL at *
    have mC : (pc, ms.map V.int) ∈ SL := by rw [← hSL]; simp
    have mN : (pn, (nmList b k).map V.str) ∈ SL := by rw [← hSL]; simp
    have mF : (po, [V.int f1, .int f2]) ∈ SL := by rw [← hSL]; simp
    have mW : (pW, [V.ref wa1, .ref wa2]) ∈ SL := by rw [← hSL]; simp
    have mO : (pO, [V.ref oa1, .ref oa2]) ∈ SL := by rw [← hSL]; simp
    walk_at "ts"
    refine Ts.q_forL (ms.map V.int) (sqL_of e3) (fun i σ' H' => ∃ (v7 v8 v9 : Option V) (l1 l2 : Addr) (p1 p2 : List LV) (its : List (V × HI)), σ' = [some (.ref a), some (.int fst), some (.ref pn), some (.ref po), some (.ref pW), some (.ref pO), some (.ref ha), v7, v8, v9, none, none] ∧ its.length ≤ i ∧ S2 T H' ⟨wa1, dx1, oa1, l1, f1, p1⟩ ⟨wa2, dx2, oa2, l2, f2, p2⟩ ha its SL)
      ⟨none, none, none, la1, la2, ps6, [], [], rfl, Nat.le_refl _, S7⟩ (fun i σ' H' ⟨_, _, _, _, _, _, _, _, _, _, s⟩ => sqL_of (s.sl _ mC).1) ?_ ?_
    · rintro i x σ' H' hx ⟨v7, v8, v9, l1, l2, p1, p2, its, rfl, hil, S⟩
      have hims : i < ms.length := by
        have := (List.getElem?_eq_some_iff.mp hx).1
        rwa [List.length_map] at this
      obtain ⟨c, _, rfl⟩ := map_at hx
      have lW := (S.sl _ mW).1
      have lO := (S.sl _ mO).1
      have lF := (S.sl _ mF).1
      have lN := (S.sl _ mN).1
      have hL : (its.map Prod.fst).length ≤ 1000 := by rw [List.length_map]; omega
      walk_at "ts toif"
      rename_i at_ eat at0 at1
      refine Ts.q_joinS (fun σ2 H2 => σ2 = [some (.ref a), some (.int fst), some (.ref pn), some (.ref po), some (.ref pW), some (.ref pO), some (.ref ha), some (.int c), some (.int (at_ % 3 % 2)), v9, none, none] ∧ ∃ (l1 l2 : Addr) (p1 p2 : List LV) (its : List (V × HI)), its.length ≤ i + 1 ∧ S2 T H2 ⟨wa1, dx1, oa1, l1, f1, p1⟩ ⟨wa2, dx2, oa2, l2, f2, p2⟩ ha its SL) ?_ ?_
      rotate_left
      · intro nx' hnx
        obtain h0 | h0 : at_ % 3 % 2 = 0 ∨ at_ % 3 % 2 = 1 := by omega
        · rw [h0] at hnx ⊢
          walk_at "ts"
          refine c_l_deed S.x lN hnl hnm S.h hL S.hx S.hx2 fun H2 l1' p1' add n no hal ws2 hh2 had fr ts dm => ?_
          walk_at "ts"
          exact hnx _ _ ⟨rfl, l1', l2, p1', p2, its ++ add, by rw [List.length_append]; omega, S2.step S n no ws2 hh2 had fr ts⟩
        · rw [h0] at hnx ⊢
          walk_at "ts"
          refine c_l_deed S.y lN hnl hnm S.h hL S.hy S.hy2 fun H2 l2' p2' add n no hal ws2 hh2 had fr ts dm => ?_
          walk_at "ts"
          exact hnx _ _ ⟨rfl, l1, l2', p1, p2', its ++ add, by rw [List.length_append]; omega, (S2.step S.swap n no ws2 hh2 had fr ts).swap⟩
      rintro σ2 H2 ⟨rfl, l1, l2, p1, p2, its, hil2, S'⟩
      clear S lW lO lF lN hL
      have lW := (S'.sl _ mW).1
      have lO := (S'.sl _ mO).1
      have lF := (S'.sl _ mF).1
      have names : ∀ {x : WW}, WSr T H2 x → ∀ L ∈ lsOf x.ps, (dLt L).canLay0 = true ∧ (dLt L).depth ≤ 10 := fun w L hL => ok_dLt L (w.ok L hL).1.2.2.ok
      walk_at "ts"
      refine Ts.q_forR (by omega) (by omega) (fun j σ3 H3 => ∃ v9 : Option V, σ3 = [some (.ref a), some (.int fst), some (.ref pn), some (.ref po), some (.ref pW), some (.ref pO), some (.ref ha), some (.int c), some (.int (at_ % 3 % 2)), v9, none, none] ∧ H3 = H2) ⟨v9, rfl, rfl⟩ ?_ ?_
      · rintro j σ3 H3 hj ⟨v9', rfl, rfl⟩
        obtain rfl | rfl : j = 0 ∨ j = 1 := by omega
        · walk_at "ts"
          refine q_fld ?_
          walk_at "ts"
          try refine Ts.q_ixL (sqL_of lW) (atI_nat (j := 0) rfl) ?_
          refine q_letters T S'.x.w ?_
          walk_at "ts"
          try refine Ts.q_ixL (sqL_of lO) (atI_nat (j := 0) rfl) ?_
          refine Ts.q_neSame (dp_lst (fun _ _ h => dp_lt h) S'.x.l S'.x.lt) (dp_lst (fun _ _ h => dp_lt h) S'.x.o S'.x.lt) (shaped_list _ (names S'.x)) ?_
          walk_at "ts"
          refine q_fld ?_
          walk_at "ts"
          try refine Ts.q_ixL (sqL_of lW) (atI_nat (j := 0) rfl) ?_
          refine q_offF T S'.x.w ?_
          walk_at "ts"
          try refine Ts.q_ixL (sqL_of lF) (atI_nat (j := 0) rfl) ?_
          walk_at "ts"
          refine Ts.q_iteN (fun z => absurd rfl z) (fun _ => ?_)
          walk_at "ts"
          exact ⟨_, rfl, rfl⟩
        · walk_at "ts"
          refine q_fld ?_
          walk_at "ts"
          try refine Ts.q_ixL (sqL_of lW) (atI_nat (j := 1) rfl) ?_
          refine q_letters T S'.y.w ?_
          walk_at "ts"
          try refine Ts.q_ixL (sqL_of lO) (atI_nat (j := 1) rfl) ?_
          refine Ts.q_neSame (dp_lst (fun _ _ h => dp_lt h) S'.y.l S'.y.lt) (dp_lst (fun _ _ h => dp_lt h) S'.y.o S'.y.lt) (shaped_list _ (names S'.y)) ?_
          walk_at "ts"
          refine q_fld ?_
          walk_at "ts"
          try refine Ts.q_ixL (sqL_of lW) (atI_nat (j := 1) rfl) ?_
          refine q_offF T S'.y.w ?_
          walk_at "ts"
          try refine Ts.q_ixL (sqL_of lF) (atI_nat (j := 1) rfl) ?_
          walk_at "ts"
          refine Ts.q_iteN (fun z => absurd rfl z) (fun _ => ?_)
          walk_at "ts"
          exact ⟨_, rfl, rfl⟩
      · rintro σ3 H3 ⟨v9', rfl, rfl⟩
        walk_at "ts"
        exact ⟨_, _, _, l1, l2, p1, p2, its, rfl, hil2, S'⟩
    · rintro σ' H' ⟨v7, v8, v9, l1, l2, p1, p2, its, rfl, hil, S⟩
      have lN := S.sl _ mN
      have lW := (S.sl _ mW).1
      have lO := (S.sl _ mO).1
      walk_at "ts toif"
      refine Ts.q_joinS (fun σ2 H2 => σ2 = [some (.ref a), some (.int fst), some (.ref pn), some (.ref po), some (.ref pW), some (.ref pO), some (.ref ha), v7, v8, v9, none, none] ∧ ∃ (l1 l2 : Addr) (p1 p2 : List LV), S2 T H2 ⟨wa1, dx1, oa1, l1, f1, p1⟩ ⟨wa2, dx2, oa2, l2, f2, p2⟩ ha its SL) ?_ ?_
      rotate_left
      · intro nx' hnx
        walk_at "ts"
        refine Ts.q_iteD (fun h => ?_) (fun h => ?_)
        · walk_at "ts"
          refine c_l_forty S.x lN.1 lN.2.1 lN.2.2.1 hnl hnm fun H2 l1' p1' n ws2 st2 => ?_
          have S2' := S2.step (add := []) S n (.inl rfl) ws2 (by rw [List.map_nil, List.append_nil]; exact st2.fr _ _ S.h (ne_of S.h S.x.w (by intro z; cases z)) S.hx S.hx2) (fun p hp => by cases hp) (fun c o hc h1 h2 h3 _ => st2.fr c o hc h1 h2 h3) st2.ts
          rw [List.append_nil] at S2'
          walk_at "ts"
          exact hnx _ _ ⟨rfl, l1', l2, p1', p2, S2'⟩
        · walk_at "ts"
          exact hnx _ _ ⟨rfl, l1, l2, p1, p2, S⟩
      rintro σ2 H2 ⟨rfl, l1, l2, p1, p2, S'⟩
      clear S lN lW lO
      walk_at "ts"
      refine Ts.q_forL (its.map Prod.fst) (sqL_of S'.h) (fun i σ3 H3 => ∃ v10 v11 : Option V, σ3 = [some (.ref a), some (.int fst), some (.ref pn), some (.ref po), some (.ref pW), some (.ref pO), some (.ref ha), v7, v8, v9, v10, v11] ∧ H3 = H2) ⟨none, none, rfl, rfl⟩ (fun i σ3 H3 ⟨_, _, _, e⟩ => by rw [e]; exact sqL_of S'.h) ?_ ?_
      · rintro i x σ3 H3 hx ⟨v10, v11, rfl, rfl⟩
        obtain ⟨p, hp, rfl⟩ := List.mem_map.mp (List.mem_of_getElem? hx)
        have hd := (S'.it p hp).1
        obtain ⟨t, et, ht⟩ := hd.t
        rw [et]
        walk_at "ts"
        refine Ts.q_neSame (dp_sure hd.p hd.pw hd.ps hd.pr) (dp_sure hd.q hd.pw2 hd.ps2 hd.pr) (shaped_sure _ _ _ hd.ok) ?_
        walk_at "ts"
        exact ⟨_, _, rfl, rfl⟩
      · rintro σ3 H3 ⟨v10, v11, rfl, rfl⟩
        walk_at "ts"
        refine Ts.q_ixAny (by walk_at "ts sq") (by omega) (by simp; omega) fun v hv => ?_
        obtain ⟨fo, rfl, ho⟩ : ∃ fo, v = V.int fo ∧ ¬ (0 ≤ fo ∧ fo ≤ 999) := by
          simp only [List.mem_cons, List.not_mem_nil, or_false] at hv
          rcases hv with rfl | rfl | rfl | rfl <;> exact ⟨_, rfl, by omega⟩
        walk_at "ts"
        exact c_l_no_watch ho fun H4 => q H4

end Law



namespace Law
open PySem PySem.Spec PyProof.Rows L2 Ts
theorem all_mk {l : PySem.W.OpenLaw} {w : World} {K : PySem.W.Frag} {h : Heap} {mg : Str → Option Value} {fa : Addr} (X : K.In h) (G : h.Ns mainGlobals mg) (hfa : mg "law" = some (.ref fa))
    {C_Watch : Addr}
    {C_NoText : Addr}
    {C_NoClock : Addr}
    {C_TooMany : Addr}
    {C_TooWide : Addr}
    {C_NoAgreement : Addr}
    {C_BadCount : Addr}
    {C_TooEarly : Addr}
    {C_BadOff : Addr}
    {C_BadLetter : Addr}
    {C_BadName : Addr}
    {C_StretchError : Addr}
    {f1 : Addr} {od1 an1 : Option Addr} {sl1 : Array (Option Value)} {oc1 kV1 dc1 pm1 cd1 ct1 : Value}
    {f2 : Addr} {od2 an2 : Option Addr} {sl2 : Array (Option Value)} {oc2 kV2 dc2 pm2 cd2 ct2 : Value}
    {f3 : Addr} {od3 an3 : Option Addr} {sl3 : Array (Option Value)} {oc3 kV3 dc3 pm3 cd3 ct3 : Value}
    {f4 : Addr} {od4 an4 : Option Addr} {sl4 : Array (Option Value)} {oc4 kV4 dc4 pm4 cd4 ct4 : Value}
    {f5 : Addr} {od5 an5 : Option Addr} {sl5 : Array (Option Value)} {oc5 kV5 dc5 pm5 cd5 ct5 : Value}
    {f6 : Addr} {od6 an6 : Option Addr} {sl6 : Array (Option Value)} {oc6 kV6 dc6 pm6 cd6 ct6 : Value}
    {f7 : Addr} {od7 an7 : Option Addr} {sl7 : Array (Option Value)} {oc7 kV7 dc7 pm7 cd7 ct7 : Value}
    {f8 : Addr} {od8 an8 : Option Addr} {sl8 : Array (Option Value)} {oc8 kV8 dc8 pm8 cd8 ct8 : Value}
    {f9 : Addr} {od9 an9 : Option Addr} {sl9 : Array (Option Value)} {oc9 kV9 dc9 pm9 cd9 ct9 : Value}
    {f10 : Addr} {od10 an10 : Option Addr} {sl10 : Array (Option Value)} {oc10 kV10 dc10 pm10 cd10 ct10 : Value}
    {f11 : Addr} {od11 an11 : Option Addr} {sl11 : Array (Option Value)} {oc11 kV11 dc11 pm11 cd11 ct11 : Value}
    {dT11 : Addr} {tc11 : Value} {td11 : Option Addr} {tn11 : Nat} {ts11 : Array (Option Value)}
    {f12 : Addr} {od12 an12 : Option Addr} {sl12 : Array (Option Value)} {oc12 kV12 dc12 pm12 cd12 ct12 : Value}
    {f13 : Addr} {od13 an13 : Option Addr} {sl13 : Array (Option Value)} {oc13 kV13 dc13 pm13 cd13 ct13 : Value}
    {f14 : Addr} {od14 an14 : Option Addr} {sl14 : Array (Option Value)} {oc14 kV14 dc14 pm14 cd14 ct14 : Value}
    {f15 : Addr} {od15 an15 : Option Addr} {sl15 : Array (Option Value)} {oc15 kV15 dc15 pm15 cd15 ct15 : Value}
    {dT15 : Addr} {tc15 : Value} {td15 : Option Addr} {tn15 : Nat} {ts15 : Array (Option Value)}
    {f16 : Addr} {od16 an16 : Option Addr} {sl16 : Array (Option Value)} {oc16 kV16 dc16 pm16 cd16 ct16 : Value}
    {f17 : Addr} {od17 an17 : Option Addr} {sl17 : Array (Option Value)} {oc17 kV17 dc17 pm17 cd17 ct17 : Value}
    {f18 : Addr} {od18 an18 : Option Addr} {sl18 : Array (Option Value)} {oc18 kV18 dc18 pm18 cd18 ct18 : Value}
    {f19 : Addr} {od19 an19 : Option Addr} {sl19 : Array (Option Value)} {oc19 kV19 dc19 pm19 cd19 ct19 : Value}
    {f20 : Addr} {od20 an20 : Option Addr} {sl20 : Array (Option Value)} {oc20 kV20 dc20 pm20 cd20 ct20 : Value}
    {f21 : Addr} {od21 an21 : Option Addr} {sl21 : Array (Option Value)} {oc21 kV21 dc21 pm21 cd21 ct21 : Value}
    {f22 : Addr} {od22 an22 : Option Addr} {sl22 : Array (Option Value)} {oc22 kV22 dc22 pm22 cd22 ct22 : Value}
    {f23 : Addr} {od23 an23 : Option Addr} {sl23 : Array (Option Value)} {oc23 kV23 dc23 pm23 cd23 ct23 : Value}
    {f24 : Addr} {od24 an24 : Option Addr} {sl24 : Array (Option Value)} {oc24 kV24 dc24 pm24 cd24 ct24 : Value}
    {f25 : Addr} {od25 an25 : Option Addr} {sl25 : Array (Option Value)} {oc25 kV25 dc25 pm25 cd25 ct25 : Value}
    {f26 : Addr} {od26 an26 : Option Addr} {sl26 : Array (Option Value)} {oc26 kV26 dc26 pm26 cd26 ct26 : Value}
    {f27 : Addr} {od27 an27 : Option Addr} {sl27 : Array (Option Value)} {oc27 kV27 dc27 pm27 cd27 ct27 : Value}
    {f28 : Addr} {od28 an28 : Option Addr} {sl28 : Array (Option Value)} {oc28 kV28 dc28 pm28 cd28 ct28 : Value}
    {f29 : Addr} {od29 an29 : Option Addr} {sl29 : Array (Option Value)} {oc29 kV29 dc29 pm29 cd29 ct29 : Value}
    {f30 : Addr} {od30 an30 : Option Addr} {sl30 : Array (Option Value)} {oc30 kV30 dc30 pm30 cd30 ct30 : Value}
    {f31 : Addr} {od31 an31 : Option Addr} {sl31 : Array (Option Value)} {oc31 kV31 dc31 pm31 cd31 ct31 : Value}
    {f32 : Addr} {od32 an32 : Option Addr} {sl32 : Array (Option Value)} {oc32 kV32 dc32 pm32 cd32 ct32 : Value}
    {f33 : Addr} {od33 an33 : Option Addr} {sl33 : Array (Option Value)} {oc33 kV33 dc33 pm33 cd33 ct33 : Value}
    {f34 : Addr} {od34 an34 : Option Addr} {sl34 : Array (Option Value)} {oc34 kV34 dc34 pm34 cd34 ct34 : Value}
    {f35 : Addr} {od35 an35 : Option Addr} {sl35 : Array (Option Value)} {oc35 kV35 dc35 pm35 cd35 ct35 : Value}
    {f36 : Addr} {od36 an36 : Option Addr} {sl36 : Array (Option Value)} {oc36 kV36 dc36 pm36 cd36 ct36 : Value}
    {f37 : Addr} {od37 an37 : Option Addr} {sl37 : Array (Option Value)} {oc37 kV37 dc37 pm37 cd37 ct37 : Value}
    {f38 : Addr} {od38 an38 : Option Addr} {sl38 : Array (Option Value)} {oc38 kV38 dc38 pm38 cd38 ct38 : Value}
    {f39 : Addr} {od39 an39 : Option Addr} {sl39 : Array (Option Value)} {oc39 kV39 dc39 pm39 cd39 ct39 : Value}
    {f40 : Addr} {od40 an40 : Option Addr} {sl40 : Array (Option Value)} {oc40 kV40 dc40 pm40 cd40 ct40 : Value}
    {f41 : Addr} {od41 an41 : Option Addr} {sl41 : Array (Option Value)} {oc41 kV41 dc41 pm41 cd41 ct41 : Value}
    {f42 : Addr} {od42 an42 : Option Addr} {sl42 : Array (Option Value)} {oc42 kV42 dc42 pm42 cd42 ct42 : Value}
    {tk0 : Tok}
    {tk1 : Tok}
    {tk2 : Tok}
    {tk3 : Tok}
    {tk4 : Tok}
    {tk5 : Tok}
    (a1 : PySem.W.nsIn K mainGlobals "is_name" = some (some (.ref f1)))
    (l1 : K.lookup f1 = some ⟨oc1, od1, .func (PySem.W.fnOf "is_name" "is_name" (defArgs s_is_name) (defBody s_is_name) (defScope s_is_name) .none kV1 dc1 pm1 an1 cd1 ct1), sl1⟩)
    (c1 : PySem.W.codeIn K cd1 "is_name" = true)
    (k1 : PySem.W.keepIn K (.ref f1) = true)
    (a2 : PySem.W.nsIn K mainGlobals "checked" = some (some (.ref f2)))
    (l2 : K.lookup f2 = some ⟨oc2, od2, .func (PySem.W.fnOf "checked" "checked" (defArgs s_checked) (defBody s_checked) (defScope s_checked) .none kV2 dc2 pm2 an2 cd2 ct2), sl2⟩)
    (c2 : PySem.W.codeIn K cd2 "checked" = true)
    (k2 : PySem.W.keepIn K (.ref f2) = true)
    (a3 : PySem.W.nsIn K mainGlobals "need_off" = some (some (.ref f3)))
    (l3 : K.lookup f3 = some ⟨oc3, od3, .func (PySem.W.fnOf "need_off" "need_off" (defArgs s_need_off) (defBody s_need_off) (defScope s_need_off) .none kV3 dc3 pm3 an3 cd3 ct3), sl3⟩)
    (c3 : PySem.W.codeIn K cd3 "need_off" = true)
    (k3 : PySem.W.keepIn K (.ref f3) = true)
    (a4 : PySem.W.nsIn K mainGlobals "slack" = some (some (.ref f4)))
    (l4 : K.lookup f4 = some ⟨oc4, od4, .func (PySem.W.fnOf "slack" "slack" (defArgs s_slack) (defBody s_slack) (defScope s_slack) .none kV4 dc4 pm4 an4 cd4 ct4), sl4⟩)
    (c4 : PySem.W.codeIn K cd4 "slack" = true)
    (k4 : PySem.W.keepIn K (.ref f4) = true)
    (a5 : PySem.W.nsIn K mainGlobals "brought" = some (some (.ref f5)))
    (l5 : K.lookup f5 = some ⟨oc5, od5, .func (PySem.W.fnOf "brought" "brought" (defArgs s_brought) (defBody s_brought) (defScope s_brought) .none kV5 dc5 pm5 an5 cd5 ct5), sl5⟩)
    (c5 : PySem.W.codeIn K cd5 "brought" = true)
    (k5 : PySem.W.keepIn K (.ref f5) = true)
    (a6 : PySem.W.nsIn K mainGlobals "common" = some (some (.ref f6)))
    (l6 : K.lookup f6 = some ⟨oc6, od6, .func (PySem.W.fnOf "common" "common" (defArgs s_common) (defBody s_common) (defScope s_common) .none kV6 dc6 pm6 an6 cd6 ct6), sl6⟩)
    (c6 : PySem.W.codeIn K cd6 "common" = true)
    (k6 : PySem.W.keepIn K (.ref f6) = true)
    (a7 : PySem.W.nsIn K mainGlobals "gathered" = some (some (.ref f7)))
    (l7 : K.lookup f7 = some ⟨oc7, od7, .func (PySem.W.fnOf "gathered" "gathered" (defArgs s_gathered) (defBody s_gathered) (defScope s_gathered) .none kV7 dc7 pm7 an7 cd7 ct7), sl7⟩)
    (c7 : PySem.W.codeIn K cd7 "gathered" = true)
    (k7 : PySem.W.keepIn K (.ref f7) = true)
    (a8 : PySem.W.nsIn K mainGlobals "turns" = some (some (.ref f8)))
    (l8 : K.lookup f8 = some ⟨oc8, od8, .func (PySem.W.fnOf "turns" "turns" (defArgs s_turns) (defBody s_turns) (defScope s_turns) .none kV8 dc8 pm8 an8 cd8 ct8), sl8⟩)
    (c8 : PySem.W.codeIn K cd8 "turns" = true)
    (k8 : PySem.W.keepIn K (.ref f8) = true)
    (a9 : PySem.W.nsIn K mainGlobals "parts" = some (some (.ref f9)))
    (l9 : K.lookup f9 = some ⟨oc9, od9, .func (PySem.W.fnOf "parts" "parts" (defArgs s_parts) (defBody s_parts) (defScope s_parts) .none kV9 dc9 pm9 an9 cd9 ct9), sl9⟩)
    (c9 : PySem.W.codeIn K cd9 "parts" = true)
    (k9 : PySem.W.keepIn K (.ref f9) = true)
    (a10 : PySem.W.nsIn K mainGlobals "meets" = some (some (.ref f10)))
    (l10 : K.lookup f10 = some ⟨oc10, od10, .func (PySem.W.fnOf "meets" "meets" (defArgs s_meets) (defBody s_meets) (defScope s_meets) .none kV10 dc10 pm10 an10 cd10 ct10), sl10⟩)
    (c10 : PySem.W.codeIn K cd10 "meets" = true)
    (k10 : PySem.W.keepIn K (.ref f10) = true)
    (a11 : PySem.W.nsIn K mainGlobals "sure" = some (some (.ref f11)))
    (l11 : K.lookup f11 = some ⟨oc11, od11, .func (PySem.W.fnOf "sure" "sure" (defArgs s_sure) (defBody s_sure) (defScope s_sure) (.ref dT11) kV11 dc11 pm11 an11 cd11 ct11), sl11⟩)
    (c11 : PySem.W.codeIn K cd11 "sure" = true)
    (k11 : PySem.W.keepIn K (.ref f11) = true)
    (t11 : K.lookup dT11 = some ⟨tc11, td11, .seq #[.none] tn11, ts11⟩)
    (a12 : PySem.W.findIn K (.ref C_Watch) "__init__" = some (some (.ref f12)))
    (l12 : K.lookup f12 = some ⟨oc12, od12, .func (PySem.W.fnOf "__init__" "Watch.__init__" (defArgs s_Watch_init) (defBody s_Watch_init) (defScope s_Watch_init) .none kV12 dc12 pm12 an12 cd12 ct12), sl12⟩)
    (c12 : PySem.W.codeIn K cd12 "Watch.__init__" = true)
    (k12 : PySem.W.keepIn K (.ref f12) = true)
    (i12 : PySem.W.isFn K (.ref f12) = true)
    (a13 : PySem.W.findIn K (.ref C_Watch) "put" = some (some (.ref f13)))
    (l13 : K.lookup f13 = some ⟨oc13, od13, .func (PySem.W.fnOf "put" "Watch.put" (defArgs s_Watch_put) (defBody s_Watch_put) (defScope s_Watch_put) .none kV13 dc13 pm13 an13 cd13 ct13), sl13⟩)
    (c13 : PySem.W.codeIn K cd13 "Watch.put" = true)
    (k13 : PySem.W.keepIn K (.ref f13) = true)
    (i13 : PySem.W.isFn K (.ref f13) = true)
    (a14 : PySem.W.findIn K (.ref C_Watch) "drop" = some (some (.ref f14)))
    (l14 : K.lookup f14 = some ⟨oc14, od14, .func (PySem.W.fnOf "drop" "Watch.drop" (defArgs s_Watch_drop) (defBody s_Watch_drop) (defScope s_Watch_drop) .none kV14 dc14 pm14 an14 cd14 ct14), sl14⟩)
    (c14 : PySem.W.codeIn K cd14 "Watch.drop" = true)
    (k14 : PySem.W.keepIn K (.ref f14) = true)
    (i14 : PySem.W.isFn K (.ref f14) = true)
    (a15 : PySem.W.findIn K (.ref C_Watch) "told" = some (some (.ref f15)))
    (l15 : K.lookup f15 = some ⟨oc15, od15, .func (PySem.W.fnOf "told" "Watch.told" (defArgs s_Watch_told) (defBody s_Watch_told) (defScope s_Watch_told) (.ref dT15) kV15 dc15 pm15 an15 cd15 ct15), sl15⟩)
    (c15 : PySem.W.codeIn K cd15 "Watch.told" = true)
    (k15 : PySem.W.keepIn K (.ref f15) = true)
    (t15 : K.lookup dT15 = some ⟨tc15, td15, .seq #[.none] tn15, ts15⟩)
    (i15 : PySem.W.isFn K (.ref f15) = true)
    (a16 : PySem.W.nsIn K mainGlobals "_law_whole" = some (some (.ref f16)))
    (l16 : K.lookup f16 = some ⟨oc16, od16, .func (PySem.W.fnOf "_law_whole" "_law_whole" (defArgs s_l_whole) (defBody s_l_whole) (defScope s_l_whole) .none kV16 dc16 pm16 an16 cd16 ct16), sl16⟩)
    (c16 : PySem.W.codeIn K cd16 "_law_whole" = true)
    (k16 : PySem.W.keepIn K (.ref f16) = true)
    (a17 : PySem.W.nsIn K mainGlobals "_law_cell_at" = some (some (.ref f17)))
    (l17 : K.lookup f17 = some ⟨oc17, od17, .func (PySem.W.fnOf "_law_cell_at" "_law_cell_at" (defArgs s_l_cell_at) (defBody s_l_cell_at) (defScope s_l_cell_at) .none kV17 dc17 pm17 an17 cd17 ct17), sl17⟩)
    (c17 : PySem.W.codeIn K cd17 "_law_cell_at" = true)
    (k17 : PySem.W.keepIn K (.ref f17) = true)
    (a18 : PySem.W.nsIn K mainGlobals "_law_mix" = some (some (.ref f18)))
    (l18 : K.lookup f18 = some ⟨oc18, od18, .func (PySem.W.fnOf "_law_mix" "_law_mix" (defArgs s_l_mix) (defBody s_l_mix) (defScope s_l_mix) .none kV18 dc18 pm18 an18 cd18 ct18), sl18⟩)
    (c18 : PySem.W.codeIn K cd18 "_law_mix" = true)
    (k18 : PySem.W.keepIn K (.ref f18) = true)
    (a19 : PySem.W.nsIn K mainGlobals "_law_big" = some (some (.ref f19)))
    (l19 : K.lookup f19 = some ⟨oc19, od19, .func (PySem.W.fnOf "_law_big" "_law_big" (defArgs s_l_big) (defBody s_l_big) (defScope s_l_big) .none kV19 dc19 pm19 an19 cd19 ct19), sl19⟩)
    (c19 : PySem.W.codeIn K cd19 "_law_big" = true)
    (k19 : PySem.W.keepIn K (.ref f19) = true)
    (a20 : PySem.W.nsIn K mainGlobals "_law_off" = some (some (.ref f20)))
    (l20 : K.lookup f20 = some ⟨oc20, od20, .func (PySem.W.fnOf "_law_off" "_law_off" (defArgs s_l_off) (defBody s_l_off) (defScope s_l_off) .none kV20 dc20 pm20 an20 cd20 ct20), sl20⟩)
    (c20 : PySem.W.codeIn K cd20 "_law_off" = true)
    (k20 : PySem.W.keepIn K (.ref f20) = true)
    (a21 : PySem.W.nsIn K mainGlobals "_law_slack" = some (some (.ref f21)))
    (l21 : K.lookup f21 = some ⟨oc21, od21, .func (PySem.W.fnOf "_law_slack" "_law_slack" (defArgs s_l_slack) (defBody s_l_slack) (defScope s_l_slack) .none kV21 dc21 pm21 an21 cd21 ct21), sl21⟩)
    (c21 : PySem.W.codeIn K cd21 "_law_slack" = true)
    (k21 : PySem.W.keepIn K (.ref f21) = true)
    (a22 : PySem.W.nsIn K mainGlobals "_law_brought" = some (some (.ref f22)))
    (l22 : K.lookup f22 = some ⟨oc22, od22, .func (PySem.W.fnOf "_law_brought" "_law_brought" (defArgs s_l_brought) (defBody s_l_brought) (defScope s_l_brought) .none kV22 dc22 pm22 an22 cd22 ct22), sl22⟩)
    (c22 : PySem.W.codeIn K cd22 "_law_brought" = true)
    (k22 : PySem.W.keepIn K (.ref f22) = true)
    (a23 : PySem.W.nsIn K mainGlobals "_law_kind" = some (some (.ref f23)))
    (l23 : K.lookup f23 = some ⟨oc23, od23, .func (PySem.W.fnOf "_law_kind" "_law_kind" (defArgs s_l_kind) (defBody s_l_kind) (defScope s_l_kind) .none kV23 dc23 pm23 an23 cd23 ct23), sl23⟩)
    (c23 : PySem.W.codeIn K cd23 "_law_kind" = true)
    (k23 : PySem.W.keepIn K (.ref f23) = true)
    (a24 : PySem.W.nsIn K mainGlobals "_law_word" = some (some (.ref f24)))
    (l24 : K.lookup f24 = some ⟨oc24, od24, .func (PySem.W.fnOf "_law_word" "_law_word" (defArgs s_l_word) (defBody s_l_word) (defScope s_l_word) .none kV24 dc24 pm24 an24 cd24 ct24), sl24⟩)
    (c24 : PySem.W.codeIn K cd24 "_law_word" = true)
    (k24 : PySem.W.keepIn K (.ref f24) = true)
    (a25 : PySem.W.nsIn K mainGlobals "_law_names" = some (some (.ref f25)))
    (l25 : K.lookup f25 = some ⟨oc25, od25, .func (PySem.W.fnOf "_law_names" "_law_names" (defArgs s_l_names) (defBody s_l_names) (defScope s_l_names) .none kV25 dc25 pm25 an25 cd25 ct25), sl25⟩)
    (c25 : PySem.W.codeIn K cd25 "_law_names" = true)
    (k25 : PySem.W.keepIn K (.ref f25) = true)
    (a26 : PySem.W.nsIn K mainGlobals "_law_letter" = some (some (.ref f26)))
    (l26 : K.lookup f26 = some ⟨oc26, od26, .func (PySem.W.fnOf "_law_letter" "_law_letter" (defArgs s_l_letter) (defBody s_l_letter) (defScope s_l_letter) .none kV26 dc26 pm26 an26 cd26 ct26), sl26⟩)
    (c26 : PySem.W.codeIn K cd26 "_law_letter" = true)
    (k26 : PySem.W.keepIn K (.ref f26) = true)
    (a27 : PySem.W.nsIn K mainGlobals "_law_gathered" = some (some (.ref f27)))
    (l27 : K.lookup f27 = some ⟨oc27, od27, .func (PySem.W.fnOf "_law_gathered" "_law_gathered" (defArgs s_l_gathered) (defBody s_l_gathered) (defScope s_l_gathered) .none kV27 dc27 pm27 an27 cd27 ct27), sl27⟩)
    (c27 : PySem.W.codeIn K cd27 "_law_gathered" = true)
    (k27 : PySem.W.keepIn K (.ref f27) = true)
    (a28 : PySem.W.nsIn K mainGlobals "_law_many" = some (some (.ref f28)))
    (l28 : K.lookup f28 = some ⟨oc28, od28, .func (PySem.W.fnOf "_law_many" "_law_many" (defArgs s_l_many) (defBody s_l_many) (defScope s_l_many) .none kV28 dc28 pm28 an28 cd28 ct28), sl28⟩)
    (c28 : PySem.W.codeIn K cd28 "_law_many" = true)
    (k28 : PySem.W.keepIn K (.ref f28) = true)
    (a29 : PySem.W.nsIn K mainGlobals "_law_lows" = some (some (.ref f29)))
    (l29 : K.lookup f29 = some ⟨oc29, od29, .func (PySem.W.fnOf "_law_lows" "_law_lows" (defArgs s_l_lows) (defBody s_l_lows) (defScope s_l_lows) .none kV29 dc29 pm29 an29 cd29 ct29), sl29⟩)
    (c29 : PySem.W.codeIn K cd29 "_law_lows" = true)
    (k29 : PySem.W.keepIn K (.ref f29) = true)
    (a30 : PySem.W.nsIn K mainGlobals "_law_edges" = some (some (.ref f30)))
    (l30 : K.lookup f30 = some ⟨oc30, od30, .func (PySem.W.fnOf "_law_edges" "_law_edges" (defArgs s_l_edges) (defBody s_l_edges) (defScope s_l_edges) .none kV30 dc30 pm30 an30 cd30 ct30), sl30⟩)
    (c30 : PySem.W.codeIn K cd30 "_law_edges" = true)
    (k30 : PySem.W.keepIn K (.ref f30) = true)
    (a31 : PySem.W.nsIn K mainGlobals "_law_parts_right" = some (some (.ref f31)))
    (l31 : K.lookup f31 = some ⟨oc31, od31, .func (PySem.W.fnOf "_law_parts_right" "_law_parts_right" (defArgs s_l_parts_right) (defBody s_l_parts_right) (defScope s_l_parts_right) .none kV31 dc31 pm31 an31 cd31 ct31), sl31⟩)
    (c31 : PySem.W.codeIn K cd31 "_law_parts_right" = true)
    (k31 : PySem.W.keepIn K (.ref f31) = true)
    (a32 : PySem.W.nsIn K mainGlobals "_law_due" = some (some (.ref f32)))
    (l32 : K.lookup f32 = some ⟨oc32, od32, .func (PySem.W.fnOf "_law_due" "_law_due" (defArgs s_l_due) (defBody s_l_due) (defScope s_l_due) .none kV32 dc32 pm32 an32 cd32 ct32), sl32⟩)
    (c32 : PySem.W.codeIn K cd32 "_law_due" = true)
    (k32 : PySem.W.keepIn K (.ref f32) = true)
    (a33 : PySem.W.nsIn K mainGlobals "_law_sure_right" = some (some (.ref f33)))
    (l33 : K.lookup f33 = some ⟨oc33, od33, .func (PySem.W.fnOf "_law_sure_right" "_law_sure_right" (defArgs s_l_sure_right) (defBody s_l_sure_right) (defScope s_l_sure_right) .none kV33 dc33 pm33 an33 cd33 ct33), sl33⟩)
    (c33 : PySem.W.codeIn K cd33 "_law_sure_right" = true)
    (k33 : PySem.W.keepIn K (.ref f33) = true)
    (a34 : PySem.W.nsIn K mainGlobals "_law_put_due" = some (some (.ref f34)))
    (l34 : K.lookup f34 = some ⟨oc34, od34, .func (PySem.W.fnOf "_law_put_due" "_law_put_due" (defArgs s_l_put_due) (defBody s_l_put_due) (defScope s_l_put_due) .none kV34 dc34 pm34 an34 cd34 ct34), sl34⟩)
    (c34 : PySem.W.codeIn K cd34 "_law_put_due" = true)
    (k34 : PySem.W.keepIn K (.ref f34) = true)
    (a35 : PySem.W.nsIn K mainGlobals "_law_put" = some (some (.ref f35)))
    (l35 : K.lookup f35 = some ⟨oc35, od35, .func (PySem.W.fnOf "_law_put" "_law_put" (defArgs s_l_put) (defBody s_l_put) (defScope s_l_put) .none kV35 dc35 pm35 an35 cd35 ct35), sl35⟩)
    (c35 : PySem.W.codeIn K cd35 "_law_put" = true)
    (k35 : PySem.W.keepIn K (.ref f35) = true)
    (a36 : PySem.W.nsIn K mainGlobals "_law_drop" = some (some (.ref f36)))
    (l36 : K.lookup f36 = some ⟨oc36, od36, .func (PySem.W.fnOf "_law_drop" "_law_drop" (defArgs s_l_drop) (defBody s_l_drop) (defScope s_l_drop) .none kV36 dc36 pm36 an36 cd36 ct36), sl36⟩)
    (c36 : PySem.W.codeIn K cd36 "_law_drop" = true)
    (k36 : PySem.W.keepIn K (.ref f36) = true)
    (a37 : PySem.W.nsIn K mainGlobals "_law_ask" = some (some (.ref f37)))
    (l37 : K.lookup f37 = some ⟨oc37, od37, .func (PySem.W.fnOf "_law_ask" "_law_ask" (defArgs s_l_ask) (defBody s_l_ask) (defScope s_l_ask) .none kV37 dc37 pm37 an37 cd37 ct37), sl37⟩)
    (c37 : PySem.W.codeIn K cd37 "_law_ask" = true)
    (k37 : PySem.W.keepIn K (.ref f37) = true)
    (a38 : PySem.W.nsIn K mainGlobals "_law_filled" = some (some (.ref f38)))
    (l38 : K.lookup f38 = some ⟨oc38, od38, .func (PySem.W.fnOf "_law_filled" "_law_filled" (defArgs s_l_filled) (defBody s_l_filled) (defScope s_l_filled) .none kV38 dc38 pm38 an38 cd38 ct38), sl38⟩)
    (c38 : PySem.W.codeIn K cd38 "_law_filled" = true)
    (k38 : PySem.W.keepIn K (.ref f38) = true)
    (a39 : PySem.W.nsIn K mainGlobals "_law_deed" = some (some (.ref f39)))
    (l39 : K.lookup f39 = some ⟨oc39, od39, .func (PySem.W.fnOf "_law_deed" "_law_deed" (defArgs s_l_deed) (defBody s_l_deed) (defScope s_l_deed) .none kV39 dc39 pm39 an39 cd39 ct39), sl39⟩)
    (c39 : PySem.W.codeIn K cd39 "_law_deed" = true)
    (k39 : PySem.W.keepIn K (.ref f39) = true)
    (a40 : PySem.W.nsIn K mainGlobals "_law_forty" = some (some (.ref f40)))
    (l40 : K.lookup f40 = some ⟨oc40, od40, .func (PySem.W.fnOf "_law_forty" "_law_forty" (defArgs s_l_forty) (defBody s_l_forty) (defScope s_l_forty) .none kV40 dc40 pm40 an40 cd40 ct40), sl40⟩)
    (c40 : PySem.W.codeIn K cd40 "_law_forty" = true)
    (k40 : PySem.W.keepIn K (.ref f40) = true)
    (a41 : PySem.W.nsIn K mainGlobals "_law_no_watch" = some (some (.ref f41)))
    (l41 : K.lookup f41 = some ⟨oc41, od41, .func (PySem.W.fnOf "_law_no_watch" "_law_no_watch" (defArgs s_l_no_watch) (defBody s_l_no_watch) (defScope s_l_no_watch) .none kV41 dc41 pm41 an41 cd41 ct41), sl41⟩)
    (c41 : PySem.W.codeIn K cd41 "_law_no_watch" = true)
    (k41 : PySem.W.keepIn K (.ref f41) = true)
    (a42 : PySem.W.nsIn K mainGlobals "law" = some (some (.ref f42)))
    (l42 : K.lookup f42 = some ⟨oc42, od42, .func (PySem.W.fnOf "law" "law" (defArgs s_law) (defBody s_law) (defScope s_law) .none kV42 dc42 pm42 an42 cd42 ct42), sl42⟩)
    (c42 : PySem.W.codeIn K cd42 "law" = true)
    (k42 : PySem.W.keepIn K (.ref f42) = true)
    (v0 : PySem.W.nsIn K mainGlobals "SIGNS" = some (some (.str "abcdefghijklmnopqrstuvwxyz" tk0)))
    (v1 : PySem.W.nsIn K mainGlobals "MOST_SIGNS" = some (some (.int 12 tk1)))
    (v2 : PySem.W.nsIn K mainGlobals "GREATEST" = some (some (.int 1000000000000 tk2)))
    (v3 : PySem.W.nsIn K mainGlobals "MOST_OFF" = some (some (.int 999 tk3)))
    (v4 : PySem.W.nsIn K mainGlobals "MOST_LETTERS" = some (some (.int 200 tk4)))
    (v5 : PySem.W.nsIn K mainGlobals "MOST_CLOCKS" = some (some (.int 40 tk5)))
    (z0 : PySem.W.nsIn K mainGlobals "ValueError" = some none)
    (z1 : PySem.W.nsIn K mainGlobals "max" = some none)
    (z2 : PySem.W.nsIn K mainGlobals "min" = some none)
    (z3 : PySem.W.nsIn K mainGlobals "range" = some none)
    (z4 : PySem.W.nsIn K mainGlobals "sorted" = some none)
    (z5 : PySem.W.nsIn K mainGlobals "len" = some none)
    (z6 : PySem.W.nsIn K mainGlobals "list" = some none)
    (z7 : PySem.W.nsIn K mainGlobals "isinstance" = some none)
    (z8 : PySem.W.nsIn K mainGlobals "int" = some none)
    (z9 : PySem.W.nsIn K mainGlobals "bool" = some none)
    (z10 : PySem.W.nsIn K mainGlobals "tuple" = some none)
    (z11 : PySem.W.nsIn K mainGlobals "set" = some none)
    (g_StretchError : PySem.W.nsIn K mainGlobals "StretchError" = some (some (.ref C_StretchError)))
    (g_BadName : PySem.W.nsIn K mainGlobals "BadName" = some (some (.ref C_BadName)))
    (g_BadLetter : PySem.W.nsIn K mainGlobals "BadLetter" = some (some (.ref C_BadLetter)))
    (g_BadOff : PySem.W.nsIn K mainGlobals "BadOff" = some (some (.ref C_BadOff)))
    (g_TooEarly : PySem.W.nsIn K mainGlobals "TooEarly" = some (some (.ref C_TooEarly)))
    (g_BadCount : PySem.W.nsIn K mainGlobals "BadCount" = some (some (.ref C_BadCount)))
    (g_NoAgreement : PySem.W.nsIn K mainGlobals "NoAgreement" = some (some (.ref C_NoAgreement)))
    (g_TooWide : PySem.W.nsIn K mainGlobals "TooWide" = some (some (.ref C_TooWide)))
    (g_TooMany : PySem.W.nsIn K mainGlobals "TooMany" = some (some (.ref C_TooMany)))
    (g_NoClock : PySem.W.nsIn K mainGlobals "NoClock" = some (some (.ref C_NoClock)))
    (g_NoText : PySem.W.nsIn K mainGlobals "NoText" = some (some (.ref C_NoText)))
    (g_Watch : PySem.W.nsIn K mainGlobals "Watch" = some (some (.ref C_Watch)))
    (pg_Watch : PySem.W.plainGet K C_Watch Str.empty = true)
    (hd_Watch : PySem.W.hasDictIn K C_Watch = true)
    (po_Watch : PySem.W.plainOver K C_Watch = true)
    (sa_Watch : PySem.W.findIn K (.ref C_Watch) "__setattr__" = some (some (.builtin "object.__setattr__")))
    (mk_Watch : PySem.W.makesIn K C_Watch = true)
    (kc_Watch : PySem.W.keepIn K (.ref C_Watch) = true)
    (nf_Watch_off : PySem.W.findIn K (.ref C_Watch) "off" = some none)
    (nf_Watch_letters : PySem.W.findIn K (.ref C_Watch) "letters" = some none)
    (eN : PySem.W.specialIn K (.builtin "object.__class__") "__get__" = some (some (.builtin "getset_descriptor.__get__")))
    (eT : PySem.W.takesIn K (.builtin "object.__class__") = some true)
    (j1_BadName : PySem.W.isClsIn K C_BadName = true)
    (j2_BadName : PySem.W.typeIn K (.ref C_BadName) = some (.type "type"))
    (j1_BadLetter : PySem.W.isClsIn K C_BadLetter = true)
    (j2_BadLetter : PySem.W.typeIn K (.ref C_BadLetter) = some (.type "type"))
    (j1_BadOff : PySem.W.isClsIn K C_BadOff = true)
    (j2_BadOff : PySem.W.typeIn K (.ref C_BadOff) = some (.type "type"))
    (j1_TooEarly : PySem.W.isClsIn K C_TooEarly = true)
    (j2_TooEarly : PySem.W.typeIn K (.ref C_TooEarly) = some (.type "type"))
    (j1_BadCount : PySem.W.isClsIn K C_BadCount = true)
    (j2_BadCount : PySem.W.typeIn K (.ref C_BadCount) = some (.type "type"))
    (j1_NoAgreement : PySem.W.isClsIn K C_NoAgreement = true)
    (j2_NoAgreement : PySem.W.typeIn K (.ref C_NoAgreement) = some (.type "type"))
    (j1_TooWide : PySem.W.isClsIn K C_TooWide = true)
    (j2_TooWide : PySem.W.typeIn K (.ref C_TooWide) = some (.type "type"))
    (j1_TooMany : PySem.W.isClsIn K C_TooMany = true)
    (j2_TooMany : PySem.W.typeIn K (.ref C_TooMany) = some (.type "type"))
    (j1_NoClock : PySem.W.isClsIn K C_NoClock = true)
    (j2_NoClock : PySem.W.typeIn K (.ref C_NoClock) = some (.type "type"))
    (j1_NoText : PySem.W.isClsIn K C_NoText = true)
    (j2_NoText : PySem.W.typeIn K (.ref C_NoText) = some (.type "type"))
    (j1_StretchError : PySem.W.isClsIn K C_StretchError = true)
    (j2_StretchError : PySem.W.typeIn K (.ref C_StretchError) = some (.type "type"))
    (j3 : PySem.W.subIn K (.ref C_StretchError) (.type "BaseException") = some true)
    (e1_BadName : PySem.W.excIn K C_BadName [.type "ValueError", .type "Exception", .type "BaseException", .type "object"] "ValueError.__new__" = true)
    (e2_BadName : PySem.W.keepIn K (.ref C_BadName) = true)
    (e3_BadName : PySem.W.typeIn K (.ref C_BadName) = some (.type "type"))
    (e4_BadName : PySem.W.findIn K (.ref C_BadName) "__getattribute__" = some (some (.builtin "BaseException.__getattribute__")))
    (e5_BadName : PySem.W.findIn K (.ref C_BadName) "__getattr__" = some none)
    (e6_BadName : PySem.W.subIn K (.ref C_BadName) (.type "BaseException") = some true)
    (e7_BadName : PySem.W.hasDictIn K C_BadName = true)
    (e8_BadName : PySem.W.findIn K (.ref C_BadName) "__class__" = some (some (.builtin "object.__class__")))
    (e9_BadName : PySem.W.mroIn K C_BadName (.type "object") = some true)
    (t_BadName : PySem.W.subIn K (.ref C_BadName) (.ref C_StretchError) = some true)
    (i_BadName_BadName : PySem.W.subIn K (.ref C_BadName) (.ref C_BadName) = some true)
    (i_BadName_BadLetter : PySem.W.subIn K (.ref C_BadName) (.ref C_BadLetter) = some false)
    (i_BadName_BadOff : PySem.W.subIn K (.ref C_BadName) (.ref C_BadOff) = some false)
    (i_BadName_TooEarly : PySem.W.subIn K (.ref C_BadName) (.ref C_TooEarly) = some false)
    (i_BadName_BadCount : PySem.W.subIn K (.ref C_BadName) (.ref C_BadCount) = some false)
    (i_BadName_NoAgreement : PySem.W.subIn K (.ref C_BadName) (.ref C_NoAgreement) = some false)
    (i_BadName_TooWide : PySem.W.subIn K (.ref C_BadName) (.ref C_TooWide) = some false)
    (i_BadName_TooMany : PySem.W.subIn K (.ref C_BadName) (.ref C_TooMany) = some false)
    (i_BadName_NoClock : PySem.W.subIn K (.ref C_BadName) (.ref C_NoClock) = some false)
    (i_BadName_NoText : PySem.W.subIn K (.ref C_BadName) (.ref C_NoText) = some false)
    (i_BadName_ValueError : PySem.W.subIn K (.ref C_BadName) (.type "ValueError") = some true)
    (e1_BadLetter : PySem.W.excIn K C_BadLetter [.type "ValueError", .type "Exception", .type "BaseException", .type "object"] "ValueError.__new__" = true)
    (e2_BadLetter : PySem.W.keepIn K (.ref C_BadLetter) = true)
    (e3_BadLetter : PySem.W.typeIn K (.ref C_BadLetter) = some (.type "type"))
    (e4_BadLetter : PySem.W.findIn K (.ref C_BadLetter) "__getattribute__" = some (some (.builtin "BaseException.__getattribute__")))
    (e5_BadLetter : PySem.W.findIn K (.ref C_BadLetter) "__getattr__" = some none)
    (e6_BadLetter : PySem.W.subIn K (.ref C_BadLetter) (.type "BaseException") = some true)
    (e7_BadLetter : PySem.W.hasDictIn K C_BadLetter = true)
    (e8_BadLetter : PySem.W.findIn K (.ref C_BadLetter) "__class__" = some (some (.builtin "object.__class__")))
    (e9_BadLetter : PySem.W.mroIn K C_BadLetter (.type "object") = some true)
    (t_BadLetter : PySem.W.subIn K (.ref C_BadLetter) (.ref C_StretchError) = some true)
    (i_BadLetter_BadName : PySem.W.subIn K (.ref C_BadLetter) (.ref C_BadName) = some false)
    (i_BadLetter_BadLetter : PySem.W.subIn K (.ref C_BadLetter) (.ref C_BadLetter) = some true)
    (i_BadLetter_BadOff : PySem.W.subIn K (.ref C_BadLetter) (.ref C_BadOff) = some false)
    (i_BadLetter_TooEarly : PySem.W.subIn K (.ref C_BadLetter) (.ref C_TooEarly) = some false)
    (i_BadLetter_BadCount : PySem.W.subIn K (.ref C_BadLetter) (.ref C_BadCount) = some false)
    (i_BadLetter_NoAgreement : PySem.W.subIn K (.ref C_BadLetter) (.ref C_NoAgreement) = some false)
    (i_BadLetter_TooWide : PySem.W.subIn K (.ref C_BadLetter) (.ref C_TooWide) = some false)
    (i_BadLetter_TooMany : PySem.W.subIn K (.ref C_BadLetter) (.ref C_TooMany) = some false)
    (i_BadLetter_NoClock : PySem.W.subIn K (.ref C_BadLetter) (.ref C_NoClock) = some false)
    (i_BadLetter_NoText : PySem.W.subIn K (.ref C_BadLetter) (.ref C_NoText) = some false)
    (i_BadLetter_ValueError : PySem.W.subIn K (.ref C_BadLetter) (.type "ValueError") = some true)
    (e1_BadOff : PySem.W.excIn K C_BadOff [.type "ValueError", .type "Exception", .type "BaseException", .type "object"] "ValueError.__new__" = true)
    (e2_BadOff : PySem.W.keepIn K (.ref C_BadOff) = true)
    (e3_BadOff : PySem.W.typeIn K (.ref C_BadOff) = some (.type "type"))
    (e4_BadOff : PySem.W.findIn K (.ref C_BadOff) "__getattribute__" = some (some (.builtin "BaseException.__getattribute__")))
    (e5_BadOff : PySem.W.findIn K (.ref C_BadOff) "__getattr__" = some none)
    (e6_BadOff : PySem.W.subIn K (.ref C_BadOff) (.type "BaseException") = some true)
    (e7_BadOff : PySem.W.hasDictIn K C_BadOff = true)
    (e8_BadOff : PySem.W.findIn K (.ref C_BadOff) "__class__" = some (some (.builtin "object.__class__")))
    (e9_BadOff : PySem.W.mroIn K C_BadOff (.type "object") = some true)
    (t_BadOff : PySem.W.subIn K (.ref C_BadOff) (.ref C_StretchError) = some true)
    (i_BadOff_BadName : PySem.W.subIn K (.ref C_BadOff) (.ref C_BadName) = some false)
    (i_BadOff_BadLetter : PySem.W.subIn K (.ref C_BadOff) (.ref C_BadLetter) = some false)
    (i_BadOff_BadOff : PySem.W.subIn K (.ref C_BadOff) (.ref C_BadOff) = some true)
    (i_BadOff_TooEarly : PySem.W.subIn K (.ref C_BadOff) (.ref C_TooEarly) = some false)
    (i_BadOff_BadCount : PySem.W.subIn K (.ref C_BadOff) (.ref C_BadCount) = some false)
    (i_BadOff_NoAgreement : PySem.W.subIn K (.ref C_BadOff) (.ref C_NoAgreement) = some false)
    (i_BadOff_TooWide : PySem.W.subIn K (.ref C_BadOff) (.ref C_TooWide) = some false)
    (i_BadOff_TooMany : PySem.W.subIn K (.ref C_BadOff) (.ref C_TooMany) = some false)
    (i_BadOff_NoClock : PySem.W.subIn K (.ref C_BadOff) (.ref C_NoClock) = some false)
    (i_BadOff_NoText : PySem.W.subIn K (.ref C_BadOff) (.ref C_NoText) = some false)
    (i_BadOff_ValueError : PySem.W.subIn K (.ref C_BadOff) (.type "ValueError") = some true)
    (e1_TooEarly : PySem.W.excIn K C_TooEarly [.type "ValueError", .type "Exception", .type "BaseException", .type "object"] "ValueError.__new__" = true)
    (e2_TooEarly : PySem.W.keepIn K (.ref C_TooEarly) = true)
    (e3_TooEarly : PySem.W.typeIn K (.ref C_TooEarly) = some (.type "type"))
    (e4_TooEarly : PySem.W.findIn K (.ref C_TooEarly) "__getattribute__" = some (some (.builtin "BaseException.__getattribute__")))
    (e5_TooEarly : PySem.W.findIn K (.ref C_TooEarly) "__getattr__" = some none)
    (e6_TooEarly : PySem.W.subIn K (.ref C_TooEarly) (.type "BaseException") = some true)
    (e7_TooEarly : PySem.W.hasDictIn K C_TooEarly = true)
    (e8_TooEarly : PySem.W.findIn K (.ref C_TooEarly) "__class__" = some (some (.builtin "object.__class__")))
    (e9_TooEarly : PySem.W.mroIn K C_TooEarly (.type "object") = some true)
    (t_TooEarly : PySem.W.subIn K (.ref C_TooEarly) (.ref C_StretchError) = some true)
    (i_TooEarly_BadName : PySem.W.subIn K (.ref C_TooEarly) (.ref C_BadName) = some false)
    (i_TooEarly_BadLetter : PySem.W.subIn K (.ref C_TooEarly) (.ref C_BadLetter) = some false)
    (i_TooEarly_BadOff : PySem.W.subIn K (.ref C_TooEarly) (.ref C_BadOff) = some false)
    (i_TooEarly_TooEarly : PySem.W.subIn K (.ref C_TooEarly) (.ref C_TooEarly) = some true)
    (i_TooEarly_BadCount : PySem.W.subIn K (.ref C_TooEarly) (.ref C_BadCount) = some false)
    (i_TooEarly_NoAgreement : PySem.W.subIn K (.ref C_TooEarly) (.ref C_NoAgreement) = some false)
    (i_TooEarly_TooWide : PySem.W.subIn K (.ref C_TooEarly) (.ref C_TooWide) = some false)
    (i_TooEarly_TooMany : PySem.W.subIn K (.ref C_TooEarly) (.ref C_TooMany) = some false)
    (i_TooEarly_NoClock : PySem.W.subIn K (.ref C_TooEarly) (.ref C_NoClock) = some false)
    (i_TooEarly_NoText : PySem.W.subIn K (.ref C_TooEarly) (.ref C_NoText) = some false)
    (i_TooEarly_ValueError : PySem.W.subIn K (.ref C_TooEarly) (.type "ValueError") = some true)
    (e1_BadCount : PySem.W.excIn K C_BadCount [.type "ValueError", .type "Exception", .type "BaseException", .type "object"] "ValueError.__new__" = true)
    (e2_BadCount : PySem.W.keepIn K (.ref C_BadCount) = true)
    (e3_BadCount : PySem.W.typeIn K (.ref C_BadCount) = some (.type "type"))
    (e4_BadCount : PySem.W.findIn K (.ref C_BadCount) "__getattribute__" = some (some (.builtin "BaseException.__getattribute__")))
    (e5_BadCount : PySem.W.findIn K (.ref C_BadCount) "__getattr__" = some none)
    (e6_BadCount : PySem.W.subIn K (.ref C_BadCount) (.type "BaseException") = some true)
    (e7_BadCount : PySem.W.hasDictIn K C_BadCount = true)
    (e8_BadCount : PySem.W.findIn K (.ref C_BadCount) "__class__" = some (some (.builtin "object.__class__")))
    (e9_BadCount : PySem.W.mroIn K C_BadCount (.type "object") = some true)
    (t_BadCount : PySem.W.subIn K (.ref C_BadCount) (.ref C_StretchError) = some true)
    (i_BadCount_BadName : PySem.W.subIn K (.ref C_BadCount) (.ref C_BadName) = some false)
    (i_BadCount_BadLetter : PySem.W.subIn K (.ref C_BadCount) (.ref C_BadLetter) = some false)
    (i_BadCount_BadOff : PySem.W.subIn K (.ref C_BadCount) (.ref C_BadOff) = some false)
    (i_BadCount_TooEarly : PySem.W.subIn K (.ref C_BadCount) (.ref C_TooEarly) = some false)
    (i_BadCount_BadCount : PySem.W.subIn K (.ref C_BadCount) (.ref C_BadCount) = some true)
    (i_BadCount_NoAgreement : PySem.W.subIn K (.ref C_BadCount) (.ref C_NoAgreement) = some false)
    (i_BadCount_TooWide : PySem.W.subIn K (.ref C_BadCount) (.ref C_TooWide) = some false)
    (i_BadCount_TooMany : PySem.W.subIn K (.ref C_BadCount) (.ref C_TooMany) = some false)
    (i_BadCount_NoClock : PySem.W.subIn K (.ref C_BadCount) (.ref C_NoClock) = some false)
    (i_BadCount_NoText : PySem.W.subIn K (.ref C_BadCount) (.ref C_NoText) = some false)
    (i_BadCount_ValueError : PySem.W.subIn K (.ref C_BadCount) (.type "ValueError") = some true)
    (e1_NoAgreement : PySem.W.excIn K C_NoAgreement [.type "ValueError", .type "Exception", .type "BaseException", .type "object"] "ValueError.__new__" = true)
    (e2_NoAgreement : PySem.W.keepIn K (.ref C_NoAgreement) = true)
    (e3_NoAgreement : PySem.W.typeIn K (.ref C_NoAgreement) = some (.type "type"))
    (e4_NoAgreement : PySem.W.findIn K (.ref C_NoAgreement) "__getattribute__" = some (some (.builtin "BaseException.__getattribute__")))
    (e5_NoAgreement : PySem.W.findIn K (.ref C_NoAgreement) "__getattr__" = some none)
    (e6_NoAgreement : PySem.W.subIn K (.ref C_NoAgreement) (.type "BaseException") = some true)
    (e7_NoAgreement : PySem.W.hasDictIn K C_NoAgreement = true)
    (e8_NoAgreement : PySem.W.findIn K (.ref C_NoAgreement) "__class__" = some (some (.builtin "object.__class__")))
    (e9_NoAgreement : PySem.W.mroIn K C_NoAgreement (.type "object") = some true)
    (t_NoAgreement : PySem.W.subIn K (.ref C_NoAgreement) (.ref C_StretchError) = some true)
    (i_NoAgreement_BadName : PySem.W.subIn K (.ref C_NoAgreement) (.ref C_BadName) = some false)
    (i_NoAgreement_BadLetter : PySem.W.subIn K (.ref C_NoAgreement) (.ref C_BadLetter) = some false)
    (i_NoAgreement_BadOff : PySem.W.subIn K (.ref C_NoAgreement) (.ref C_BadOff) = some false)
    (i_NoAgreement_TooEarly : PySem.W.subIn K (.ref C_NoAgreement) (.ref C_TooEarly) = some false)
    (i_NoAgreement_BadCount : PySem.W.subIn K (.ref C_NoAgreement) (.ref C_BadCount) = some false)
    (i_NoAgreement_NoAgreement : PySem.W.subIn K (.ref C_NoAgreement) (.ref C_NoAgreement) = some true)
    (i_NoAgreement_TooWide : PySem.W.subIn K (.ref C_NoAgreement) (.ref C_TooWide) = some false)
    (i_NoAgreement_TooMany : PySem.W.subIn K (.ref C_NoAgreement) (.ref C_TooMany) = some false)
    (i_NoAgreement_NoClock : PySem.W.subIn K (.ref C_NoAgreement) (.ref C_NoClock) = some false)
    (i_NoAgreement_NoText : PySem.W.subIn K (.ref C_NoAgreement) (.ref C_NoText) = some false)
    (i_NoAgreement_ValueError : PySem.W.subIn K (.ref C_NoAgreement) (.type "ValueError") = some true)
    (e1_TooMany : PySem.W.excIn K C_TooMany [.type "ValueError", .type "Exception", .type "BaseException", .type "object"] "ValueError.__new__" = true)
    (e2_TooMany : PySem.W.keepIn K (.ref C_TooMany) = true)
    (e3_TooMany : PySem.W.typeIn K (.ref C_TooMany) = some (.type "type"))
    (e4_TooMany : PySem.W.findIn K (.ref C_TooMany) "__getattribute__" = some (some (.builtin "BaseException.__getattribute__")))
    (e5_TooMany : PySem.W.findIn K (.ref C_TooMany) "__getattr__" = some none)
    (e6_TooMany : PySem.W.subIn K (.ref C_TooMany) (.type "BaseException") = some true)
    (e7_TooMany : PySem.W.hasDictIn K C_TooMany = true)
    (e8_TooMany : PySem.W.findIn K (.ref C_TooMany) "__class__" = some (some (.builtin "object.__class__")))
    (e9_TooMany : PySem.W.mroIn K C_TooMany (.type "object") = some true)
    (t_TooMany : PySem.W.subIn K (.ref C_TooMany) (.ref C_StretchError) = some true)
    (i_TooMany_BadName : PySem.W.subIn K (.ref C_TooMany) (.ref C_BadName) = some false)
    (i_TooMany_BadLetter : PySem.W.subIn K (.ref C_TooMany) (.ref C_BadLetter) = some false)
    (i_TooMany_BadOff : PySem.W.subIn K (.ref C_TooMany) (.ref C_BadOff) = some false)
    (i_TooMany_TooEarly : PySem.W.subIn K (.ref C_TooMany) (.ref C_TooEarly) = some false)
    (i_TooMany_BadCount : PySem.W.subIn K (.ref C_TooMany) (.ref C_BadCount) = some false)
    (i_TooMany_NoAgreement : PySem.W.subIn K (.ref C_TooMany) (.ref C_NoAgreement) = some false)
    (i_TooMany_TooWide : PySem.W.subIn K (.ref C_TooMany) (.ref C_TooWide) = some false)
    (i_TooMany_TooMany : PySem.W.subIn K (.ref C_TooMany) (.ref C_TooMany) = some true)
    (i_TooMany_NoClock : PySem.W.subIn K (.ref C_TooMany) (.ref C_NoClock) = some false)
    (i_TooMany_NoText : PySem.W.subIn K (.ref C_TooMany) (.ref C_NoText) = some false)
    (i_TooMany_ValueError : PySem.W.subIn K (.ref C_TooMany) (.type "ValueError") = some true)
    (e1_NoClock : PySem.W.excIn K C_NoClock [.type "ValueError", .type "Exception", .type "BaseException", .type "object"] "ValueError.__new__" = true)
    (e2_NoClock : PySem.W.keepIn K (.ref C_NoClock) = true)
    (e3_NoClock : PySem.W.typeIn K (.ref C_NoClock) = some (.type "type"))
    (e4_NoClock : PySem.W.findIn K (.ref C_NoClock) "__getattribute__" = some (some (.builtin "BaseException.__getattribute__")))
    (e5_NoClock : PySem.W.findIn K (.ref C_NoClock) "__getattr__" = some none)
    (e6_NoClock : PySem.W.subIn K (.ref C_NoClock) (.type "BaseException") = some true)
    (e7_NoClock : PySem.W.hasDictIn K C_NoClock = true)
    (e8_NoClock : PySem.W.findIn K (.ref C_NoClock) "__class__" = some (some (.builtin "object.__class__")))
    (e9_NoClock : PySem.W.mroIn K C_NoClock (.type "object") = some true)
    (t_NoClock : PySem.W.subIn K (.ref C_NoClock) (.ref C_StretchError) = some true)
    (i_NoClock_BadName : PySem.W.subIn K (.ref C_NoClock) (.ref C_BadName) = some false)
    (i_NoClock_BadLetter : PySem.W.subIn K (.ref C_NoClock) (.ref C_BadLetter) = some false)
    (i_NoClock_BadOff : PySem.W.subIn K (.ref C_NoClock) (.ref C_BadOff) = some false)
    (i_NoClock_TooEarly : PySem.W.subIn K (.ref C_NoClock) (.ref C_TooEarly) = some false)
    (i_NoClock_BadCount : PySem.W.subIn K (.ref C_NoClock) (.ref C_BadCount) = some false)
    (i_NoClock_NoAgreement : PySem.W.subIn K (.ref C_NoClock) (.ref C_NoAgreement) = some false)
    (i_NoClock_TooWide : PySem.W.subIn K (.ref C_NoClock) (.ref C_TooWide) = some false)
    (i_NoClock_TooMany : PySem.W.subIn K (.ref C_NoClock) (.ref C_TooMany) = some false)
    (i_NoClock_NoClock : PySem.W.subIn K (.ref C_NoClock) (.ref C_NoClock) = some true)
    (i_NoClock_NoText : PySem.W.subIn K (.ref C_NoClock) (.ref C_NoText) = some false)
    (i_NoClock_ValueError : PySem.W.subIn K (.ref C_NoClock) (.type "ValueError") = some true)
    : ∃ fd : FuncData, (∀ (s : Shared) (v : Value), BindsTo s fd ⟨[v], []⟩ [("_law_script", v)]) ∧ ∀ base : Heap, K.In base → base.Ns mainGlobals mg → FnOk l.prog w K mg base CX0 8 fa fd ["_law_script"] (spLaw K) := by
  have e := hfa.symm.trans (PySem.W.mg_of X G a42)
  cases e
  let T : Lw K mg := {
    f_is_name := f1,
    fd_is_name := PySem.W.fnOf "is_name" "is_name" (defArgs s_is_name) (defBody s_is_name) (defScope s_is_name) .none kV1 dc1 pm1 an1 cd1 ct1,
    d_is_name := ⟨fun_mk (st := s_is_name) l1 c1 k1, (fun_mk (st := s_is_name) l1 c1 k1).binds (ps := ["word"]) fun _ _ _ _ _ _ us hl => match us, hl with | [_], _ => rfl⟩,
    m_is_name := PySem.W.mg_of X G a1,
    f_checked := f2,
    fd_checked := PySem.W.fnOf "checked" "checked" (defArgs s_checked) (defBody s_checked) (defScope s_checked) .none kV2 dc2 pm2 an2 cd2 ct2,
    d_checked := ⟨fun_mk (st := s_checked) l2 c2 k2, (fun_mk (st := s_checked) l2 c2 k2).binds (ps := ["letter"]) fun _ _ _ _ _ _ us hl => match us, hl with | [_], _ => rfl⟩,
    m_checked := PySem.W.mg_of X G a2,
    f_need_off := f3,
    fd_need_off := PySem.W.fnOf "need_off" "need_off" (defArgs s_need_off) (defBody s_need_off) (defScope s_need_off) .none kV3 dc3 pm3 an3 cd3 ct3,
    d_need_off := ⟨fun_mk (st := s_need_off) l3 c3 k3, (fun_mk (st := s_need_off) l3 c3 k3).binds (ps := ["off"]) fun _ _ _ _ _ _ us hl => match us, hl with | [_], _ => rfl⟩,
    m_need_off := PySem.W.mg_of X G a3,
    f_slack := f4,
    fd_slack := PySem.W.fnOf "slack" "slack" (defArgs s_slack) (defBody s_slack) (defScope s_slack) .none kV4 dc4 pm4 an4 cd4 ct4,
    d_slack := ⟨fun_mk (st := s_slack) l4 c4 k4, (fun_mk (st := s_slack) l4 c4 k4).binds (ps := ["passed", "off"]) fun _ _ _ _ _ _ us hl => match us, hl with | [_, _], _ => rfl⟩,
    m_slack := PySem.W.mg_of X G a4,
    f_brought := f5,
    fd_brought := PySem.W.fnOf "brought" "brought" (defArgs s_brought) (defBody s_brought) (defScope s_brought) .none kV5 dc5 pm5 an5 cd5 ct5,
    d_brought := ⟨fun_mk (st := s_brought) l5 c5 k5, (fun_mk (st := s_brought) l5 c5 k5).binds (ps := ["letter", "now", "off"]) fun _ _ _ _ _ _ us hl => match us, hl with | [_, _, _], _ => rfl⟩,
    m_brought := PySem.W.mg_of X G a5,
    f_common := f6,
    fd_common := PySem.W.fnOf "common" "common" (defArgs s_common) (defBody s_common) (defScope s_common) .none kV6 dc6 pm6 an6 cd6 ct6,
    d_common := ⟨fun_mk (st := s_common) l6 c6 k6, (fun_mk (st := s_common) l6 c6 k6).binds (ps := ["one", "other"]) fun _ _ _ _ _ _ us hl => match us, hl with | [_, _], _ => rfl⟩,
    m_common := PySem.W.mg_of X G a6,
    f_gathered := f7,
    fd_gathered := PySem.W.fnOf "gathered" "gathered" (defArgs s_gathered) (defBody s_gathered) (defScope s_gathered) .none kV7 dc7 pm7 an7 cd7 ct7,
    d_gathered := ⟨fun_mk (st := s_gathered) l7 c7 k7, (fun_mk (st := s_gathered) l7 c7 k7).binds (ps := ["letters", "now", "off"]) fun _ _ _ _ _ _ us hl => match us, hl with | [_, _, _], _ => rfl⟩,
    m_gathered := PySem.W.mg_of X G a7,
    f_turns := f8,
    fd_turns := PySem.W.fnOf "turns" "turns" (defArgs s_turns) (defBody s_turns) (defScope s_turns) .none kV8 dc8 pm8 an8 cd8 ct8,
    d_turns := ⟨fun_mk (st := s_turns) l8 c8 k8, (fun_mk (st := s_turns) l8 c8 k8).binds (ps := ["clocks"]) fun _ _ _ _ _ _ us hl => match us, hl with | [_], _ => rfl⟩,
    m_turns := PySem.W.mg_of X G a8,
    f_parts := f9,
    fd_parts := PySem.W.fnOf "parts" "parts" (defArgs s_parts) (defBody s_parts) (defScope s_parts) .none kV9 dc9 pm9 an9 cd9 ct9,
    d_parts := ⟨fun_mk (st := s_parts) l9 c9 k9, (fun_mk (st := s_parts) l9 c9 k9).binds (ps := ["clocks", "need"]) fun _ _ _ _ _ _ us hl => match us, hl with | [_, _], _ => rfl⟩,
    m_parts := PySem.W.mg_of X G a9,
    f_meets := f10,
    fd_meets := PySem.W.fnOf "meets" "meets" (defArgs s_meets) (defBody s_meets) (defScope s_meets) .none kV10 dc10 pm10 an10 cd10 ct10,
    d_meets := ⟨fun_mk (st := s_meets) l10 c10 k10, (fun_mk (st := s_meets) l10 c10 k10).binds (ps := ["stretch", "some"]) fun _ _ _ _ _ _ us hl => match us, hl with | [_, _], _ => rfl⟩,
    m_meets := PySem.W.mg_of X G a10,
    f_sure := f11,
    fd_sure := PySem.W.fnOf "sure" "sure" (defArgs s_sure) (defBody s_sure) (defScope s_sure) (.ref dT11) kV11 dc11 pm11 an11 cd11 ct11,
    d_sure := Ts.DefD.mk1 (n := 3) ⟨⟨_, _, _, _, _, _, _, _, _, _, rfl, l11, c11, .inr ⟨by simp, dT11, _, [.none], tn11, rfl, t11, rfl, .cons rfl .nil⟩, .inl rfl⟩, k11⟩ rfl (fun _ _ _ _ _ _ _ us its hl hi => match us, its, hl, hi with | [_, _, _], [_], _, _ => ⟨_, rfl, rfl⟩) (fun _ _ _ _ _ _ _ us its hl hi => match us, its, hl, hi with | [_, _, _, _], [_], _, _ => ⟨_, rfl, rfl⟩),
    m_sure := PySem.W.mg_of X G a11,
    f_Watch_init := f12,
    fd_Watch_init := PySem.W.fnOf "__init__" "Watch.__init__" (defArgs s_Watch_init) (defBody s_Watch_init) (defScope s_Watch_init) .none kV12 dc12 pm12 an12 cd12 ct12,
    d_Watch_init := ⟨fun_mk (st := s_Watch_init) l12 c12 k12, (fun_mk (st := s_Watch_init) l12 c12 k12).binds (ps := ["self", "off"]) fun _ _ _ _ _ _ us hl => match us, hl with | [_, _], _ => rfl⟩,
    f_Watch_put := f13,
    fd_Watch_put := PySem.W.fnOf "put" "Watch.put" (defArgs s_Watch_put) (defBody s_Watch_put) (defScope s_Watch_put) .none kV13 dc13 pm13 an13 cd13 ct13,
    d_Watch_put := ⟨fun_mk (st := s_Watch_put) l13 c13 k13, (fun_mk (st := s_Watch_put) l13 c13 k13).binds (ps := ["self", "letter"]) fun _ _ _ _ _ _ us hl => match us, hl with | [_, _], _ => rfl⟩,
    w_Watch_put := ⟨a13, i13, k13⟩,
    f_Watch_drop := f14,
    fd_Watch_drop := PySem.W.fnOf "drop" "Watch.drop" (defArgs s_Watch_drop) (defBody s_Watch_drop) (defScope s_Watch_drop) .none kV14 dc14 pm14 an14 cd14 ct14,
    d_Watch_drop := ⟨fun_mk (st := s_Watch_drop) l14 c14 k14, (fun_mk (st := s_Watch_drop) l14 c14 k14).binds (ps := ["self", "name"]) fun _ _ _ _ _ _ us hl => match us, hl with | [_, _], _ => rfl⟩,
    w_Watch_drop := ⟨a14, i14, k14⟩,
    f_Watch_told := f15,
    fd_Watch_told := PySem.W.fnOf "told" "Watch.told" (defArgs s_Watch_told) (defBody s_Watch_told) (defScope s_Watch_told) (.ref dT15) kV15 dc15 pm15 an15 cd15 ct15,
    d_Watch_told := Ts.DefD.mk1 (n := 2) ⟨⟨_, _, _, _, _, _, _, _, _, _, rfl, l15, c15, .inr ⟨by simp, dT15, _, [.none], tn15, rfl, t15, rfl, .cons rfl .nil⟩, .inl rfl⟩, k15⟩ rfl (fun _ _ _ _ _ _ _ us its hl hi => match us, its, hl, hi with | [_, _], [_], _, _ => ⟨_, rfl, rfl⟩) (fun _ _ _ _ _ _ _ us its hl hi => match us, its, hl, hi with | [_, _, _], [_], _, _ => ⟨_, rfl, rfl⟩),
    kb_Watch_told := Ts.kb_of (v := .non) (ks := ["bad"]) (st := s_Watch_told) ⟨⟨_, _, _, _, _, _, _, _, _, _, rfl, l15, c15, .inr ⟨by simp, dT15, _, [.none], tn15, rfl, t15, rfl, .cons rfl .nil⟩, .inl rfl⟩, k15⟩ (fun _ _ _ _ _ _ _ us its ws hl hi hw => match us, its, ws, hl, hi, hw with | [_, _], [_], [_], _, _, _ => ⟨_, rfl, rfl⟩),
    w_Watch_told := ⟨a15, i15, k15⟩,
    f_l_whole := f16,
    fd_l_whole := PySem.W.fnOf "_law_whole" "_law_whole" (defArgs s_l_whole) (defBody s_l_whole) (defScope s_l_whole) .none kV16 dc16 pm16 an16 cd16 ct16,
    d_l_whole := ⟨fun_mk (st := s_l_whole) l16 c16 k16, (fun_mk (st := s_l_whole) l16 c16 k16).binds (ps := ["_law_found"]) fun _ _ _ _ _ _ us hl => match us, hl with | [_], _ => rfl⟩,
    m_l_whole := PySem.W.mg_of X G a16,
    f_l_cell_at := f17,
    fd_l_cell_at := PySem.W.fnOf "_law_cell_at" "_law_cell_at" (defArgs s_l_cell_at) (defBody s_l_cell_at) (defScope s_l_cell_at) .none kV17 dc17 pm17 an17 cd17 ct17,
    d_l_cell_at := ⟨fun_mk (st := s_l_cell_at) l17 c17 k17, (fun_mk (st := s_l_cell_at) l17 c17 k17).binds (ps := ["_law_script", "_law_k"]) fun _ _ _ _ _ _ us hl => match us, hl with | [_, _], _ => rfl⟩,
    m_l_cell_at := PySem.W.mg_of X G a17,
    f_l_mix := f18,
    fd_l_mix := PySem.W.fnOf "_law_mix" "_law_mix" (defArgs s_l_mix) (defBody s_l_mix) (defScope s_l_mix) .none kV18 dc18 pm18 an18 cd18 ct18,
    d_l_mix := ⟨fun_mk (st := s_l_mix) l18 c18 k18, (fun_mk (st := s_l_mix) l18 c18 k18).binds (ps := ["_law_cell", "_law_k"]) fun _ _ _ _ _ _ us hl => match us, hl with | [_, _], _ => rfl⟩,
    m_l_mix := PySem.W.mg_of X G a18,
    f_l_big := f19,
    fd_l_big := PySem.W.fnOf "_law_big" "_law_big" (defArgs s_l_big) (defBody s_l_big) (defScope s_l_big) .none kV19 dc19 pm19 an19 cd19 ct19,
    d_l_big := ⟨fun_mk (st := s_l_big) l19 c19 k19, (fun_mk (st := s_l_big) l19 c19 k19).binds (ps := ["_law_cell", "_law_k"]) fun _ _ _ _ _ _ us hl => match us, hl with | [_, _], _ => rfl⟩,
    m_l_big := PySem.W.mg_of X G a19,
    f_l_off := f20,
    fd_l_off := PySem.W.fnOf "_law_off" "_law_off" (defArgs s_l_off) (defBody s_l_off) (defScope s_l_off) .none kV20 dc20 pm20 an20 cd20 ct20,
    d_l_off := ⟨fun_mk (st := s_l_off) l20 c20 k20, (fun_mk (st := s_l_off) l20 c20 k20).binds (ps := ["_law_cell"]) fun _ _ _ _ _ _ us hl => match us, hl with | [_], _ => rfl⟩,
    m_l_off := PySem.W.mg_of X G a20,
    f_l_slack := f21,
    fd_l_slack := PySem.W.fnOf "_law_slack" "_law_slack" (defArgs s_l_slack) (defBody s_l_slack) (defScope s_l_slack) .none kV21 dc21 pm21 an21 cd21 ct21,
    d_l_slack := ⟨fun_mk (st := s_l_slack) l21 c21 k21, (fun_mk (st := s_l_slack) l21 c21 k21).binds (ps := ["_law_passed", "_law_off_here"]) fun _ _ _ _ _ _ us hl => match us, hl with | [_, _], _ => rfl⟩,
    m_l_slack := PySem.W.mg_of X G a21,
    f_l_brought := f22,
    fd_l_brought := PySem.W.fnOf "_law_brought" "_law_brought" (defArgs s_l_brought) (defBody s_l_brought) (defScope s_l_brought) .none kV22 dc22 pm22 an22 cd22 ct22,
    d_l_brought := ⟨fun_mk (st := s_l_brought) l22 c22 k22, (fun_mk (st := s_l_brought) l22 c22 k22).binds (ps := ["_law_letter_here", "_law_now", "_law_off_here"]) fun _ _ _ _ _ _ us hl => match us, hl with | [_, _, _], _ => rfl⟩,
    m_l_brought := PySem.W.mg_of X G a22,
    f_l_kind := f23,
    fd_l_kind := PySem.W.fnOf "_law_kind" "_law_kind" (defArgs s_l_kind) (defBody s_l_kind) (defScope s_l_kind) .none kV23 dc23 pm23 an23 cd23 ct23,
    d_l_kind := ⟨fun_mk (st := s_l_kind) l23 c23 k23, (fun_mk (st := s_l_kind) l23 c23 k23).binds (ps := ["_law_e"]) fun _ _ _ _ _ _ us hl => match us, hl with | [_], _ => rfl⟩,
    m_l_kind := PySem.W.mg_of X G a23,
    f_l_word := f24,
    fd_l_word := PySem.W.fnOf "_law_word" "_law_word" (defArgs s_l_word) (defBody s_l_word) (defScope s_l_word) .none kV24 dc24 pm24 an24 cd24 ct24,
    d_l_word := ⟨fun_mk (st := s_l_word) l24 c24 k24, (fun_mk (st := s_l_word) l24 c24 k24).binds (ps := ["_law_cell", "_law_size"]) fun _ _ _ _ _ _ us hl => match us, hl with | [_, _], _ => rfl⟩,
    m_l_word := PySem.W.mg_of X G a24,
    f_l_names := f25,
    fd_l_names := PySem.W.fnOf "_law_names" "_law_names" (defArgs s_l_names) (defBody s_l_names) (defScope s_l_names) .none kV25 dc25 pm25 an25 cd25 ct25,
    d_l_names := ⟨fun_mk (st := s_l_names) l25 c25 k25, (fun_mk (st := s_l_names) l25 c25 k25).binds (ps := ["_law_cell"]) fun _ _ _ _ _ _ us hl => match us, hl with | [_], _ => rfl⟩,
    m_l_names := PySem.W.mg_of X G a25,
    f_l_letter := f26,
    fd_l_letter := PySem.W.fnOf "_law_letter" "_law_letter" (defArgs s_l_letter) (defBody s_l_letter) (defScope s_l_letter) .none kV26 dc26 pm26 an26 cd26 ct26,
    d_l_letter := ⟨fun_mk (st := s_l_letter) l26 c26 k26, (fun_mk (st := s_l_letter) l26 c26 k26).binds (ps := ["_law_cell", "_law_names_here", "_law_many_here"]) fun _ _ _ _ _ _ us hl => match us, hl with | [_, _, _], _ => rfl⟩,
    m_l_letter := PySem.W.mg_of X G a26,
    f_l_gathered := f27,
    fd_l_gathered := PySem.W.fnOf "_law_gathered" "_law_gathered" (defArgs s_l_gathered) (defBody s_l_gathered) (defScope s_l_gathered) .none kV27 dc27 pm27 an27 cd27 ct27,
    d_l_gathered := ⟨fun_mk (st := s_l_gathered) l27 c27 k27, (fun_mk (st := s_l_gathered) l27 c27 k27).binds (ps := ["_law_letters", "_law_now", "_law_off_here"]) fun _ _ _ _ _ _ us hl => match us, hl with | [_, _, _], _ => rfl⟩,
    m_l_gathered := PySem.W.mg_of X G a27,
    f_l_many := f28,
    fd_l_many := PySem.W.fnOf "_law_many" "_law_many" (defArgs s_l_many) (defBody s_l_many) (defScope s_l_many) .none kV28 dc28 pm28 an28 cd28 ct28,
    d_l_many := ⟨fun_mk (st := s_l_many) l28 c28 k28, (fun_mk (st := s_l_many) l28 c28 k28).binds (ps := ["_law_clocks", "_law_point"]) fun _ _ _ _ _ _ us hl => match us, hl with | [_, _], _ => rfl⟩,
    m_l_many := PySem.W.mg_of X G a28,
    f_l_lows := f29,
    fd_l_lows := PySem.W.fnOf "_law_lows" "_law_lows" (defArgs s_l_lows) (defBody s_l_lows) (defScope s_l_lows) .none kV29 dc29 pm29 an29 cd29 ct29,
    d_l_lows := ⟨fun_mk (st := s_l_lows) l29 c29 k29, (fun_mk (st := s_l_lows) l29 c29 k29).binds (ps := ["_law_clocks"]) fun _ _ _ _ _ _ us hl => match us, hl with | [_], _ => rfl⟩,
    m_l_lows := PySem.W.mg_of X G a29,
    f_l_edges := f30,
    fd_l_edges := PySem.W.fnOf "_law_edges" "_law_edges" (defArgs s_l_edges) (defBody s_l_edges) (defScope s_l_edges) .none kV30 dc30 pm30 an30 cd30 ct30,
    d_l_edges := ⟨fun_mk (st := s_l_edges) l30 c30 k30, (fun_mk (st := s_l_edges) l30 c30 k30).binds (ps := ["_law_clocks"]) fun _ _ _ _ _ _ us hl => match us, hl with | [_], _ => rfl⟩,
    m_l_edges := PySem.W.mg_of X G a30,
    f_l_parts_right := f31,
    fd_l_parts_right := PySem.W.fnOf "_law_parts_right" "_law_parts_right" (defArgs s_l_parts_right) (defBody s_l_parts_right) (defScope s_l_parts_right) .none kV31 dc31 pm31 an31 cd31 ct31,
    d_l_parts_right := ⟨fun_mk (st := s_l_parts_right) l31 c31 k31, (fun_mk (st := s_l_parts_right) l31 c31 k31).binds (ps := ["_law_clocks", "_law_need", "_law_found"]) fun _ _ _ _ _ _ us hl => match us, hl with | [_, _, _], _ => rfl⟩,
    m_l_parts_right := PySem.W.mg_of X G a31,
    f_l_due := f32,
    fd_l_due := PySem.W.fnOf "_law_due" "_law_due" (defArgs s_l_due) (defBody s_l_due) (defScope s_l_due) .none kV32 dc32 pm32 an32 cd32 ct32,
    d_l_due := ⟨fun_mk (st := s_l_due) l32 c32 k32, (fun_mk (st := s_l_due) l32 c32 k32).binds (ps := ["_law_letters", "_law_now", "_law_off_here", "_law_few"]) fun _ _ _ _ _ _ us hl => match us, hl with | [_, _, _, _], _ => rfl⟩,
    m_l_due := PySem.W.mg_of X G a32,
    f_l_sure_right := f33,
    fd_l_sure_right := PySem.W.fnOf "_law_sure_right" "_law_sure_right" (defArgs s_l_sure_right) (defBody s_l_sure_right) (defScope s_l_sure_right) .none kV33 dc33 pm33 an33 cd33 ct33,
    d_l_sure_right := ⟨fun_mk (st := s_l_sure_right) l33 c33 k33, (fun_mk (st := s_l_sure_right) l33 c33 k33).binds (ps := ["_law_letters", "_law_now", "_law_off_here", "_law_few", "_law_found"]) fun _ _ _ _ _ _ us hl => match us, hl with | [_, _, _, _, _], _ => rfl⟩,
    m_l_sure_right := PySem.W.mg_of X G a33,
    f_l_put_due := f34,
    fd_l_put_due := PySem.W.fnOf "_law_put_due" "_law_put_due" (defArgs s_l_put_due) (defBody s_l_put_due) (defScope s_l_put_due) .none kV34 dc34 pm34 an34 cd34 ct34,
    d_l_put_due := ⟨fun_mk (st := s_l_put_due) l34 c34 k34, (fun_mk (st := s_l_put_due) l34 c34 k34).binds (ps := ["_law_own", "_law_letter_here"]) fun _ _ _ _ _ _ us hl => match us, hl with | [_, _], _ => rfl⟩,
    m_l_put_due := PySem.W.mg_of X G a34,
    f_l_put := f35,
    fd_l_put := PySem.W.fnOf "_law_put" "_law_put" (defArgs s_l_put) (defBody s_l_put) (defScope s_l_put) .none kV35 dc35 pm35 an35 cd35 ct35,
    d_l_put := ⟨fun_mk (st := s_l_put) l35 c35 k35, (fun_mk (st := s_l_put) l35 c35 k35).binds (ps := ["_law_watch", "_law_own", "_law_letter_here"]) fun _ _ _ _ _ _ us hl => match us, hl with | [_, _, _], _ => rfl⟩,
    m_l_put := PySem.W.mg_of X G a35,
    f_l_drop := f36,
    fd_l_drop := PySem.W.fnOf "_law_drop" "_law_drop" (defArgs s_l_drop) (defBody s_l_drop) (defScope s_l_drop) .none kV36 dc36 pm36 an36 cd36 ct36,
    d_l_drop := ⟨fun_mk (st := s_l_drop) l36 c36 k36, (fun_mk (st := s_l_drop) l36 c36 k36).binds (ps := ["_law_watch", "_law_own", "_law_name"]) fun _ _ _ _ _ _ us hl => match us, hl with | [_, _, _], _ => rfl⟩,
    m_l_drop := PySem.W.mg_of X G a36,
    f_l_ask := f37,
    fd_l_ask := PySem.W.fnOf "_law_ask" "_law_ask" (defArgs s_l_ask) (defBody s_l_ask) (defScope s_l_ask) .none kV37 dc37 pm37 an37 cd37 ct37,
    d_l_ask := ⟨fun_mk (st := s_l_ask) l37 c37 k37, (fun_mk (st := s_l_ask) l37 c37 k37).binds (ps := ["_law_watch", "_law_own", "_law_off_here", "_law_cell", "_law_held"]) fun _ _ _ _ _ _ us hl => match us, hl with | [_, _, _, _, _], _ => rfl⟩,
    m_l_ask := PySem.W.mg_of X G a37,
    f_l_filled := f38,
    fd_l_filled := PySem.W.fnOf "_law_filled" "_law_filled" (defArgs s_l_filled) (defBody s_l_filled) (defScope s_l_filled) .none kV38 dc38 pm38 an38 cd38 ct38,
    d_l_filled := ⟨fun_mk (st := s_l_filled) l38 c38 k38, (fun_mk (st := s_l_filled) l38 c38 k38).binds (ps := ["_law_watch", "_law_own", "_law_first", "_law_names_here"]) fun _ _ _ _ _ _ us hl => match us, hl with | [_, _, _, _], _ => rfl⟩,
    m_l_filled := PySem.W.mg_of X G a38,
    f_l_deed := f39,
    fd_l_deed := PySem.W.fnOf "_law_deed" "_law_deed" (defArgs s_l_deed) (defBody s_l_deed) (defScope s_l_deed) .none kV39 dc39 pm39 an39 cd39 ct39,
    d_l_deed := ⟨fun_mk (st := s_l_deed) l39 c39 k39, (fun_mk (st := s_l_deed) l39 c39 k39).binds (ps := ["_law_watch", "_law_own", "_law_off_here", "_law_cell", "_law_names_here", "_law_held"]) fun _ _ _ _ _ _ us hl => match us, hl with | [_, _, _, _, _, _], _ => rfl⟩,
    m_l_deed := PySem.W.mg_of X G a39,
    f_l_forty := f40,
    fd_l_forty := PySem.W.fnOf "_law_forty" "_law_forty" (defArgs s_l_forty) (defBody s_l_forty) (defScope s_l_forty) .none kV40 dc40 pm40 an40 cd40 ct40,
    d_l_forty := ⟨fun_mk (st := s_l_forty) l40 c40 k40, (fun_mk (st := s_l_forty) l40 c40 k40).binds (ps := ["_law_watch", "_law_own", "_law_first", "_law_names_here"]) fun _ _ _ _ _ _ us hl => match us, hl with | [_, _, _, _], _ => rfl⟩,
    m_l_forty := PySem.W.mg_of X G a40,
    f_l_no_watch := f41,
    fd_l_no_watch := PySem.W.fnOf "_law_no_watch" "_law_no_watch" (defArgs s_l_no_watch) (defBody s_l_no_watch) (defScope s_l_no_watch) .none kV41 dc41 pm41 an41 cd41 ct41,
    d_l_no_watch := ⟨fun_mk (st := s_l_no_watch) l41 c41 k41, (fun_mk (st := s_l_no_watch) l41 c41 k41).binds (ps := ["_law_off_here"]) fun _ _ _ _ _ _ us hl => match us, hl with | [_], _ => rfl⟩,
    m_l_no_watch := PySem.W.mg_of X G a41,
    f_law := fa,
    fd_law := PySem.W.fnOf "law" "law" (defArgs s_law) (defBody s_law) (defScope s_law) .none kV42 dc42 pm42 an42 cd42 ct42,
    d_law := ⟨fun_mk (st := s_law) l42 c42 k42, (fun_mk (st := s_law) l42 c42 k42).binds (ps := ["_law_script"]) fun _ _ _ _ _ _ us hl => match us, hl with | [_], _ => rfl⟩,
    m_law := PySem.W.mg_of X G a42,
    c_SIGNS := ⟨_, PySem.W.mg_of X G v0⟩,
    c_MOST_SIGNS := ⟨_, PySem.W.mg_of X G v1⟩,
    c_GREATEST := ⟨_, PySem.W.mg_of X G v2⟩,
    c_MOST_OFF := ⟨_, PySem.W.mg_of X G v3⟩,
    c_MOST_LETTERS := ⟨_, PySem.W.mg_of X G v4⟩,
    c_MOST_CLOCKS := ⟨_, PySem.W.mg_of X G v5⟩,
    n_ValueError := PySem.W.mg_none_of X G z0,
    n_max := PySem.W.mg_none_of X G z1,
    n_min := PySem.W.mg_none_of X G z2,
    n_range := PySem.W.mg_none_of X G z3,
    n_sorted := PySem.W.mg_none_of X G z4,
    n_len := PySem.W.mg_none_of X G z5,
    n_list := PySem.W.mg_none_of X G z6,
    n_isinstance := PySem.W.mg_none_of X G z7,
    n_int := PySem.W.mg_none_of X G z8,
    n_bool := PySem.W.mg_none_of X G z9,
    n_tuple := PySem.W.mg_none_of X G z10,
    n_set := PySem.W.mg_none_of X G z11,
    C_StretchError := C_StretchError,
    m_StretchError := PySem.W.mg_of X G g_StretchError,
    C_BadName := C_BadName,
    m_BadName := PySem.W.mg_of X G g_BadName,
    C_BadLetter := C_BadLetter,
    m_BadLetter := PySem.W.mg_of X G g_BadLetter,
    C_BadOff := C_BadOff,
    m_BadOff := PySem.W.mg_of X G g_BadOff,
    C_TooEarly := C_TooEarly,
    m_TooEarly := PySem.W.mg_of X G g_TooEarly,
    C_BadCount := C_BadCount,
    m_BadCount := PySem.W.mg_of X G g_BadCount,
    C_NoAgreement := C_NoAgreement,
    m_NoAgreement := PySem.W.mg_of X G g_NoAgreement,
    C_TooWide := C_TooWide,
    m_TooWide := PySem.W.mg_of X G g_TooWide,
    C_TooMany := C_TooMany,
    m_TooMany := PySem.W.mg_of X G g_TooMany,
    C_NoClock := C_NoClock,
    m_NoClock := PySem.W.mg_of X G g_NoClock,
    C_NoText := C_NoText,
    m_NoText := PySem.W.mg_of X G g_NoText,
    C_Watch := C_Watch,
    k_Watch := ⟨⟨pg_Watch, hd_Watch, po_Watch, sa_Watch⟩, PySem.W.mg_of X G g_Watch, ⟨mk_Watch, a12, i12, kc_Watch⟩, List.forall_mem_cons.mpr ⟨nf_Watch_off, List.forall_mem_cons.mpr ⟨nf_Watch_letters, fun _ z => by cases z⟩⟩⟩,
    x_BadName := ⟨e1_BadName, e2_BadName, e3_BadName, ⟨e4_BadName, e5_BadName, e6_BadName, e7_BadName, e8_BadName, eN, eT, e9_BadName⟩⟩,
    t_BadName := Ts.exm_own j3 j1_StretchError j2_StretchError t_BadName,
    i_BadName_BadName := Ts.kit_self,
    i_BadName_BadLetter := Ts.kit_no i_BadName_BadName i_BadName_BadLetter j1_BadLetter j2_BadLetter,
    i_BadName_BadOff := Ts.kit_no i_BadName_BadName i_BadName_BadOff j1_BadOff j2_BadOff,
    i_BadName_TooEarly := Ts.kit_no i_BadName_BadName i_BadName_TooEarly j1_TooEarly j2_TooEarly,
    i_BadName_BadCount := Ts.kit_no i_BadName_BadName i_BadName_BadCount j1_BadCount j2_BadCount,
    i_BadName_NoAgreement := Ts.kit_no i_BadName_BadName i_BadName_NoAgreement j1_NoAgreement j2_NoAgreement,
    i_BadName_TooWide := Ts.kit_no i_BadName_BadName i_BadName_TooWide j1_TooWide j2_TooWide,
    i_BadName_TooMany := Ts.kit_no i_BadName_BadName i_BadName_TooMany j1_TooMany j2_TooMany,
    i_BadName_NoClock := Ts.kit_no i_BadName_BadName i_BadName_NoClock j1_NoClock j2_NoClock,
    i_BadName_NoText := Ts.kit_no i_BadName_BadName i_BadName_NoText j1_NoText j2_NoText,
    i_BadName_ValueError := Ts.kit_bt i_BadName_ValueError (by decide +kernel),
    x_BadLetter := ⟨e1_BadLetter, e2_BadLetter, e3_BadLetter, ⟨e4_BadLetter, e5_BadLetter, e6_BadLetter, e7_BadLetter, e8_BadLetter, eN, eT, e9_BadLetter⟩⟩,
    t_BadLetter := Ts.exm_own j3 j1_StretchError j2_StretchError t_BadLetter,
    i_BadLetter_BadName := Ts.kit_no i_BadLetter_BadLetter i_BadLetter_BadName j1_BadName j2_BadName,
    i_BadLetter_BadLetter := Ts.kit_self,
    i_BadLetter_BadOff := Ts.kit_no i_BadLetter_BadLetter i_BadLetter_BadOff j1_BadOff j2_BadOff,
    i_BadLetter_TooEarly := Ts.kit_no i_BadLetter_BadLetter i_BadLetter_TooEarly j1_TooEarly j2_TooEarly,
    i_BadLetter_BadCount := Ts.kit_no i_BadLetter_BadLetter i_BadLetter_BadCount j1_BadCount j2_BadCount,
    i_BadLetter_NoAgreement := Ts.kit_no i_BadLetter_BadLetter i_BadLetter_NoAgreement j1_NoAgreement j2_NoAgreement,
    i_BadLetter_TooWide := Ts.kit_no i_BadLetter_BadLetter i_BadLetter_TooWide j1_TooWide j2_TooWide,
    i_BadLetter_TooMany := Ts.kit_no i_BadLetter_BadLetter i_BadLetter_TooMany j1_TooMany j2_TooMany,
    i_BadLetter_NoClock := Ts.kit_no i_BadLetter_BadLetter i_BadLetter_NoClock j1_NoClock j2_NoClock,
    i_BadLetter_NoText := Ts.kit_no i_BadLetter_BadLetter i_BadLetter_NoText j1_NoText j2_NoText,
    i_BadLetter_ValueError := Ts.kit_bt i_BadLetter_ValueError (by decide +kernel),
    x_BadOff := ⟨e1_BadOff, e2_BadOff, e3_BadOff, ⟨e4_BadOff, e5_BadOff, e6_BadOff, e7_BadOff, e8_BadOff, eN, eT, e9_BadOff⟩⟩,
    t_BadOff := Ts.exm_own j3 j1_StretchError j2_StretchError t_BadOff,
    i_BadOff_BadName := Ts.kit_no i_BadOff_BadOff i_BadOff_BadName j1_BadName j2_BadName,
    i_BadOff_BadLetter := Ts.kit_no i_BadOff_BadOff i_BadOff_BadLetter j1_BadLetter j2_BadLetter,
    i_BadOff_BadOff := Ts.kit_self,
    i_BadOff_TooEarly := Ts.kit_no i_BadOff_BadOff i_BadOff_TooEarly j1_TooEarly j2_TooEarly,
    i_BadOff_BadCount := Ts.kit_no i_BadOff_BadOff i_BadOff_BadCount j1_BadCount j2_BadCount,
    i_BadOff_NoAgreement := Ts.kit_no i_BadOff_BadOff i_BadOff_NoAgreement j1_NoAgreement j2_NoAgreement,
    i_BadOff_TooWide := Ts.kit_no i_BadOff_BadOff i_BadOff_TooWide j1_TooWide j2_TooWide,
    i_BadOff_TooMany := Ts.kit_no i_BadOff_BadOff i_BadOff_TooMany j1_TooMany j2_TooMany,
    i_BadOff_NoClock := Ts.kit_no i_BadOff_BadOff i_BadOff_NoClock j1_NoClock j2_NoClock,
    i_BadOff_NoText := Ts.kit_no i_BadOff_BadOff i_BadOff_NoText j1_NoText j2_NoText,
    i_BadOff_ValueError := Ts.kit_bt i_BadOff_ValueError (by decide +kernel),
    x_TooEarly := ⟨e1_TooEarly, e2_TooEarly, e3_TooEarly, ⟨e4_TooEarly, e5_TooEarly, e6_TooEarly, e7_TooEarly, e8_TooEarly, eN, eT, e9_TooEarly⟩⟩,
    t_TooEarly := Ts.exm_own j3 j1_StretchError j2_StretchError t_TooEarly,
    i_TooEarly_BadName := Ts.kit_no i_TooEarly_TooEarly i_TooEarly_BadName j1_BadName j2_BadName,
    i_TooEarly_BadLetter := Ts.kit_no i_TooEarly_TooEarly i_TooEarly_BadLetter j1_BadLetter j2_BadLetter,
    i_TooEarly_BadOff := Ts.kit_no i_TooEarly_TooEarly i_TooEarly_BadOff j1_BadOff j2_BadOff,
    i_TooEarly_TooEarly := Ts.kit_self,
    i_TooEarly_BadCount := Ts.kit_no i_TooEarly_TooEarly i_TooEarly_BadCount j1_BadCount j2_BadCount,
    i_TooEarly_NoAgreement := Ts.kit_no i_TooEarly_TooEarly i_TooEarly_NoAgreement j1_NoAgreement j2_NoAgreement,
    i_TooEarly_TooWide := Ts.kit_no i_TooEarly_TooEarly i_TooEarly_TooWide j1_TooWide j2_TooWide,
    i_TooEarly_TooMany := Ts.kit_no i_TooEarly_TooEarly i_TooEarly_TooMany j1_TooMany j2_TooMany,
    i_TooEarly_NoClock := Ts.kit_no i_TooEarly_TooEarly i_TooEarly_NoClock j1_NoClock j2_NoClock,
    i_TooEarly_NoText := Ts.kit_no i_TooEarly_TooEarly i_TooEarly_NoText j1_NoText j2_NoText,
    i_TooEarly_ValueError := Ts.kit_bt i_TooEarly_ValueError (by decide +kernel),
    x_BadCount := ⟨e1_BadCount, e2_BadCount, e3_BadCount, ⟨e4_BadCount, e5_BadCount, e6_BadCount, e7_BadCount, e8_BadCount, eN, eT, e9_BadCount⟩⟩,
    t_BadCount := Ts.exm_own j3 j1_StretchError j2_StretchError t_BadCount,
    i_BadCount_BadName := Ts.kit_no i_BadCount_BadCount i_BadCount_BadName j1_BadName j2_BadName,
    i_BadCount_BadLetter := Ts.kit_no i_BadCount_BadCount i_BadCount_BadLetter j1_BadLetter j2_BadLetter,
    i_BadCount_BadOff := Ts.kit_no i_BadCount_BadCount i_BadCount_BadOff j1_BadOff j2_BadOff,
    i_BadCount_TooEarly := Ts.kit_no i_BadCount_BadCount i_BadCount_TooEarly j1_TooEarly j2_TooEarly,
    i_BadCount_BadCount := Ts.kit_self,
    i_BadCount_NoAgreement := Ts.kit_no i_BadCount_BadCount i_BadCount_NoAgreement j1_NoAgreement j2_NoAgreement,
    i_BadCount_TooWide := Ts.kit_no i_BadCount_BadCount i_BadCount_TooWide j1_TooWide j2_TooWide,
    i_BadCount_TooMany := Ts.kit_no i_BadCount_BadCount i_BadCount_TooMany j1_TooMany j2_TooMany,
    i_BadCount_NoClock := Ts.kit_no i_BadCount_BadCount i_BadCount_NoClock j1_NoClock j2_NoClock,
    i_BadCount_NoText := Ts.kit_no i_BadCount_BadCount i_BadCount_NoText j1_NoText j2_NoText,
    i_BadCount_ValueError := Ts.kit_bt i_BadCount_ValueError (by decide +kernel),
    x_NoAgreement := ⟨e1_NoAgreement, e2_NoAgreement, e3_NoAgreement, ⟨e4_NoAgreement, e5_NoAgreement, e6_NoAgreement, e7_NoAgreement, e8_NoAgreement, eN, eT, e9_NoAgreement⟩⟩,
    t_NoAgreement := Ts.exm_own j3 j1_StretchError j2_StretchError t_NoAgreement,
    i_NoAgreement_BadName := Ts.kit_no i_NoAgreement_NoAgreement i_NoAgreement_BadName j1_BadName j2_BadName,
    i_NoAgreement_BadLetter := Ts.kit_no i_NoAgreement_NoAgreement i_NoAgreement_BadLetter j1_BadLetter j2_BadLetter,
    i_NoAgreement_BadOff := Ts.kit_no i_NoAgreement_NoAgreement i_NoAgreement_BadOff j1_BadOff j2_BadOff,
    i_NoAgreement_TooEarly := Ts.kit_no i_NoAgreement_NoAgreement i_NoAgreement_TooEarly j1_TooEarly j2_TooEarly,
    i_NoAgreement_BadCount := Ts.kit_no i_NoAgreement_NoAgreement i_NoAgreement_BadCount j1_BadCount j2_BadCount,
    i_NoAgreement_NoAgreement := Ts.kit_self,
    i_NoAgreement_TooWide := Ts.kit_no i_NoAgreement_NoAgreement i_NoAgreement_TooWide j1_TooWide j2_TooWide,
    i_NoAgreement_TooMany := Ts.kit_no i_NoAgreement_NoAgreement i_NoAgreement_TooMany j1_TooMany j2_TooMany,
    i_NoAgreement_NoClock := Ts.kit_no i_NoAgreement_NoAgreement i_NoAgreement_NoClock j1_NoClock j2_NoClock,
    i_NoAgreement_NoText := Ts.kit_no i_NoAgreement_NoAgreement i_NoAgreement_NoText j1_NoText j2_NoText,
    i_NoAgreement_ValueError := Ts.kit_bt i_NoAgreement_ValueError (by decide +kernel),
    x_TooMany := ⟨e1_TooMany, e2_TooMany, e3_TooMany, ⟨e4_TooMany, e5_TooMany, e6_TooMany, e7_TooMany, e8_TooMany, eN, eT, e9_TooMany⟩⟩,
    t_TooMany := Ts.exm_own j3 j1_StretchError j2_StretchError t_TooMany,
    i_TooMany_BadName := Ts.kit_no i_TooMany_TooMany i_TooMany_BadName j1_BadName j2_BadName,
    i_TooMany_BadLetter := Ts.kit_no i_TooMany_TooMany i_TooMany_BadLetter j1_BadLetter j2_BadLetter,
    i_TooMany_BadOff := Ts.kit_no i_TooMany_TooMany i_TooMany_BadOff j1_BadOff j2_BadOff,
    i_TooMany_TooEarly := Ts.kit_no i_TooMany_TooMany i_TooMany_TooEarly j1_TooEarly j2_TooEarly,
    i_TooMany_BadCount := Ts.kit_no i_TooMany_TooMany i_TooMany_BadCount j1_BadCount j2_BadCount,
    i_TooMany_NoAgreement := Ts.kit_no i_TooMany_TooMany i_TooMany_NoAgreement j1_NoAgreement j2_NoAgreement,
    i_TooMany_TooWide := Ts.kit_no i_TooMany_TooMany i_TooMany_TooWide j1_TooWide j2_TooWide,
    i_TooMany_TooMany := Ts.kit_self,
    i_TooMany_NoClock := Ts.kit_no i_TooMany_TooMany i_TooMany_NoClock j1_NoClock j2_NoClock,
    i_TooMany_NoText := Ts.kit_no i_TooMany_TooMany i_TooMany_NoText j1_NoText j2_NoText,
    i_TooMany_ValueError := Ts.kit_bt i_TooMany_ValueError (by decide +kernel),
    x_NoClock := ⟨e1_NoClock, e2_NoClock, e3_NoClock, ⟨e4_NoClock, e5_NoClock, e6_NoClock, e7_NoClock, e8_NoClock, eN, eT, e9_NoClock⟩⟩,
    t_NoClock := Ts.exm_own j3 j1_StretchError j2_StretchError t_NoClock,
    i_NoClock_BadName := Ts.kit_no i_NoClock_NoClock i_NoClock_BadName j1_BadName j2_BadName,
    i_NoClock_BadLetter := Ts.kit_no i_NoClock_NoClock i_NoClock_BadLetter j1_BadLetter j2_BadLetter,
    i_NoClock_BadOff := Ts.kit_no i_NoClock_NoClock i_NoClock_BadOff j1_BadOff j2_BadOff,
    i_NoClock_TooEarly := Ts.kit_no i_NoClock_NoClock i_NoClock_TooEarly j1_TooEarly j2_TooEarly,
    i_NoClock_BadCount := Ts.kit_no i_NoClock_NoClock i_NoClock_BadCount j1_BadCount j2_BadCount,
    i_NoClock_NoAgreement := Ts.kit_no i_NoClock_NoClock i_NoClock_NoAgreement j1_NoAgreement j2_NoAgreement,
    i_NoClock_TooWide := Ts.kit_no i_NoClock_NoClock i_NoClock_TooWide j1_TooWide j2_TooWide,
    i_NoClock_TooMany := Ts.kit_no i_NoClock_NoClock i_NoClock_TooMany j1_TooMany j2_TooMany,
    i_NoClock_NoClock := Ts.kit_self,
    i_NoClock_NoText := Ts.kit_no i_NoClock_NoClock i_NoClock_NoText j1_NoText j2_NoText,
    i_NoClock_ValueError := Ts.kit_bt i_NoClock_ValueError (by decide +kernel) }
  exact ⟨T.fd_law, fun s v => .of_eq rfl, fun base _ _ => ok_law T⟩
end Law
open PySem PySem.W PyProof.Rows
set_option maxHeartbeats 0 in
theorem PySem.Challenge.cw_timestretch_k10_watches_kept_holds : PySem.Challenge.rw_timestretch_k10_watches_kept.Holds := by
  w_on; o_law; k_head; (case hw => w_witness2)
  k_fill
  refine L2.walk_of (l := PySem.Challenge.rw_timestretch_k10_watches_kept) (n := 63) (k := 8) (x := "_law_script") (CX := fun _ => L2.CX0) (sp := fun w => Law.spLaw _) rfl (by decide) rfl ⟨rfl, by decide, by decide⟩ (fun w h Y => PySem.W.kIn_of Y) ?F (fun _ _ a ns hl _ hS => ⟨a, ns, rfl, hS, hl, fun _ => rfl⟩) (fun _ _ _ _ _ h => h)
  case F =>
    intro w mg fa h KX G hmg
    refine' Law.all_mk KX G hmg ?a1 ?l1 ?c1 ?k1 ?a2 ?l2 ?c2 ?k2 ?a3 ?l3 ?c3 ?k3 ?a4 ?l4 ?c4 ?k4 ?a5 ?l5 ?c5 ?k5 ?a6 ?l6 ?c6 ?k6 ?a7 ?l7 ?c7 ?k7 ?a8 ?l8 ?c8 ?k8 ?a9 ?l9 ?c9 ?k9 ?a10 ?l10 ?c10 ?k10 ?a11 ?l11 ?c11 ?k11 ?t11 ?a12 ?l12 ?c12 ?k12 ?i12 ?a13 ?l13 ?c13 ?k13 ?i13 ?a14 ?l14 ?c14 ?k14 ?i14 ?a15 ?l15 ?c15 ?k15 ?t15 ?i15 ?a16 ?l16 ?c16 ?k16 ?a17 ?l17 ?c17 ?k17 ?a18 ?l18 ?c18 ?k18 ?a19 ?l19 ?c19 ?k19 ?a20 ?l20 ?c20 ?k20 ?a21 ?l21 ?c21 ?k21 ?a22 ?l22 ?c22 ?k22 ?a23 ?l23 ?c23 ?k23 ?a24 ?l24 ?c24 ?k24 ?a25 ?l25 ?c25 ?k25 ?a26 ?l26 ?c26 ?k26 ?a27 ?l27 ?c27 ?k27 ?a28 ?l28 ?c28 ?k28 ?a29 ?l29 ?c29 ?k29 ?a30 ?l30 ?c30 ?k30 ?a31 ?l31 ?c31 ?k31 ?a32 ?l32 ?c32 ?k32 ?a33 ?l33 ?c33 ?k33 ?a34 ?l34 ?c34 ?k34 ?a35 ?l35 ?c35 ?k35 ?a36 ?l36 ?c36 ?k36 ?a37 ?l37 ?c37 ?k37 ?a38 ?l38 ?c38 ?k38 ?a39 ?l39 ?c39 ?k39 ?a40 ?l40 ?c40 ?k40 ?a41 ?l41 ?c41 ?k41 ?a42 ?l42 ?c42 ?k42 ?v0 ?v1 ?v2 ?v3 ?v4 ?v5 ?z0 ?z1 ?z2 ?z3 ?z4 ?z5 ?z6 ?z7 ?z8 ?z9 ?z10 ?z11 ?g_StretchError ?g_BadName ?g_BadLetter ?g_BadOff ?g_TooEarly ?g_BadCount ?g_NoAgreement ?g_TooWide ?g_TooMany ?g_NoClock ?g_NoText ?g_Watch ?pg_Watch ?hd_Watch ?po_Watch ?sa_Watch ?mk_Watch ?kc_Watch ?nf_Watch_off ?nf_Watch_letters ?eN ?eT ?j1_BadName ?j2_BadName ?j1_BadLetter ?j2_BadLetter ?j1_BadOff ?j2_BadOff ?j1_TooEarly ?j2_TooEarly ?j1_BadCount ?j2_BadCount ?j1_NoAgreement ?j2_NoAgreement ?j1_TooWide ?j2_TooWide ?j1_TooMany ?j2_TooMany ?j1_NoClock ?j2_NoClock ?j1_NoText ?j2_NoText ?j1_StretchError ?j2_StretchError ?j3 ?e1_BadName ?e2_BadName ?e3_BadName ?e4_BadName ?e5_BadName ?e6_BadName ?e7_BadName ?e8_BadName ?e9_BadName ?t_BadName ?i_BadName_BadName ?i_BadName_BadLetter ?i_BadName_BadOff ?i_BadName_TooEarly ?i_BadName_BadCount ?i_BadName_NoAgreement ?i_BadName_TooWide ?i_BadName_TooMany ?i_BadName_NoClock ?i_BadName_NoText ?i_BadName_ValueError ?e1_BadLetter ?e2_BadLetter ?e3_BadLetter ?e4_BadLetter ?e5_BadLetter ?e6_BadLetter ?e7_BadLetter ?e8_BadLetter ?e9_BadLetter ?t_BadLetter ?i_BadLetter_BadName ?i_BadLetter_BadLetter ?i_BadLetter_BadOff ?i_BadLetter_TooEarly ?i_BadLetter_BadCount ?i_BadLetter_NoAgreement ?i_BadLetter_TooWide ?i_BadLetter_TooMany ?i_BadLetter_NoClock ?i_BadLetter_NoText ?i_BadLetter_ValueError ?e1_BadOff ?e2_BadOff ?e3_BadOff ?e4_BadOff ?e5_BadOff ?e6_BadOff ?e7_BadOff ?e8_BadOff ?e9_BadOff ?t_BadOff ?i_BadOff_BadName ?i_BadOff_BadLetter ?i_BadOff_BadOff ?i_BadOff_TooEarly ?i_BadOff_BadCount ?i_BadOff_NoAgreement ?i_BadOff_TooWide ?i_BadOff_TooMany ?i_BadOff_NoClock ?i_BadOff_NoText ?i_BadOff_ValueError ?e1_TooEarly ?e2_TooEarly ?e3_TooEarly ?e4_TooEarly ?e5_TooEarly ?e6_TooEarly ?e7_TooEarly ?e8_TooEarly ?e9_TooEarly ?t_TooEarly ?i_TooEarly_BadName ?i_TooEarly_BadLetter ?i_TooEarly_BadOff ?i_TooEarly_TooEarly ?i_TooEarly_BadCount ?i_TooEarly_NoAgreement ?i_TooEarly_TooWide ?i_TooEarly_TooMany ?i_TooEarly_NoClock ?i_TooEarly_NoText ?i_TooEarly_ValueError ?e1_BadCount ?e2_BadCount ?e3_BadCount ?e4_BadCount ?e5_BadCount ?e6_BadCount ?e7_BadCount ?e8_BadCount ?e9_BadCount ?t_BadCount ?i_BadCount_BadName ?i_BadCount_BadLetter ?i_BadCount_BadOff ?i_BadCount_TooEarly ?i_BadCount_BadCount ?i_BadCount_NoAgreement ?i_BadCount_TooWide ?i_BadCount_TooMany ?i_BadCount_NoClock ?i_BadCount_NoText ?i_BadCount_ValueError ?e1_NoAgreement ?e2_NoAgreement ?e3_NoAgreement ?e4_NoAgreement ?e5_NoAgreement ?e6_NoAgreement ?e7_NoAgreement ?e8_NoAgreement ?e9_NoAgreement ?t_NoAgreement ?i_NoAgreement_BadName ?i_NoAgreement_BadLetter ?i_NoAgreement_BadOff ?i_NoAgreement_TooEarly ?i_NoAgreement_BadCount ?i_NoAgreement_NoAgreement ?i_NoAgreement_TooWide ?i_NoAgreement_TooMany ?i_NoAgreement_NoClock ?i_NoAgreement_NoText ?i_NoAgreement_ValueError ?e1_TooMany ?e2_TooMany ?e3_TooMany ?e4_TooMany ?e5_TooMany ?e6_TooMany ?e7_TooMany ?e8_TooMany ?e9_TooMany ?t_TooMany ?i_TooMany_BadName ?i_TooMany_BadLetter ?i_TooMany_BadOff ?i_TooMany_TooEarly ?i_TooMany_BadCount ?i_TooMany_NoAgreement ?i_TooMany_TooWide ?i_TooMany_TooMany ?i_TooMany_NoClock ?i_TooMany_NoText ?i_TooMany_ValueError ?e1_NoClock ?e2_NoClock ?e3_NoClock ?e4_NoClock ?e5_NoClock ?e6_NoClock ?e7_NoClock ?e8_NoClock ?e9_NoClock ?t_NoClock ?i_NoClock_BadName ?i_NoClock_BadLetter ?i_NoClock_BadOff ?i_NoClock_TooEarly ?i_NoClock_BadCount ?i_NoClock_NoAgreement ?i_NoClock_TooWide ?i_NoClock_TooMany ?i_NoClock_NoClock ?i_NoClock_NoText ?i_NoClock_ValueError
    (case g_StretchError => k_is)
    (case g_BadName => k_is)
    (case g_BadLetter => k_is)
    (case g_BadOff => k_is)
    (case g_TooEarly => k_is)
    (case g_BadCount => k_is)
    (case g_NoAgreement => k_is)
    (case g_TooWide => k_is)
    (case g_TooMany => k_is)
    (case g_NoClock => k_is)
    (case g_NoText => k_is)
    (case g_Watch => k_is)
    (case a1 => k_is)
    (case l1 => k_is)
    (case c1 => k_is)
    (case k1 => k_is)
    (case a2 => k_is)
    (case l2 => k_is)
    (case c2 => k_is)
    (case k2 => k_is)
    (case a3 => k_is)
    (case l3 => k_is)
    (case c3 => k_is)
    (case k3 => k_is)
    (case a4 => k_is)
    (case l4 => k_is)
    (case c4 => k_is)
    (case k4 => k_is)
    (case a5 => k_is)
    (case l5 => k_is)
    (case c5 => k_is)
    (case k5 => k_is)
    (case a6 => k_is)
    (case l6 => k_is)
    (case c6 => k_is)
    (case k6 => k_is)
    (case a7 => k_is)
    (case l7 => k_is)
    (case c7 => k_is)
    (case k7 => k_is)
    (case a8 => k_is)
    (case l8 => k_is)
    (case c8 => k_is)
    (case k8 => k_is)
    (case a9 => k_is)
    (case l9 => k_is)
    (case c9 => k_is)
    (case k9 => k_is)
    (case a10 => k_is)
    (case l10 => k_is)
    (case c10 => k_is)
    (case k10 => k_is)
    (case a11 => k_is)
    (case l11 => k_is)
    (case c11 => k_is)
    (case k11 => k_is)
    (case t11 => k_is)
    (case a12 => k_is)
    (case l12 => k_is)
    (case c12 => k_is)
    (case k12 => k_is)
    (case i12 => k_is)
    (case a13 => k_is)
    (case l13 => k_is)
    (case c13 => k_is)
    (case k13 => k_is)
    (case i13 => k_is)
    (case a14 => k_is)
    (case l14 => k_is)
    (case c14 => k_is)
    (case k14 => k_is)
    (case i14 => k_is)
    (case a15 => k_is)
    (case l15 => k_is)
    (case c15 => k_is)
    (case k15 => k_is)
    (case t15 => k_is)
    (case i15 => k_is)
    (case a16 => k_is)
    (case l16 => k_is)
    (case c16 => k_is)
    (case k16 => k_is)
    (case a17 => k_is)
    (case l17 => k_is)
    (case c17 => k_is)
    (case k17 => k_is)
    (case a18 => k_is)
    (case l18 => k_is)
    (case c18 => k_is)
    (case k18 => k_is)
    (case a19 => k_is)
    (case l19 => k_is)
    (case c19 => k_is)
    (case k19 => k_is)
    (case a20 => k_is)
    (case l20 => k_is)
    (case c20 => k_is)
    (case k20 => k_is)
    (case a21 => k_is)
    (case l21 => k_is)
    (case c21 => k_is)
    (case k21 => k_is)
    (case a22 => k_is)
    (case l22 => k_is)
    (case c22 => k_is)
    (case k22 => k_is)
    (case a23 => k_is)
    (case l23 => k_is)
    (case c23 => k_is)
    (case k23 => k_is)
    (case a24 => k_is)
    (case l24 => k_is)
    (case c24 => k_is)
    (case k24 => k_is)
    (case a25 => k_is)
    (case l25 => k_is)
    (case c25 => k_is)
    (case k25 => k_is)
    (case a26 => k_is)
    (case l26 => k_is)
    (case c26 => k_is)
    (case k26 => k_is)
    (case a27 => k_is)
    (case l27 => k_is)
    (case c27 => k_is)
    (case k27 => k_is)
    (case a28 => k_is)
    (case l28 => k_is)
    (case c28 => k_is)
    (case k28 => k_is)
    (case a29 => k_is)
    (case l29 => k_is)
    (case c29 => k_is)
    (case k29 => k_is)
    (case a30 => k_is)
    (case l30 => k_is)
    (case c30 => k_is)
    (case k30 => k_is)
    (case a31 => k_is)
    (case l31 => k_is)
    (case c31 => k_is)
    (case k31 => k_is)
    (case a32 => k_is)
    (case l32 => k_is)
    (case c32 => k_is)
    (case k32 => k_is)
    (case a33 => k_is)
    (case l33 => k_is)
    (case c33 => k_is)
    (case k33 => k_is)
    (case a34 => k_is)
    (case l34 => k_is)
    (case c34 => k_is)
    (case k34 => k_is)
    (case a35 => k_is)
    (case l35 => k_is)
    (case c35 => k_is)
    (case k35 => k_is)
    (case a36 => k_is)
    (case l36 => k_is)
    (case c36 => k_is)
    (case k36 => k_is)
    (case a37 => k_is)
    (case l37 => k_is)
    (case c37 => k_is)
    (case k37 => k_is)
    (case a38 => k_is)
    (case l38 => k_is)
    (case c38 => k_is)
    (case k38 => k_is)
    (case a39 => k_is)
    (case l39 => k_is)
    (case c39 => k_is)
    (case k39 => k_is)
    (case a40 => k_is)
    (case l40 => k_is)
    (case c40 => k_is)
    (case k40 => k_is)
    (case a41 => k_is)
    (case l41 => k_is)
    (case c41 => k_is)
    (case k41 => k_is)
    (case a42 => k_is)
    (case l42 => k_is)
    (case c42 => k_is)
    (case k42 => k_is)
    (case v0 => k_is)
    (case v1 => k_is)
    (case v2 => k_is)
    (case v3 => k_is)
    (case v4 => k_is)
    (case v5 => k_is)
    (case z0 => k_is)
    (case z1 => k_is)
    (case z2 => k_is)
    (case z3 => k_is)
    (case z4 => k_is)
    (case z5 => k_is)
    (case z6 => k_is)
    (case z7 => k_is)
    (case z8 => k_is)
    (case z9 => k_is)
    (case z10 => k_is)
    (case z11 => k_is)
    (case pg_Watch => k_is)
    (case hd_Watch => k_is)
    (case po_Watch => k_is)
    (case sa_Watch => k_is)
    (case mk_Watch => k_is)
    (case kc_Watch => k_is)
    (case nf_Watch_off => k_is)
    (case nf_Watch_letters => k_is)
    (case eN => k_is)
    (case eT => k_is)
    (case j1_BadName => k_is)
    (case j2_BadName => k_is)
    (case j1_BadLetter => k_is)
    (case j2_BadLetter => k_is)
    (case j1_BadOff => k_is)
    (case j2_BadOff => k_is)
    (case j1_TooEarly => k_is)
    (case j2_TooEarly => k_is)
    (case j1_BadCount => k_is)
    (case j2_BadCount => k_is)
    (case j1_NoAgreement => k_is)
    (case j2_NoAgreement => k_is)
    (case j1_TooWide => k_is)
    (case j2_TooWide => k_is)
    (case j1_TooMany => k_is)
    (case j2_TooMany => k_is)
    (case j1_NoClock => k_is)
    (case j2_NoClock => k_is)
    (case j1_NoText => k_is)
    (case j2_NoText => k_is)
    (case j1_StretchError => k_is)
    (case j2_StretchError => k_is)
    (case j3 => k_is)
    (case e1_BadName => k_exc)
    (case e2_BadName => k_is)
    (case e3_BadName => k_is)
    (case e4_BadName => k_is)
    (case e5_BadName => k_is)
    (case e6_BadName => k_is)
    (case e7_BadName => k_is)
    (case e8_BadName => k_is)
    (case e9_BadName => k_is)
    (case t_BadName => k_is)
    (case i_BadName_BadName => k_is)
    (case i_BadName_BadLetter => k_is)
    (case i_BadName_BadOff => k_is)
    (case i_BadName_TooEarly => k_is)
    (case i_BadName_BadCount => k_is)
    (case i_BadName_NoAgreement => k_is)
    (case i_BadName_TooWide => k_is)
    (case i_BadName_TooMany => k_is)
    (case i_BadName_NoClock => k_is)
    (case i_BadName_NoText => k_is)
    (case i_BadName_ValueError => k_is)
    (case e1_BadLetter => k_exc)
    (case e2_BadLetter => k_is)
    (case e3_BadLetter => k_is)
    (case e4_BadLetter => k_is)
    (case e5_BadLetter => k_is)
    (case e6_BadLetter => k_is)
    (case e7_BadLetter => k_is)
    (case e8_BadLetter => k_is)
    (case e9_BadLetter => k_is)
    (case t_BadLetter => k_is)
    (case i_BadLetter_BadName => k_is)
    (case i_BadLetter_BadLetter => k_is)
    (case i_BadLetter_BadOff => k_is)
    (case i_BadLetter_TooEarly => k_is)
    (case i_BadLetter_BadCount => k_is)
    (case i_BadLetter_NoAgreement => k_is)
    (case i_BadLetter_TooWide => k_is)
    (case i_BadLetter_TooMany => k_is)
    (case i_BadLetter_NoClock => k_is)
    (case i_BadLetter_NoText => k_is)
    (case i_BadLetter_ValueError => k_is)
    (case e1_BadOff => k_exc)
    (case e2_BadOff => k_is)
    (case e3_BadOff => k_is)
    (case e4_BadOff => k_is)
    (case e5_BadOff => k_is)
    (case e6_BadOff => k_is)
    (case e7_BadOff => k_is)
    (case e8_BadOff => k_is)
    (case e9_BadOff => k_is)
    (case t_BadOff => k_is)
    (case i_BadOff_BadName => k_is)
    (case i_BadOff_BadLetter => k_is)
    (case i_BadOff_BadOff => k_is)
    (case i_BadOff_TooEarly => k_is)
    (case i_BadOff_BadCount => k_is)
    (case i_BadOff_NoAgreement => k_is)
    (case i_BadOff_TooWide => k_is)
    (case i_BadOff_TooMany => k_is)
    (case i_BadOff_NoClock => k_is)
    (case i_BadOff_NoText => k_is)
    (case i_BadOff_ValueError => k_is)
    (case e1_TooEarly => k_exc)
    (case e2_TooEarly => k_is)
    (case e3_TooEarly => k_is)
    (case e4_TooEarly => k_is)
    (case e5_TooEarly => k_is)
    (case e6_TooEarly => k_is)
    (case e7_TooEarly => k_is)
    (case e8_TooEarly => k_is)
    (case e9_TooEarly => k_is)
    (case t_TooEarly => k_is)
    (case i_TooEarly_BadName => k_is)
    (case i_TooEarly_BadLetter => k_is)
    (case i_TooEarly_BadOff => k_is)
    (case i_TooEarly_TooEarly => k_is)
    (case i_TooEarly_BadCount => k_is)
    (case i_TooEarly_NoAgreement => k_is)
    (case i_TooEarly_TooWide => k_is)
    (case i_TooEarly_TooMany => k_is)
    (case i_TooEarly_NoClock => k_is)
    (case i_TooEarly_NoText => k_is)
    (case i_TooEarly_ValueError => k_is)
    (case e1_BadCount => k_exc)
    (case e2_BadCount => k_is)
    (case e3_BadCount => k_is)
    (case e4_BadCount => k_is)
    (case e5_BadCount => k_is)
    (case e6_BadCount => k_is)
    (case e7_BadCount => k_is)
    (case e8_BadCount => k_is)
    (case e9_BadCount => k_is)
    (case t_BadCount => k_is)
    (case i_BadCount_BadName => k_is)
    (case i_BadCount_BadLetter => k_is)
    (case i_BadCount_BadOff => k_is)
    (case i_BadCount_TooEarly => k_is)
    (case i_BadCount_BadCount => k_is)
    (case i_BadCount_NoAgreement => k_is)
    (case i_BadCount_TooWide => k_is)
    (case i_BadCount_TooMany => k_is)
    (case i_BadCount_NoClock => k_is)
    (case i_BadCount_NoText => k_is)
    (case i_BadCount_ValueError => k_is)
    (case e1_NoAgreement => k_exc)
    (case e2_NoAgreement => k_is)
    (case e3_NoAgreement => k_is)
    (case e4_NoAgreement => k_is)
    (case e5_NoAgreement => k_is)
    (case e6_NoAgreement => k_is)
    (case e7_NoAgreement => k_is)
    (case e8_NoAgreement => k_is)
    (case e9_NoAgreement => k_is)
    (case t_NoAgreement => k_is)
    (case i_NoAgreement_BadName => k_is)
    (case i_NoAgreement_BadLetter => k_is)
    (case i_NoAgreement_BadOff => k_is)
    (case i_NoAgreement_TooEarly => k_is)
    (case i_NoAgreement_BadCount => k_is)
    (case i_NoAgreement_NoAgreement => k_is)
    (case i_NoAgreement_TooWide => k_is)
    (case i_NoAgreement_TooMany => k_is)
    (case i_NoAgreement_NoClock => k_is)
    (case i_NoAgreement_NoText => k_is)
    (case i_NoAgreement_ValueError => k_is)
    (case e1_TooMany => k_exc)
    (case e2_TooMany => k_is)
    (case e3_TooMany => k_is)
    (case e4_TooMany => k_is)
    (case e5_TooMany => k_is)
    (case e6_TooMany => k_is)
    (case e7_TooMany => k_is)
    (case e8_TooMany => k_is)
    (case e9_TooMany => k_is)
    (case t_TooMany => k_is)
    (case i_TooMany_BadName => k_is)
    (case i_TooMany_BadLetter => k_is)
    (case i_TooMany_BadOff => k_is)
    (case i_TooMany_TooEarly => k_is)
    (case i_TooMany_BadCount => k_is)
    (case i_TooMany_NoAgreement => k_is)
    (case i_TooMany_TooWide => k_is)
    (case i_TooMany_TooMany => k_is)
    (case i_TooMany_NoClock => k_is)
    (case i_TooMany_NoText => k_is)
    (case i_TooMany_ValueError => k_is)
    (case e1_NoClock => k_exc)
    (case e2_NoClock => k_is)
    (case e3_NoClock => k_is)
    (case e4_NoClock => k_is)
    (case e5_NoClock => k_is)
    (case e6_NoClock => k_is)
    (case e7_NoClock => k_is)
    (case e8_NoClock => k_is)
    (case e9_NoClock => k_is)
    (case t_NoClock => k_is)
    (case i_NoClock_BadName => k_is)
    (case i_NoClock_BadLetter => k_is)
    (case i_NoClock_BadOff => k_is)
    (case i_NoClock_TooEarly => k_is)
    (case i_NoClock_BadCount => k_is)
    (case i_NoClock_NoAgreement => k_is)
    (case i_NoClock_TooWide => k_is)
    (case i_NoClock_TooMany => k_is)
    (case i_NoClock_NoClock => k_is)
    (case i_NoClock_NoText => k_is)
    (case i_NoClock_ValueError => k_is)
#print axioms PySem.Challenge.cw_timestretch_k10_watches_kept_holds
