import PyProof.Rows.All
import Wide.All
import OpenK.AllK
import Wide.FinOn
import HandS.ForMost
import HandS.TryOnly
import HandS.ExcOwn
import HandS.WordsExc
import HandS.IsInst
import HandS.ExcIs
import HandS.HotCalls
import HandS.SortInts
import HandS.Walk
import HandS.Steps
import HandS.SetFor
import HandS.Conv
import HandS.FStr
import PySem.Challenge.RW_timestretch_k11_written
set_option Elab.async false
set_option linter.all false
set_option maxRecDepth 100000
set_option maxHeartbeats 4000000
/-! The common ground of the proofs: readings step by step, heaps that only grow. -/
namespace Ts
open PySem PySem.Spec PyProof.Rows L2
section
variable {σ : L2.St} {H H1 H2 : Hp} {Q : VK} {QA : List V → Hp → Prop} {QB : Bool → Hp → Prop} {ta tb te tx : TE} {tt tu : TT} {tr : TA} {v x y : V} {i j : Int} {n : Nat} {D : Ends} {t u : TS} {K : PySem.W.Frag} {r : R2}

/-! ### heaps -/
theorem same_upd {p : Addr} {o : HO} (h : H p = none) : Same H (upd H p o) := fun b z e => by
  rw [upd_ne (ne_of_none e h)]
  exact e
theorem same_get {a : Addr} {o : HO} (s : Same H H1) (h : H a = some o) : H1 a = some o := s a o h
theorem same_step (s : Same H1 H2) (h : Same H H1) : Same H H2 := h.trans s
theorem Same.sqT {a : Addr} {xs : List V} (e : Same H H1) (h : SqT K H a xs) : SqT K H1 a xs := by
  rcases h with (h | ⟨o, h⟩) | h
  · exact .inl (.inl (e _ _ h))
  · exact .inl (.inr ⟨o, e _ _ h⟩)
  · exact .inr h
/-- an object that H does not know may change -/
theorem same_mut {p : Addr} {o : HO} (s : Same H H1) (h : H p = none) : Same H (upd H1 p o) := fun b z e => by
  rw [upd_ne (ne_of_none e h)]
  exact s b z e
theorem sqL_of {a : Addr} {xs : List V} (h : H a = some (.lst xs)) : SqL K H a xs := .inl (.inl h)
theorem sqT_of {a : Addr} {xs : List V} (h : H a = some (.tup xs)) : SqT K H a xs := .inl (.inl h)
theorem size_of (h : n ≤ 1000000) : n ≤ sizeLine := Nat.le_trans h (by rw [sizeLine_eq]; decide)
theorem size_lt (h : n < 1000000) : n < sizeLine := Nat.lt_of_lt_of_le h (by rw [sizeLine_eq]; decide)

/-! ### values -/
theorem q_var {k : Nat} (h : σ[k]? = some (some v)) (q : Q v H) : tVar k σ H Q := ⟨v, h, q⟩
theorem q_c (q : Q v H) : tC v σ H Q := q
theorem q_op (q : ta σ H fun x H1 => tb σ H1 fun y H2 => r x y H2 Q) : tOp r ta tb σ H Q := q
theorem q_un {f : V → Hp → VK → Prop} (q : ta σ H fun x H1 => f x H1 Q) : tUn f ta σ H Q := q
theorem q_rU {g : Int → V} (q : Q (g i) H) : rU g (.int i) H Q := ⟨i, rfl, q⟩
theorem q_I0 {g : Int → Int → V} (q : Q (g i j) H) : rI0 g (.int i) (.int j) H Q := ⟨i, j, rfl, rfl, q⟩
theorem q_mod (h : 0 < j) (q : Q (.int (i % j)) H) : rI (fun _ j => 0 < j) (fun i j => .int (i % j)) (.int i) (.int j) H Q := ⟨i, j, rfl, rfl, h, q⟩
theorem q_fdiv (h : 0 < j ∧ j < 1073741824) (q : Q (.int (i / j)) H) : rI CDiv (fun i j => .int (i / j)) (.int i) (.int j) H Q := ⟨i, j, rfl, rfl, h, q⟩
theorem q_mulL (h : -18446744073709551616 < i ∧ i < 18446744073709551616) (q : Q (.int (i * j)) H) : rI CMul (fun i j => .int (i * j)) (.int i) (.int j) H Q := ⟨i, j, rfl, rfl, .inl (by simpa using h), q⟩
theorem q_mulR (h : -18446744073709551616 < j ∧ j < 18446744073709551616) (q : Q (.int (i * j)) H) : rI CMul (fun i j => .int (i * j)) (.int i) (.int j) H Q := ⟨i, j, rfl, rfl, .inr (by simpa using h), q⟩
theorem q_pow12 (q : Q (.int 1000000000000) H) : rI CPow (fun i j => .int (i ^ j.toNat)) (.int 10) (.int 12) H Q := ⟨10, 12, rfl, rfl, ⟨by decide, by decide, by decide⟩, q⟩
theorem q_pow24 (q : Q (.int 1000000000000000000000000) H) : rI CPow (fun i j => .int (i ^ j.toNat)) (.int 10) (.int 24) H Q := ⟨10, 24, rfl, rfl, ⟨by decide, by decide, by decide⟩, q⟩
theorem q_pow40 (q : Q (.int 10000000000000000000000000000000000000000) H) : rI CPow (fun i j => .int (i ^ j.toNat)) (.int 10) (.int 40) H Q := ⟨10, 40, rfl, rfl, ⟨by decide, by decide, by decide⟩, q⟩
theorem q_eqI (q : Q (.bl (decide (i = j))) H) : rEq (.int i) (.int j) H Q := ⟨rfl, by
  have e : decide (V.int i = V.int j) = decide (i = j) := by simp
  rw [e]
  exact q⟩
theorem q_neI (q : Q (.bl (!decide (i = j))) H) : rNe (.int i) (.int j) H Q := ⟨rfl, by
  have e : decide (V.int i = V.int j) = decide (i = j) := by simp
  rw [e]
  exact q⟩
theorem q_eqS {a b : Str} (q : Q (.bl (decide (a = b))) H) : rEq (.str a) (.str b) H Q := ⟨rfl, by
  have e : decide (V.str a = V.str b) = decide (a = b) := by simp
  rw [e]
  exact q⟩
theorem q_neS {a b : Str} (q : Q (.bl (!decide (a = b))) H) : rNe (.str a) (.str b) H Q := ⟨rfl, by
  have e : decide (V.str a = V.str b) = decide (a = b) := by simp
  rw [e]
  exact q⟩
theorem q_eqB {a b : Bool} (q : Q (.bl (decide (a = b))) H) : rEq (.bl a) (.bl b) H Q := ⟨rfl, by
  have e : decide (V.bl a = V.bl b) = decide (a = b) := by simp
  rw [e]
  exact q⟩
theorem q_neB {a b : Bool} (q : Q (.bl (!decide (a = b))) H) : rNe (.bl a) (.bl b) H Q := ⟨rfl, by
  have e : decide (V.bl a = V.bl b) = decide (a = b) := by simp
  rw [e]
  exact q⟩
theorem q_cons (q : ta σ H fun x H1 => tr σ H1 fun xs H2 => QA (x :: xs) H2) : tCons ta tr σ H QA := q
theorem q_nil (q : QA [] H) : tNil σ H QA := q
theorem q_tup (q : tr σ H fun xs H1 => xs.length ≤ sizeLine ∧ ∀ p, H1 p = none → Q (.ref p) (upd H1 p (.tup xs))) : tTup tr σ H Q := q
theorem q_lst (q : tr σ H fun xs H1 => xs.length ≤ sizeLine ∧ ∀ p, H1 p = none → Q (.ref p) (upd H1 p (.lst xs))) : tLst tr σ H Q := q
theorem q_call {sp : Sp} {dvs : List V} {E : XK} (q : tr σ H fun vs H1 => sp (vs ++ dvs) H1 Q E) : tCall sp dvs E tr σ H Q := q
theorem q_callS {sp : Sp} {E : L2.St → XK} (q : tr σ H fun vs H1 => sp vs H1 Q (E σ)) : tCallS sp E tr σ H Q := q
theorem q_CB {f : List V → Hp → VK → Prop} (q : tr σ H fun vs H1 => f vs H1 Q) : tCB f tr σ H Q := q
theorem q_ixL {p : Addr} {xs : List V} (h : SqL K H p xs) (a : atI xs i = some v) (q : Q v H) : rIxL K (.ref p) (.int i) H Q := ⟨p, xs, i, v, rfl, rfl, h, a, q⟩
theorem q_ixT {p : Addr} {xs : List V} (h : SqT K H p xs) (a : atI xs i = some v) (q : Q v H) : rIxT K (.ref p) (.int i) H Q := ⟨p, xs, i, v, rfl, rfl, h, a, q⟩
theorem atI_mem {xs : List V} (h0 : 0 ≤ i) (h1 : i < xs.length) : ∃ v, v ∈ xs ∧ atI xs i = some v := by
  obtain ⟨k, rfl⟩ : ∃ k : Nat, i = (k : Int) := ⟨i.toNat, by omega⟩
  have hk : k < xs.length := by omega
  exact ⟨xs[k], List.getElem_mem hk, atI_nat (List.getElem?_eq_getElem hk)⟩
/-- an item of a list at an index that lies in it: one of its items -/
theorem q_ixAny {p : Addr} {xs : List V} (h : SqL K H p xs) (h0 : 0 ≤ i) (h1 : i < xs.length) (q : ∀ v, v ∈ xs → Q v H) : rIxL K (.ref p) (.int i) H Q := by
  obtain ⟨v, m, a⟩ := atI_mem (xs := xs) h0 h1
  exact q_ixL h a (q v m)

/-! ### tests -/
theorem q_test (q : te σ H fun x H' => ∃ k, x = .bl k ∧ QB k H') : tTest te σ H QB := q
theorem q_tB (q : te σ H fun x H' => ∃ k, x = .bl k ∧ QB k H') : tB te σ H QB := q
theorem q_not (q : tt σ H fun c H1 => QB (!c) H1) : tNot tt σ H QB := q
theorem q_and (q : tt σ H fun c H1 => if c = true then tu σ H1 QB else QB false H1) : tAnd tt tu σ H QB := q
theorem q_or (q : tt σ H fun c H1 => if c = true then QB true H1 else tu σ H1 QB) : tOr tt tu σ H QB := q
theorem q_andV (q : ta σ H fun x H1 => ∃ c, x = .bl c ∧ if c = true then tb σ H1 Q else Q (.bl false) H1) : tAndV ta tb σ H Q := q
theorem q_orV (q : ta σ H fun x H1 => ∃ c, x = .bl c ∧ if c = true then Q (.bl true) H1 else tb σ H1 Q) : tOrV ta tb σ H Q := q
theorem q_notV (q : ta σ H fun x H1 => ∃ c, x = .bl c ∧ Q (.bl (!c)) H1) : tNotV ta σ H Q := q
theorem q_ifE (q : tt σ H fun c H1 => if c = true then ta σ H1 Q else tb σ H1 Q) : tIf tt ta tb σ H Q := q
theorem q_bl {b : Bool} {P : Bool → Prop} (q : P b) : ∃ k, V.bl b = .bl k ∧ P k := ⟨b, rfl, q⟩
theorem q_iteD {p A B : Prop} [Decidable p] (h1 : p → A) (h2 : ¬ p → B) : if decide p = true then A else B := by
  by_cases h : p
  · rw [decide_eq_true h]; exact iteT (h1 h)
  · rw [decide_eq_false h]; exact iteF (h2 h)
theorem q_iteN {p A B : Prop} [Decidable p] (h1 : ¬ p → A) (h2 : p → B) : if (!decide p) = true then A else B := by
  by_cases h : p
  · rw [decide_eq_true h]; exact iteF (h2 h)
  · rw [decide_eq_false h]; exact iteT (h1 h)
theorem q_iteB {b : Bool} {A B : Prop} (h1 : b = true → A) (h2 : b = false → B) : if b = true then A else B := by
  cases b
  · exact iteF (h2 rfl)
  · exact iteT (h1 rfl)
theorem q_iteT {A B : Prop} (h1 : A) : if true = true then A else B := iteT h1
theorem q_iteNT {A B : Prop} (h1 : B) : if (!true) = true then A else B := iteF h1
theorem q_iteNF {A B : Prop} (h1 : A) : if (!false) = true then A else B := iteT h1
theorem q_iteF {A B : Prop} (h1 : B) : if false = true then A else B := iteF h1

/-! ### statements -/
variable {nx bk ct : L2.St → Hp → Prop} {rt : VK}
theorem q_seq (q : t ⟨u ⟨nx, rt, bk, ct⟩, rt, bk, ct⟩ σ H) : tSeq t u ⟨nx, rt, bk, ct⟩ σ H := q
theorem q_next (q : nx σ H) : tNext ⟨nx, rt, bk, ct⟩ σ H := q
theorem q_set {k : Nat} (q : te σ H fun x H1 => nx (σ.set k (some x)) H1) : tAsg te (gName k) ⟨nx, rt, bk, ct⟩ σ H := q
theorem q_asg {g : TG} (q : te σ H fun x H1 => g x σ H1 nx) : tAsg te g ⟨nx, rt, bk, ct⟩ σ H := q
theorem q_ret (q : te σ H rt) : tRet te ⟨nx, rt, bk, ct⟩ σ H := q
theorem q_retN (q : rt .non H) : tRetN ⟨nx, rt, bk, ct⟩ σ H := q
theorem q_drop (q : te σ H fun _ H1 => nx σ H1) : tDrop te ⟨nx, rt, bk, ct⟩ σ H := q
theorem q_ifS (q : tt σ H fun b H1 => if b = true then t ⟨nx, rt, bk, ct⟩ σ H1 else u ⟨nx, rt, bk, ct⟩ σ H1) : tIfS tt t u ⟨nx, rt, bk, ct⟩ σ H := q
theorem iteD_yes {p A B : Prop} [Decidable p] (h : p) (a : A) : if decide p = true then A else B := by
  rw [decide_eq_true h]; exact iteT a
theorem iteD_no {p A B : Prop} [Decidable p] (h : ¬ p) (a : B) : if decide p = true then A else B := by
  rw [decide_eq_false h]; exact iteF a
theorem iteN_yes {p A B : Prop} [Decidable p] (h : ¬ p) (a : A) : if (!decide p) = true then A else B := by
  rw [decide_eq_false h]; exact iteT a
theorem iteN_no {p A B : Prop} [Decidable p] (h : p) (a : B) : if (!decide p) = true then A else B := by
  rw [decide_eq_true h]; exact iteF a
end
/-- the i-th of a written list of slots -/
theorem q_slot {σ : L2.St} {k : Nat} {v : V} (h : σ[k]? = some (some v)) : σ[k]? = some (some v) := h
end Ts

/-! Defs as they stand, own error classes, a def that is handed the error that is held. -/
namespace Ts
open PySem PySem.Spec PyProof.Rows L2
/-- a def of the text, without defaults -/
structure Def (K : PySem.W.Frag) (nm qual : Str) (st : Stmt) (ps : List Str) (f : Addr) (fd : FuncData) : Prop where
  F : Fun K nm qual st f fd
  b : Binds K fd ps []
/-- a def that may raise, called where it does not -/
theorem pass_never {X : Cx} : Passes (L2.CX X.prog X.w) X E0 := fun _ _ _ _ _ _ _ h => by
  obtain ⟨_, _, _, _, _, _, _, _, _, _, _, _, z⟩ := h
  exact z.elim
/-- an own error class below StretchError -/
structure ExK (K : PySem.W.Frag) (C : Addr) : Prop where
  x : PySem.W.excIn K C [.type "ValueError", .type "Exception", .type "BaseException", .type "object"] "ValueError.__new__" = true
  kp : PySem.W.keepIn K (.ref C) = true
  tp : PySem.W.typeIn K (.ref C) = some (.type "type")
  c : ExcC K C
theorem ExK.mk' {X : Cx} {C : Addr} (T : ExK X.K C) {x m : Str} {j : Nat} {p p2 pos : Pos} (gC : X.mg x = some (.ref C)) (hg : Gl X x) (hdb : (x == ("__debug__" : Str)) = false := by decide) :
    PMk X (.Call (.Name x p) [.Constant (.str m) j p2] [] pos) (fun _ H Q => Q (.ref C) none H) :=
  pmk_own PySem.F.excBase_ValueError T.x gC T.kp (raises_own T.c.hs T.tp) hg hdb

section
variable {P : Program} {w : World} {K : PySem.W.Frag} {mg : Str → Option Value} {base : Heap}
/-- what a def with one parameter gives when it is handed the held error: G by the error's class -/
structure FnE (P : Program) (w : World) (K : PySem.W.Frag) (mg : Str → Option Value) (base : Heap) (k : Nat) (f : Addr) (fd : FuncData) (x : Str) (G : Value → Hp → VK → Prop) : Prop where
  run : ∀ (A : Around) (outer : List Env) (s : Shared) (H : Hp) (args : Args) (Q : VK) (a : Addr) (oe : Obj) (cls : Value), L2H.RoomH k A → L2H.PinOk outer H s (a, oe) → Zc cls none oe → (∃ vs, oe.data = .fields vs) →
    Env0 P w K mg base A outer s H → BindsTo s fd args [(x, .ref a)] → G cls H Q → codeAny (model P w) A (.call (.ref f) args) (CR CX0 outer P w H s Q E0) s
theorem Fun.okE {x qual y : Str} {st : Stmt} {f : Addr} {fd : FuncData} {N : List Str} {k : Nat} {G : Value → Hp → VK → Prop} (F : Fun K x qual st f fd) (S : FnScope N [y] (defScope st))
    (hbody : ∀ (cdv : Value) (A : Around) (outer : List Env) (s : Shared) (H : Hp) (Q : VK) (a : Addr) (oe : Obj) (cls : Value), L2H.RoomH k (A.deeper (envOfC qual (defScope st) s.heap.objs.size f cdv)) → Zc cls none oe → (∃ vs, oe.data = .fields vs) → G cls H Q →
      ∃ t, PSs (L2H.cxH CX0 P w K mg base N qual (defScope st) f cdv A outer s H E0 (a, oe)) (defBody st) t ∧ t { nx := fun _ H' => Q .non H', rt := Q } (start N [.ref a]) H) : FnE P w K mg base (k + 1) f fd y G := by
  obtain ⟨oc, od, kV, doc, pm, an, cdv, ct, osl, rfl, lk, hcd⟩ := F.ex
  refine ⟨fun A outer s H args Q a oe cls hr hpin hz hf e0 hb hG => ?_⟩
  have inK : K.In s.heap := e0.mod.kin.keeps fun b o e => (e0.bs b o e).1
  have lim : s.heap.NoLimit := e0.mod.nolimit.keeps fun b o e => (e0.bs b o e).1
  have par : ∀ z ∈ [y].zip [Value.ref a], (defScope st).names.lookup z.1 = some .local ∨ ((defScope st).names.lookup z.1 = some .cell ∧
      ((cellsFrom (s.heap.objs.size + 1) (defScope st).names []).lookup z.1).isSome = true) := by
    rintro ⟨n, v⟩ hz'
    rcases S.par n (List.of_mem_zip hz').1 with q | q
    · exact .inl q
    · exact .inr ⟨q, PySem.W.cellsFrom_some _ _ _ (.inl q)⟩
  refine codeAny_call_function hr.depth (inK _ _ lk) rfl S.co S.gen rfl (PySem.W.codeRec_of inK hcd) (hb _ _ _ _ ?_)
  refine wpAny_newFunctionEnv_cells S.kind par fun env he s1 x1 => ?_
  subst he
  refine ⟨lim.keeps x1.toInCall.keep, codeAny_func ?_⟩
  obtain ⟨t, ht, hq⟩ := hbody cdv A outer s H Q a oe cls (hr.deeper _) hz hf hG
  have rv : Vals [V.ref a] [Value.ref a] := .cons rfl .nil
  have I := L2H.inv_startH (CX := CX0) (E := E0) (f := f) (cd := cdv) (qual := qual) S hpin e0 (vs := [V.ref a]) rfl rv x1
  refine wpAny_mono (ht.run [] s1 (start N [.ref a]) H _ I hq) (fun fl s' hs => ?_) fun e s' hs => hs
  cases fl with
  | ret u =>
    obtain ⟨v, σ', H', J, r1, q⟩ := hs
    exact ⟨v, H', J.os, J.bare, J.base, J.hok, r1, q⟩
  | next =>
    obtain ⟨σ', H', J, q⟩ := hs
    exact ⟨V.non, H', J.os, J.bare, J.base, J.hok, rfl, q⟩
  | brk =>
    obtain ⟨_, _, _, q⟩ := hs
    exact q.elim
  | cont =>
    obtain ⟨_, _, _, q⟩ := hs
    exact q.elim
/-- f(n) in a suite, n the held error's name -/
theorem pe_callE {X : Cx} {a : Addr} {oe : Obj} {cls : Value} {d : Option Addr} {k i : Nat} {f : Addr} {fd : FuncData} {x y n : Str} {G : Value → Hp → VK → Prop} {p p2 pos : Pos} (F : FnE X.prog X.w X.K X.mg X.base k f fd y G) (hr : L2H.RoomH k X.A) (hp : (a, oe) ∈ X.pn)
    (hz : Zc cls d oe) (hf : ∃ vs, oe.data = .fields vs) (hg : Gl X x) (hm : X.mg x = some (.ref f)) (hk : PySem.W.keepIn X.K (.ref f) = true) (hb : Binds X.K fd [y] []) (hn : PE X (.Name n p2) (tVar i)) (hdb : (x == ("__debug__" : Str)) = false := by decide)
    (he : starEach [.Name n p2] X.env = (false, eval (.Name n p2) X.env) :: starEach [] X.env := by rfl) (hpl : (backTo pos (starEach [] X.env)).any (·.1) = false := by rfl) :
    PE X (.Call (.Name x p) [.Name n p2] [] pos) (fun σ H Q => σ[i]? = some (some (.ref a)) ∧ d = none ∧ G cls H Q) := by
  refine ⟨fun pins s σ H Q I h => ?_⟩
  obtain ⟨hi, rfl, hG⟩ := h
  refine wpAny_Call_Name_kw (ld_glob I hg hm ?_ hdb)
  have ha : PA X [.Name n p2] (tCons (tVar i) tNil) := pa_cons hn pa_nil he
  refine PySem.W.callWith_K (h₀ := X.base) I.ok.mod.kin hk (thn (ha.run pos pins s σ H (fun vs H1 => vs = [V.ref a] ∧ H1 = H) I ⟨_, hi, rfl, rfl⟩) fun us s1 hh => ?_) he hpl
  obtain ⟨vs, H1, I1, r, rfl, rfl⟩ := hh
  refine ⟨I1.kIn, ?_⟩
  cases r with
  | cons ru rn =>
    cases rn
    cases ru
    have P1 := I1.pin (a, oe) (List.mem_append_left _ hp)
    have hpin : L2H.PinOk X.stack H1 s1 (a, oe) := ⟨P1.1, P1.2.1, fun hm => (List.mem_cons.mp (I1.stkSub a hm)).elim P1.2.2.1 P1.2.2.2.1, P1.2.2.2.2⟩
    refine wpAny_call (codeAny_mono (F.run X.A X.stack s1 H1 ⟨[.ref a], []⟩ Q a oe cls hr hpin hz hf I1.env0 (hb s1 [.ref a] I1.kIn rfl) hG) fun r s' hq => ?_)
    cases r with
    | error e => exact False.elim hq
    | ok fl =>
      cases fl with
      | ret u => exact I1.after hq
      | next => exact False.elim hq
      | brk => exact False.elim hq
      | cont => exact False.elim hq
/-- isinstance(e, C), e a held error of the class at D -/
theorem call_isP {X : Cx} {a D : Addr} {oe : Obj} (hp : (a, oe) ∈ X.pn) (C : ExcC X.K D) (hz : Zc (.ref D) none oe) (hf : ∃ vs, oe.data = .fields vs) : CallR X (.builtin "isinstance") (rIsE X.K D a) := by
  intro pins s σ H xs us Q I r h
  obtain ⟨c, cv, b, rfl, hcv, e, q⟩ := h
  cases r with
  | cons rx rr =>
    cases rr with
    | cons rt rr =>
      cases rr
      cases rx
      cases hcv _ rt
      have g := (I.pin (a, oe) (List.mem_append_left _ hp)).1
      obtain ⟨vs, hv⟩ := hf
      have J : PySem.W.InstAt s.heap a oe D none := by
        obtain ⟨c1, d1, dt, sl⟩ := oe
        obtain ⟨h1, h2⟩ := hz
        dsimp only at h1 h2 hv
        subst h1 h2 hv
        exact ⟨g, rfl, rfl, trivial⟩
      exact PySem.W.kia_one (PySem.W.handS_kitx_exc C.hg C.hk C.hs C.hd C.ha C.hn C.ht C.hm) I.kIn J e (fun z => nomatch z) fun tk => ⟨.bl b, H, I.kept (t' := tk) fun _ _ z => z, rfl, q⟩
end
theorem cls_own {K : PySem.W.Frag} {t : Value} {C : Addr} {b : Bool} (h1 : PySem.W.isClsIn K C = true) (h2 : PySem.W.typeIn K (.ref C) = some (.type "type")) (h3 : PySem.W.subIn K t (.ref C) = some b) : PySem.W.kitCls K t (.ref C) = some b := by
  have e : ((PySem.W.clsIn K C).isSome && PySem.W.typeIn K (.ref C) == some (.type "type")) = true := by
    have h1' : (PySem.W.clsIn K C).isSome = true := h1
    rw [h1', h2]
    rfl
  show (if ((PySem.W.clsIn K C).isSome && PySem.W.typeIn K (.ref C) == some (.type "type")) = true then PySem.W.subIn K t (.ref C) else none) = some b
  rw [if_pos e]
  exact h3
theorem exm_own {K : PySem.W.Frag} {t : Value} {C : Addr} {b : Bool} (h0 : PySem.W.subIn K (.ref C) (.type "BaseException") = some true) (h1 : PySem.W.isClsIn K C = true) (h2 : PySem.W.typeIn K (.ref C) = some (.type "type")) (h3 : PySem.W.subIn K t (.ref C) = some b) : PySem.W.exmOne K t (.ref C) = some b := by
  have e : (PySem.W.subIn K (.ref C) (.type "BaseException") == some true) = true := by
    rw [h0]
    rfl
  show (if (PySem.W.subIn K (.ref C) (.type "BaseException") == some true) = true then PySem.W.kitCls K t (.ref C) else none) = some b
  rw [if_pos e]
  exact cls_own h1 h2 h3
theorem kit_self {K : PySem.W.Frag} {v : Value} : PySem.W.kitOne K v v = some true := if_pos (beq_self_eq_true v)
theorem kit_no {K : PySem.W.Frag} {D C : Addr} (s1 : PySem.W.subIn K (.ref D) (.ref D) = some true) (s0 : PySem.W.subIn K (.ref D) (.ref C) = some false) (h1 : PySem.W.isClsIn K C = true) (h2 : PySem.W.typeIn K (.ref C) = some (.type "type")) : PySem.W.kitOne K (.ref D) (.ref C) = some false := by
  have ne : ¬ ((Value.ref D == Value.ref C) = true) := fun q => by
    have e := beq_iff_eq.mp q
    rw [e, ← e, e] at s0
    rw [e] at s1
    rw [s1] at s0
    cases s0
  show (if (Value.ref D == Value.ref C) = true then some true else PySem.W.kitCls K (.ref D) (.ref C)) = some false
  rw [if_neg ne]
  exact cls_own h1 h2 s0
theorem kit_bt {K : PySem.W.Frag} {D : Addr} {n : String} {b : Bool} (s : PySem.W.subIn K (.ref D) (.type n) = some b) (h : PySem.W.kitMeta n = true) : PySem.W.kitOne K (.ref D) (.type n) = some b := by
  show (if (Value.ref D == Value.type n) = true then some true else if PySem.W.kitMeta n = true then PySem.W.subIn K (.ref D) (.type n) else none) = some b
  rw [if_neg (by simp), if_pos h]
  exact s
end Ts

/-! Further rules of one operation; the walk's own small steps. -/
namespace Ts
open PySem PySem.Spec PyProof.Rows L2
/-- list.count of a flat value in a list of flat values -/
def rCountF (K : PySem.W.Frag) : V → List V → Hp → VK → Prop := fun x xs H Q => ∃ (p : Addr) (ys : List V) (y : V), x = .ref p ∧ xs = [y] ∧ SqL K H p ys ∧ flatV y = true ∧ ys.all flatV = true ∧ Q (.int (ys.countP (fun z => eqV z y) : Nat)) H
theorem countP_eqU {x : V} : ∀ {xs : List V} {us : List Value}, Vals xs us → xs.all flatV = true → us.countP (eqU x) = xs.countP fun y => eqV y x
  | _, _, .nil, _ => rfl
  | y :: xs, u :: us, .cons r t, f => by
    rw [List.all_cons, Bool.and_eq_true] at f
    rw [List.countP_cons, List.countP_cons, eqU_of r f.1, countP_eqU t f.2]
theorem mt_countB {X : Cx} : MtR X "list.count" (rCountF X.K) := by
  intro pins s σ H x xs v us Q I rx rxs h
  obtain ⟨p, ys, y, rfl, rfl, hs, fy, fys, q⟩ := h
  cases rx
  obtain ⟨u, rfl, ru⟩ := rxs.one
  obtain ⟨its, rv, ⟨⟨cls, dd, data, sl⟩, n, ho, hc, hdn, hd⟩, hlen⟩ := I.list hs
  simp only at hc hd
  subst hc hd
  refine call_meets PySem.F.slot_list_count ⟨_, ho, rfl⟩ PySem.F.entry_list_count (PySem.F.args_list_count_2 _ _)
    (SeqAt.list_countAt p its.toArray n dd sl u (eqU y)) ⟨ho, fun w hw => mem_eqAt ru fy rv fys w (by simpa using hw), ?_⟩
  have e := countP_eqU (x := y) rv fys
  refine ⟨.int (ys.countP (fun z => eqV z y) : Nat), H, I.tok _, ⟨s.toks, ?_⟩, q⟩
  show Value.int ((its.countP (eqU y) : Nat) : Int) s.toks = Value.int ((ys.countP (fun z => eqV z y) : Nat) : Int) s.toks
  rw [e]
def rLen (K : PySem.W.Frag) : List V → Hp → VK → Prop := fun xs H Q => ∃ x n, xs = [x] ∧ LenV K x H n ∧ Q (.int (n : Nat)) H
theorem call_len' {X : Cx} : CallR X (.builtin "len") (rLen X.K) := call_len
def rMax2 : List V → Hp → VK → Prop := fun xs H Q => ∃ i j, xs = [.int i, .int j] ∧ Q (.int (if j > i then j else i)) H
def rMin2 : List V → Hp → VK → Prop := fun xs H Q => ∃ i j, xs = [.int i, .int j] ∧ Q (.int (if j < i then j else i)) H
theorem call_max2' {X : Cx} (hc : X.calm = true) : CallR X (.builtin "max") rMax2 := call_max2 hc
theorem call_min2' {X : Cx} (hc : X.calm = true) : CallR X (.builtin "min") rMin2 := call_min2 hc
def rInt1 : List V → Hp → VK → Prop := fun xs H Q => (∃ i, xs = [.int i] ∧ Q (.int i) H) ∨ ∃ k, xs = [.bl k] ∧ Q (.int (if k then 1 else 0)) H
theorem call_int1' {X : Cx} : CallR X (.type "int") rInt1 := call_int1
def rListOf (K : PySem.W.Frag) : List V → Hp → VK → Prop := fun xs H Q => ∃ p ys, xs = [.ref p] ∧ (SqL K H p ys ∨ SqT K H p ys) ∧ ∀ l, H l = none → Q (.ref l) (upd H l (.lst ys))
theorem call_list' {X : Cx} : CallR X (.type "list") (rListOf X.K) := call_list_of
/-! ### the rules with the written part by its own name -/
section
variable {X : Cx} {tg : Expr} {pos : Pos}
theorem ix_listK (K : PySem.W.Frag) (h : X.K = K := by rfl) : IxR X (rIxL K) := by subst h; exact ix_list
theorem ix_tupK (K : PySem.W.Frag) (h : X.K = K := by rfl) : IxR X (rIxT K) := by subst h; exact ix_tup
theorem call_lenK (K : PySem.W.Frag) (h : X.K = K := by rfl) : CallR X (.builtin "len") (rLen K) := by subst h; exact call_len'
theorem call_isiK' (K : PySem.W.Frag) (h : X.K = K := by rfl) : CallR X (.builtin "isinstance") (rIsi K) := by subst h; exact call_isi
theorem op_eqK (K : PySem.W.Frag) (hu : X.A.units + 64 < cLine) (h : X.K = K := by rfl) : OpR X (compareOp .Eq) (rEqD K) := by subst h; exact op_eqD hu
theorem op_neK (K : PySem.W.Frag) (hu : X.A.units + 64 < cLine) (h : X.K = K := by rfl) : OpR X (compareOp .NotEq) (rNeD K) := by subst h; exact op_neD hu
theorem cr_sortedK (K : PySem.W.Frag) (h : X.K = K := by rfl) : CallR X (.builtin "sorted") (rSortedI K) := by subst h; exact cr_sortedI
theorem cr_maxK (K : PySem.W.Frag) (hc : X.calm = true) (h : X.K = K := by rfl) : CallR X (.builtin "max") (rMax K) := by subst h; exact cr_max hc
theorem cr_minK (K : PySem.W.Frag) (hc : X.calm = true) (h : X.K = K := by rfl) : CallR X (.builtin "min") (rMin K) := by subst h; exact cr_min hc
theorem call_listK (K : PySem.W.Frag) (h : X.K = K := by rfl) : CallR X (.type "list") (rListOf K) := by subst h; exact call_list'
theorem op_inK (K : PySem.W.Frag) (h : X.K = K := by rfl) : OpR X (compareOp .In) (rIn K false) := by subst h; exact op_in_seq
theorem op_notInK (K : PySem.W.Frag) (h : X.K = K := by rfl) : OpR X (compareOp .NotIn) (rIn K true) := by subst h; exact op_notIn_seq
theorem sl_listK (K : PySem.W.Frag) (h : X.K = K := by rfl) : SlR X (rSlL K) := by subst h; exact sl_list
theorem mt_countK (K : PySem.W.Frag) (h : X.K = K := by rfl) : MtR X "list.count" (rCountF K) := by subst h; exact mt_countB
theorem mt_indexK (K : PySem.W.Frag) (h : X.K = K := by rfl) : MtR X "list.index" (rIndex K) := by subst h; exact mt_index
theorem pi_listK (K : PySem.W.Frag) {l : Expr} {tl : TE} (hl : PE X l tl) (h : X.K = K := by rfl) : PI X tg l (iList K tl) := by subst h; exact pi_list hl
theorem pi_tupK (K : PySem.W.Frag) {l : Expr} {tl : TE} (hl : PE X l tl) (h : X.K = K := by rfl) : PI X tg l (iTup K tl) := by subst h; exact pi_tup hl
theorem pg_tupK (K : PySem.W.Frag) {es : List Expr} {k : Nat} {t : TGs} (n : Nat) (hc : X.calm = true) (hg : PGs X es t) (hn : (assignEach es X.env).length = n := by rfl) (hst : (assignEach es X.env).findIdx? (·.1) = none := by rfl) (h : X.K = K := by rfl) : PG X (.Tuple es k pos) (gTup K n t) := by
  subst h; exact pg_tup hc hg hn hst
theorem pg_lstK (K : PySem.W.Frag) {es : List Expr} {k : Nat} {t : TGs} (n : Nat) (hc : X.calm = true) (hg : PGs X es t) (hn : (assignEach es X.env).length = n := by rfl) (hst : (assignEach es X.env).findIdx? (·.1) = none := by rfl) (h : X.K = K := by rfl) : PG X (.Tuple es k pos) (gLst K n t) := by
  subst h; exact pg_lst hc hg hn hst
end
section
variable {σ : L2.St} {H H1 H2 : Hp} {Q : VK} {K : PySem.W.Frag} {v : V} {i j : Int}
theorem q_lenL {a : Addr} {xs : List V} (h : SqL K H a xs) (q : Q (.int (xs.length : Nat)) H) : rLen K [.ref a] H Q := ⟨_, _, rfl, .inl ⟨xs, h, rfl⟩, q⟩
theorem q_lenT {a : Addr} {xs : List V} (h : SqT K H a xs) (q : Q (.int (xs.length : Nat)) H) : rLen K [.ref a] H Q := ⟨_, _, rfl, .inr ⟨xs, h, rfl⟩, q⟩
theorem q_lenS {z : Str} (h : z.length ≤ sizeLine) (q : Q (.int (z.length : Nat)) H) : rLen K [.str z] H Q := ⟨_, _, rfl, ⟨h, rfl⟩, q⟩
theorem q_max2 (q : ∀ z : Int, i ≤ z → j ≤ z → (z = i ∨ z = j) → Q (.int z) H) : rMax2 [.int i, .int j] H Q := ⟨i, j, rfl, q _ (by split <;> omega) (by split <;> omega) (by split <;> simp)⟩
theorem q_min2 (q : ∀ z : Int, z ≤ i → z ≤ j → (z = i ∨ z = j) → Q (.int z) H) : rMin2 [.int i, .int j] H Q := ⟨i, j, rfl, q _ (by split <;> omega) (by split <;> omega) (by split <;> simp)⟩
theorem q_intI (q : Q (.int i) H) : rInt1 [.int i] H Q := .inl ⟨i, rfl, q⟩
theorem q_intB {b : Bool} (q : ∀ z : Int, 0 ≤ z → z ≤ 1 → (b = true → z = 1) → (b = false → z = 0) → Q (.int z) H) : rInt1 [.bl b] H Q := .inr ⟨b, rfl, by
  cases b
  · exact q 0 (by decide) (by decide) (fun h => nomatch h) (fun _ => rfl)
  · exact q 1 (by decide) (by decide) (fun _ => rfl) (fun h => nomatch h)⟩
theorem q_isNN (q : Q (.bl true) H) : rIsN .non .non H Q := ⟨rfl, q⟩
theorem q_isNI (q : Q (.bl false) H) : rIsN (.int i) .non H Q := ⟨rfl, q⟩
theorem q_isNR {a : Addr} (q : Q (.bl false) H) : rIsN (.ref a) .non H Q := ⟨rfl, q⟩
theorem q_notNN (q : Q (.bl false) H) : rNotN .non .non H Q := ⟨rfl, q⟩
theorem q_notNI (q : Q (.bl true) H) : rNotN (.int i) .non H Q := ⟨rfl, q⟩
theorem q_notNR {a : Addr} (q : Q (.bl true) H) : rNotN (.ref a) .non H Q := ⟨rfl, q⟩
theorem q_blT {p : Prop} [Decidable p] (h : p) (q : Q (.bl true) H) : Q (.bl (decide p)) H := by
  rw [decide_eq_true h]
  exact q
theorem at0 {xs : List V} (h : xs[0]? = some v) : atI xs 0 = some v := atI_nat (j := 0) h
theorem at1 {xs : List V} (h : xs[1]? = some v) : atI xs 1 = some v := atI_nat (j := 1) h
theorem at2 {xs : List V} (h : xs[2]? = some v) : atI xs 2 = some v := atI_nat (j := 2) h
theorem at3 {xs : List V} (h : xs[3]? = some v) : atI xs 3 = some v := atI_nat (j := 3) h
theorem at4 {xs : List V} (h : xs[4]? = some v) : atI xs 4 = some v := atI_nat (j := 4) h
/-- a list and a list, a new list -/
theorem q_cat {a b : Addr} {xs ys : List V} (h1 : H a = some (.lst xs)) (h2 : H b = some (.lst ys)) (hl : xs.length + ys.length ≤ sizeLine) (q : ∀ p H', Same H H' → H' p = some (.lst (xs ++ ys)) → Q (.ref p) H') : rCat (.ref a) (.ref b) H Q :=
  ⟨a, b, xs, ys, rfl, rfl, h1, h2, hl, fun p hp => q p _ (same_upd hp) upd_same⟩
theorem q_bm {to : TE} {tr : TA} {Ty : String} {r : V → List V → Hp → VK → Prop} (q : to σ H fun x H1 => tyV K Ty x H1 ∧ tr σ H1 fun xs H2 => r x xs H2 Q) : tBM K Ty r to tr σ H Q := q
theorem q_bm0 {to : TE} {Ty : String} {r : V → List V → Hp → VK → Prop} (q : to σ H fun x H1 => tyV K Ty x H1 ∧ r x [] H1 Q) : tBM0 K Ty r to σ H Q := q
/-- == of equal data -/
theorem q_eqSame {x y : V} {d : PyData} (h1 : Dp K H x d) (h2 : Dp K H y d) (hs : SeqAt.shaped d = true) (q : Q (.bl true) H) : rEqD K x y H Q := ⟨d, d, h1, h2, hs, hs, by rw [SeqAt.eqv_refl d (SeqAt.canLay_of_shaped hs)]; exact q⟩
theorem q_neSame {x y : V} {d : PyData} (h1 : Dp K H x d) (h2 : Dp K H y d) (hs : SeqAt.shaped d = true) (q : Q (.bl false) H) : rNeD K x y H Q := ⟨d, d, h1, h2, hs, hs, by rw [SeqAt.eqv_refl d (SeqAt.canLay_of_shaped hs)]; exact q⟩
theorem dp_pair {a : Addr} {x y : Int} (h : H a = some (.tup [.int x, .int y])) : Dp K H (.ref a) (.tuple [.int x, .int y]) := .tup (sqT_of h) (.cons (.int x) (.cons (.int y) .nil))
/-- all items are numbers from lo to hi -/
def AllIn (lo hi : Int) : List V → Prop
  | [] => True
  | .int z :: r => lo ≤ z ∧ z ≤ hi ∧ AllIn lo hi r
  | _ => False
theorem AllIn.at {lo hi : Int} : ∀ {xs : List V}, AllIn lo hi xs → ∀ v, v ∈ xs → ∃ z, v = .int z ∧ lo ≤ z ∧ z ≤ hi
  | .int z :: r, h, v, hv => by
    rcases List.mem_cons.mp hv with rfl | hv
    · exact ⟨z, rfl, h.1, h.2.1⟩
    · exact AllIn.at h.2.2 v hv
theorem q_ixB (lo hi : Int) {p : Addr} {xs : List V} (h : SqL K H p xs) (h0 : 0 ≤ i) (h1 : i < xs.length) (ha : AllIn lo hi xs) (q : ∀ z, lo ≤ z → z ≤ hi → Q (.int z) H) : rIxL K (.ref p) (.int i) H Q :=
  q_ixAny h h0 h1 fun v hv => by
    obtain ⟨z, rfl, z0, z1⟩ := ha.at v hv
    exact q z z0 z1
/-- two numbers sorted -/
theorem q_sort2 {a : Addr} {x y : Int} (h : SqL K H a [.int x, .int y]) (q : ∀ (u v : Int) (p : Addr) (H' : Hp), u ≤ v → ((u = x ∧ v = y) ∨ (u = y ∧ v = x)) → Same H H' → H' p = some (.lst [.int u, .int v]) → Q (.ref p) H') : rSortedI K [.ref a] H Q := by
  refine ⟨a, [x, y], rfl, h, fun ns' p hp hs hn => ?_⟩
  have hl : ns'.length = 2 := hp.length_eq
  match ns', hl with
  | [u, v], _ =>
    have huv : u ≤ v := by
      rw [List.pairwise_cons] at hs
      exact hs.1 v (by simp)
    refine q u v p _ huv ?_ (same_upd hn) upd_same
    have m1 : u ∈ [x, y] := hp.mem_iff.mp (by simp)
    have m2 : v ∈ [x, y] := hp.mem_iff.mp (by simp)
    have m3 : x ∈ [u, v] := hp.mem_iff.mpr (by simp)
    have m4 : y ∈ [u, v] := hp.mem_iff.mpr (by simp)
    simp only [List.mem_cons, List.not_mem_nil, or_false] at m1 m2 m3 m4
    rcases m1 with rfl | rfl
    · rcases m2 with rfl | rfl
      · rcases m4 with rfl | rfl <;> exact .inl ⟨rfl, rfl⟩
      · exact .inl ⟨rfl, rfl⟩
    · rcases m2 with rfl | rfl
      · exact .inr ⟨rfl, rfl⟩
      · rcases m3 with rfl | rfl <;> exact .inr ⟨rfl, rfl⟩
/-- a, b = a list of two -/
theorem q_lst2 {j k : Nat} {p : Addr} {x y : V} {σ : L2.St} {R : L2.St → Hp → Prop} (h : SqL K H p [x, y]) (q : R ((σ.set j (some x)).set k (some y)) H) : gLst K 2 (gCons (gName j) (gCons (gName k) gNil)) (.ref p) σ H R := ⟨p, [x, y], rfl, h, rfl, x, [y], rfl, y, [], rfl, rfl, q⟩
/-- a, b = a tuple of two; five -/
theorem q_tup2 {j k : Nat} {p : Addr} {x y : V} {σ : L2.St} {R : L2.St → Hp → Prop} (h : SqT K H p [x, y]) (q : R ((σ.set j (some x)).set k (some y)) H) : gTup K 2 (gCons (gName j) (gCons (gName k) gNil)) (.ref p) σ H R := ⟨p, [x, y], rfl, h, rfl, x, [y], rfl, y, [], rfl, rfl, q⟩
theorem q_tup5 {j k l m n : Nat} {p : Addr} {x y z u v : V} {σ : L2.St} {R : L2.St → Hp → Prop} (h : SqT K H p [x, y, z, u, v]) (q : R (((((σ.set j (some x)).set k (some y)).set l (some z)).set m (some u)).set n (some v)) H) :
    gTup K 5 (gCons (gName j) (gCons (gName k) (gCons (gName l) (gCons (gName m) (gCons (gName n) gNil))))) (.ref p) σ H R := ⟨p, [x, y, z, u, v], rfl, h, rfl, x, _, rfl, y, _, rfl, z, _, rfl, u, _, rfl, v, [], rfl, rfl, q⟩
theorem q_name {j : Nat} {x : V} {σ : L2.St} {R : L2.St → Hp → Prop} (q : R (σ.set j (some x)) H) : gName j x σ H R := q
/-- a letter stands at a -/
structure Ltr where
  name : Str
  sent : Int
  back : Int
  low : Int
  high : Int
def LtAt (H : Hp) (a : Addr) (L : Ltr) : Prop := H a = some (.tup [.str L.name, .int L.sent, .int L.back, .int L.low, .int L.high])
/-- a pair of numbers stands at a -/
def Pr (H : Hp) (a : Addr) (x y : Int) : Prop := H a = some (.tup [.int x, .int y])
theorem Pr.cong {a : Addr} {x y x' y' : Int} (h : H a = some (.tup [.int x, .int y])) (e1 : x = x') (e2 : y = y') : Pr H a x' y' := by
  subst e1 e2
  exact h
theorem iteN_len {xs : List V} {m : Int} {A B : Prop} (h : ((xs.length : Nat) : Int) = m) (b : B) : if (!decide (((xs.length : Nat) : Int) = m)) = true then A else B := iteN_no h b
theorem q_listOf {a : Addr} {xs : List V} (h : SqL K H a xs) (q : ∀ p H', Same H H' → H' p = some (.lst xs) → Q (.ref p) H') : rListOf K [.ref a] H Q := ⟨a, xs, rfl, .inl h, fun l hl => q l _ (same_upd hl) upd_same⟩
theorem q_isi {x : V} {a b : String} {r : Bool} (hx : TyX K H x (.type a)) (e : kitB a b = some r) (q : Q (.bl r) H) : rIsi K [x, .ty b] H Q := ⟨x, .ty b, _, _, r, rfl, .ty b, hx, kit_ty e, q⟩
theorem q_isi_int_int (q : Q (.bl true) H) : rIsi K [.int i, .ty "int"] H Q := q_isi (.base (.int i)) (by decide +kernel) q
theorem q_isi_int_bool (q : Q (.bl false) H) : rIsi K [.int i, .ty "bool"] H Q := q_isi (.base (.int i)) (by decide +kernel) q
theorem q_isi_str_str {z : Str} (q : Q (.bl true) H) : rIsi K [.str z, .ty "str"] H Q := q_isi (.base (.str z)) (by decide +kernel) q
theorem q_isi_tup_tup {a : Addr} {xs : List V} (h : H a = some (.tup xs)) (q : Q (.bl true) H) : rIsi K [.ref a, .ty "tuple"] H Q := q_isi (.base (.tup h)) (by decide +kernel) q
theorem q_isi_lst_lst {a : Addr} {xs : List V} (h : H a = some (.lst xs)) (q : Q (.bl true) H) : rIsi K [.ref a, .ty "list"] H Q := q_isi (.base (.lst h)) (by decide +kernel) q
end
end Ts

/-! Loops, comprehensions, texts, data in the heap. -/
namespace Ts
open PySem PySem.Spec PyProof.Rows L2
/-! ### what is made of tuples stays while lists change -/
/-- all tuples are as they were -/
def TSame (H H' : Hp) : Prop := ∀ a xs, H a = some (.tup xs) → H' a = some (.tup xs)
theorem TSame.refl (H : Hp) : TSame H H := fun _ _ h => h
theorem TSame.trans {H H1 H2 : Hp} (a : TSame H H1) (b : TSame H1 H2) : TSame H H2 := fun c xs h => b c xs (a c xs h)
theorem tsame_of {H H' : Hp} (s : Same H H') : TSame H H' := fun a xs h => s a _ h
theorem tsame_lst {H : Hp} {p : Addr} {xs ys : List V} (h : H p = some (.lst xs)) : TSame H (upd H p (.lst ys)) := fun a zs e => by
  rw [upd_ne (ne_of e h (by intro q; cases q))]
  exact e
theorem tsame_dK {H : Hp} {p : Addr} {xs ys : List (Key × V)} (h : H p = some (.dK xs)) : TSame H (upd H p (.dK ys)) := fun a zs e => by
  rw [upd_ne (ne_of e h (by intro q; cases q))]
  exact e
/-- an object that H does not know may change, step by step -/
theorem same_mut2 {H H1 : Hp} {p : Addr} {o : HO} (s : Same H H1) (h : H p = none) : Same H (upd H1 p o) := same_mut s h
section
variable {α β : Type} {R S : α → β → Prop}
theorem Paired.len : ∀ {xs : List α} {ys : List β}, Paired R xs ys → xs.length = ys.length
  | _, _, .nil => rfl
  | _, _, .cons _ t => by rw [List.length_cons, List.length_cons, Paired.len t]
theorem Paired.imp (h : ∀ x y, R x y → S x y) : ∀ {xs : List α} {ys : List β}, Paired R xs ys → Paired S xs ys
  | _, _, .nil => .nil
  | _, _, .cons r t => .cons (h _ _ r) (Paired.imp h t)
theorem Paired.snoc {x : α} {y : β} (r : R x y) : ∀ {xs : List α} {ys : List β}, Paired R xs ys → Paired R (xs ++ [x]) (ys ++ [y])
  | _, _, .nil => .cons r .nil
  | _, _, .cons q t => .cons q (Paired.snoc r t)
theorem Paired.at_ : ∀ {xs : List α} {ys : List β} {i : Nat} {x : α}, Paired R xs ys → xs[i]? = some x → ∃ y, ys[i]? = some y ∧ R x y
  | _, _, _, _, .nil, e => by simp at e
  | _, _, 0, _, .cons r t, e => by
    simp at e
    subst e
    exact ⟨_, rfl, r⟩
  | _, _, i + 1, x, .cons _ t, e => by
    obtain ⟨y, h1, h2⟩ := Paired.at_ (i := i) (x := x) t (by simpa using e)
    exact ⟨y, by simpa using h1, h2⟩
theorem Paired.at' : ∀ {xs : List α} {ys : List β} {i : Nat} {y : β}, Paired R xs ys → ys[i]? = some y → ∃ x, xs[i]? = some x ∧ R x y
  | _, _, _, _, .nil, e => by simp at e
  | _, _, 0, _, .cons r t, e => by
    simp at e
    subst e
    exact ⟨_, rfl, r⟩
  | _, _, i + 1, y, .cons _ t, e => by
    obtain ⟨x, h1, h2⟩ := Paired.at' (i := i) (y := y) t (by simpa using e)
    exact ⟨x, by simpa using h1, h2⟩
theorem Paired.map_left {γ : Type} {f : γ → α} : ∀ {zs : List γ} {ys : List β}, Paired (fun z y => R (f z) y) zs ys → Paired R (zs.map f) ys
  | _, _, .nil => .nil
  | _, _, .cons r t => .cons r (Paired.map_left t)
theorem Paired.map_right {γ : Type} {f : γ → β} : ∀ {xs : List α} {zs : List γ}, Paired (fun x z => R x (f z)) xs zs → Paired R xs (zs.map f)
  | _, _, .nil => .nil
  | _, _, .cons r t => .cons r (Paired.map_right t)
theorem Paired.app : ∀ {xs xs' : List α} {ys ys' : List β}, Paired R xs ys → Paired R xs' ys' → Paired R (xs ++ xs') (ys ++ ys')
  | _, _, _, _, .nil, q => q
  | _, _, _, _, .cons r t, q => .cons r (Paired.app t q)
theorem Paired.mem' : ∀ {xs : List α} {ys : List β} {x : α}, Paired R xs ys → x ∈ xs → ∃ y, y ∈ ys ∧ R x y
  | _, _, _, .nil, h => by simp at h
  | _, _, x, .cons r t, h => by
    rcases List.mem_cons.mp h with rfl | h
    · exact ⟨_, List.mem_cons_self, r⟩
    · obtain ⟨y, h1, h2⟩ := Paired.mem' t h
      exact ⟨y, List.mem_cons_of_mem _ h1, h2⟩
end

section
variable {σ : L2.St} {H H1 H2 : Hp} {Q : VK} {K : PySem.W.Frag} {v : V} {i j : Int} {g : TG} {tb : TS} {nx bk ct : L2.St → Hp → Prop} {rt : VK} {wi : TI} {te : TE} {tt : TT} {vs : List Nat} {R : It → Hp → Prop} {tr : TA}

/-! ### for -/
theorem q_for (q : wi σ H fun J H1 => ∃ W : Nat → Nat → L2.St → Hp → Prop, (∃ m, W 0 m σ H1) ∧ ∀ i m σ H, W i m σ H → (J.stop i H ∧ (Ends.mk nx rt bk ct).nx σ H) ∨ (J.go i H ∧ ∃ N : L2.St → Hp → Prop, (∀ σ' H', N σ' H' → ∃ m', m' < m ∧ W (i + 1) m' σ' H') ∧
    ∀ x H', J.yld i H x H' → g x σ H' fun σ2 H2 => tb { Ends.mk nx rt bk ct with nx := N, ct := N, bk := (Ends.mk nx rt bk ct).nx } σ2 H2)) : tFor wi g tb ⟨nx, rt, bk, ct⟩ σ H := q
theorem q_iList (q : te σ H fun x H1 => ∃ a, x = .ref a ∧ (∃ xs, SqL K H1 a xs) ∧ R (Itl K a) H1) : iList K te σ H R := q
theorem q_iTup (q : te σ H fun x H1 => ∃ a, x = .ref a ∧ (∃ xs, SqT K H1 a xs) ∧ R (Itt K a) H1) : iTup K te σ H R := q
theorem q_iStr (q : te σ H fun v H1 => ∃ x, v = .str x ∧ R (Its x) H1) : iStr te σ H R := q
theorem q_iRng1 (q : tr σ H fun vs H1 => ∃ j : Int, vs = [.int j] ∧ -(2 ^ 62) ≤ j ∧ j < 2 ^ 62 ∧ R (Itr 0 j.toNat) H1) : iRng1 tr σ H R := q
abbrev ForW (J : It) (σ : L2.St) (H : Hp) (g : TG) (tb : TS) (nx : L2.St → Hp → Prop) (rt : VK) (bk ct : L2.St → Hp → Prop) : Prop :=
  ∃ W : Nat → Nat → L2.St → Hp → Prop, (∃ m, W 0 m σ H) ∧ ∀ i m σ H, W i m σ H → (J.stop i H ∧ (Ends.mk nx rt bk ct).nx σ H) ∨ (J.go i H ∧ ∃ N : L2.St → Hp → Prop, (∀ σ' H', N σ' H' → ∃ m', m' < m ∧ W (i + 1) m' σ' H') ∧
    ∀ x H', J.yld i H x H' → g x σ H' fun σ2 H2 => tb { Ends.mk nx rt bk ct with nx := N, ct := N, bk := (Ends.mk nx rt bk ct).nx } σ2 H2)
/-- over a list -/
theorem q_forL {a : Addr} (xs : List V) (h : SqL K H a xs) (Pv : Nat → L2.St → Hp → Prop) (h0 : Pv 0 σ H) (hG : ∀ i σ H, Pv i σ H → SqL K H a xs)
    (hs : ∀ (i : Nat) x σ H, xs[i]? = some x → Pv i σ H → g x σ H fun σ2 H2 => tb ⟨Pv (i + 1), rt, nx, Pv (i + 1)⟩ σ2 H2) (hd : ∀ σ H, Pv xs.length σ H → nx σ H) :
    ∃ a', V.ref a = .ref a' ∧ (∃ xs, SqL K H a' xs) ∧ ForW (Itl K a') σ H g tb nx rt bk ct :=
  ⟨a, rfl, ⟨xs, h⟩, for_list (D := ⟨nx, rt, bk, ct⟩) Pv h0 (fun i σ H _ p => hG i σ H p) hs hd⟩
/-- over a tuple -/
theorem q_forT {a : Addr} (xs : List V) (h : SqT K H a xs) (Pv : Nat → L2.St → Hp → Prop) (h0 : Pv 0 σ H) (hG : ∀ i σ H, Pv i σ H → SqT K H a xs)
    (hs : ∀ (i : Nat) x σ H, xs[i]? = some x → Pv i σ H → g x σ H fun σ2 H2 => tb ⟨Pv (i + 1), rt, nx, Pv (i + 1)⟩ σ2 H2) (hd : ∀ σ H, Pv xs.length σ H → nx σ H) :
    ∃ a', V.ref a = .ref a' ∧ (∃ xs, SqT K H a' xs) ∧ ForW (Itt K a') σ H g tb nx rt bk ct :=
  ⟨a, rfl, ⟨xs, h⟩, for_tup (D := ⟨nx, rt, bk, ct⟩) Pv h0 (fun i σ H _ p => hG i σ H p) hs hd⟩
/-- over a text -/
theorem q_forS {z : Str} (Pv : Nat → L2.St → Hp → Prop) (h0 : Pv 0 σ H)
    (hs : ∀ (i c : Nat) σ H, z.cps.toList[i]? = some c → Pv i σ H → g (.str ⟨#[c]⟩) σ H fun σ2 H2 => tb ⟨Pv (i + 1), rt, nx, Pv (i + 1)⟩ σ2 H2) (hd : ∀ σ H, Pv z.cps.toList.length σ H → nx σ H) :
    ∃ x, V.str z = .str x ∧ ForW (Its x) σ H g tb nx rt bk ct :=
  ⟨z, rfl, for_it (D := ⟨nx, rt, bk, ct⟩) walk_str Pv h0 (fun _ _ _ _ _ => True.intro) (fun i x σ H H' hi p y => by
    obtain ⟨rfl, c, hc, rfl⟩ := y
    exact hs i c σ _ (by simpa using hc) p) (fun σ H p => hd σ H (by simpa using p))⟩
/-- over range(n) -/
theorem q_forR {n : Int} (h0 : 0 ≤ n) (h1 : n ≤ 1000000) (Pv : Nat → L2.St → Hp → Prop) (hp : Pv 0 σ H)
    (hs : ∀ (i : Nat) σ H, (i : Int) < n → Pv i σ H → g (.int (i : Int)) σ H fun σ2 H2 => tb ⟨Pv (i + 1), rt, nx, Pv (i + 1)⟩ σ2 H2) (hd : ∀ σ H, Pv n.toNat σ H → nx σ H) :
    ∃ j : Int, [V.int n] = [.int j] ∧ -(2 ^ 62) ≤ j ∧ j < 2 ^ 62 ∧ ForW (Itr 0 j.toNat) σ H g tb nx rt bk ct :=
  ⟨n, rfl, by omega, by omega, for_range (D := ⟨nx, rt, bk, ct⟩) (lo := 0) (n := n.toNat) Pv hp (fun i σ H hi p => by
    have e : (0 : Int) + (i : Int) = (i : Int) := Int.zero_add _
    rw [e]
    exact hs i σ H (by omega) p) hd⟩

/-! ### comprehensions: which turns give, and what each gives -/
abbrev LcT (g : TG) (tt : TT) (te : TE) (σ : L2.St) (vs : List Nat) (x : V) (H : Hp) (QB : Hp → Prop) (QV : V → Hp → Prop) : Prop :=
  g x (wipe σ vs) H fun σ2 H2 => wipe σ2 vs = wipe σ vs ∧ tt σ2 H2 fun b H3 => if b = true then te σ2 H3 QV else QB H3
abbrev LcW (J : It) (σ : L2.St) (H : Hp) (g : TG) (tt : TT) (te : TE) (vs : List Nat) (Q : VK) : Prop :=
  ∀ D, H D = none → ∃ W : Nat → Nat → Hp → Prop, (∃ m, W 0 m (upd H D (.lst []))) ∧ ∀ i m H, W i m H → (J.stop i H ∧ Q (.ref D) H) ∨ (J.go i H ∧ ∃ Nx : Hp → Prop, (∀ H', Nx H' → ∃ m', m' < m ∧ W (i + 1) m' H') ∧
    ∀ x H', J.yld i H x H' → g x (wipe σ vs) H' fun σ2 H2 => wipe σ2 vs = wipe σ vs ∧ tt σ2 H2 fun b H3 => if b = true then te σ2 H3 fun y H4 => ∃ acc, H4 D = some (.lst acc) ∧ acc.length < sizeLine ∧ Nx (upd H4 D (.lst (acc ++ [y]))) else Nx H3)
/-- a list's method; append -/
theorem q_tyL {l : Addr} {xs : List V} {P : Prop} (h : H l = some (.lst xs)) (q : P) : tyV K "list" (.ref l) H ∧ P := ⟨.inl ⟨rfl, _, sqL_of h⟩, q⟩
theorem q_append {l : Addr} {xs : List V} {y : V} (h : H l = some (.lst xs)) (hl : xs.length < 1000000) (q : Q .non (upd H l (.lst (xs ++ [y])))) : rAppend (.ref l) [y] H Q := ⟨l, xs, y, rfl, rfl, h, size_lt hl, q⟩
theorem q_yes {QB : Bool → Hp → Prop} (q : QB true H) : tYes σ H QB := q
theorem q_lc (q : wi σ H fun J H1 => LcW J σ H1 g tt te vs Q) : tLc wi g tt te vs σ H Q := q
/-- over any walk whose things stay: f tells which turns give, S what a turn gives (by tuples alone) -/
theorem q_lcWalk {J : It} {n : Nat} {G : Hp → Prop} {Y : Nat → Hp → V → Hp → Prop} (w : Walk J n G Y) (hn : n ≤ 100000) (f : Nat → Bool) (S : Nat → Hp → V → Prop) (hG : ∀ H', Same H H' → G H')
    (hY : ∀ i H x H', Y i H x H' → H' = H) (hm : ∀ i y H1 H2, TSame H1 H2 → S i H1 y → S i H2 y)
    (hs : ∀ (i : Nat) x H' (QB : Hp → Prop) (QV : VK), i < n → Y i H' x H' → Same H H' → (f i = false → ∀ H2, Same H' H2 → QB H2) → (∀ y H2, f i = true → Same H' H2 → S i H2 y → QV y H2) → LcT g tt te σ vs x H' QB QV)
    (q : ∀ ys D H', Same H H' → H D = none → H' D = some (.lst ys) → Paired (fun i y => S i H' y) ((List.range n).filter f) ys → Q (.ref D) H') : LcW J σ H g tt te vs Q := by
  intro D hD
  refine lc_it w (fun i H' => Same H H' ∧ ∃ ys, H' D = some (.lst ys) ∧ Paired (fun j y => S j H' y) ((List.range i).filter f) ys) ⟨same_upd hD, [], upd_same, .nil⟩ (fun i H' _ p => hG H' p.1) (fun i x H1 H1' hi p y => ?_) (fun H' p => ?_)
  · have e := hY i H1 x H1' y
    subst e
    obtain ⟨s1, ys, hys, pr⟩ := p
    have hl : ys.length < sizeLine := by
      have h1 := Paired.len pr
      have h2 := List.length_filter_le f (List.range i)
      rw [List.length_range] at h2
      exact size_lt (by omega)
    refine hs i x H1' _ _ hi y s1 ?_ ?_
    · intro hf H2 s2
      refine ⟨s1.trans s2, ys, s2 _ _ hys, ?_⟩
      rw [List.range_succ, List.filter_append, List.filter_cons, if_neg (by rw [hf]; decide)]
      simp only [List.filter_nil, List.append_nil]
      exact Paired.imp (fun j y r => hm j y _ _ (tsame_of s2) r) pr
    · intro y H2 hf s2 r
      have h2 : H2 D = some (.lst ys) := s2 _ _ hys
      have t2 : TSame H2 (upd H2 D (.lst (ys ++ [y]))) := tsame_lst h2
      refine ⟨ys, h2, hl, same_mut (s1.trans s2) hD, ys ++ [y], upd_same, ?_⟩
      rw [List.range_succ, List.filter_append, List.filter_cons, if_pos hf]
      exact Paired.snoc (R := fun j z => S j (upd H2 D (.lst (ys ++ [y]))) z) (hm _ _ _ _ t2 r) (Paired.imp (fun j y r => hm j y _ _ t2 (hm j y _ _ (tsame_of s2) r)) pr)
  · obtain ⟨s1, ys, hys, pr⟩ := p
    exact q ys D H' s1 hD hys pr
/-- over a list, a tuple, a text, a range -/
theorem q_lcL {a : Addr} {xs : List V} (h : SqL K H a xs) (hn : xs.length ≤ 100000) (f : Nat → Bool) (S : Nat → Hp → V → Prop) (hm : ∀ i y H1 H2, TSame H1 H2 → S i H1 y → S i H2 y)
    (hs : ∀ (i : Nat) x H' (QB : Hp → Prop) (QV : VK), xs[i]? = some x → Same H H' → (f i = false → ∀ H2, Same H' H2 → QB H2) → (∀ y H2, f i = true → Same H' H2 → S i H2 y → QV y H2) → LcT g tt te σ vs x H' QB QV)
    (q : ∀ ys D H', Same H H' → H D = none → H' D = some (.lst ys) → Paired (fun i y => S i H' y) ((List.range xs.length).filter f) ys → Q (.ref D) H') :
    ∃ a', V.ref a = .ref a' ∧ (∃ xs, SqL K H a' xs) ∧ LcW (Itl K a') σ H g tt te vs Q :=
  ⟨a, rfl, ⟨xs, h⟩, q_lcWalk walk_list hn f S (fun H' s => s.seq h) (fun _ _ _ _ y => y.1) hm (fun i x H' QB QV _ y s => hs i x H' QB QV y.2 s) q⟩
theorem q_lcT {a : Addr} {xs : List V} (h : SqT K H a xs) (hn : xs.length ≤ 100000) (f : Nat → Bool) (S : Nat → Hp → V → Prop) (hm : ∀ i y H1 H2, TSame H1 H2 → S i H1 y → S i H2 y)
    (hs : ∀ (i : Nat) x H' (QB : Hp → Prop) (QV : VK), xs[i]? = some x → Same H H' → (f i = false → ∀ H2, Same H' H2 → QB H2) → (∀ y H2, f i = true → Same H' H2 → S i H2 y → QV y H2) → LcT g tt te σ vs x H' QB QV)
    (q : ∀ ys D H', Same H H' → H D = none → H' D = some (.lst ys) → Paired (fun i y => S i H' y) ((List.range xs.length).filter f) ys → Q (.ref D) H') :
    ∃ a', V.ref a = .ref a' ∧ (∃ xs, SqT K H a' xs) ∧ LcW (Itt K a') σ H g tt te vs Q :=
  ⟨a, rfl, ⟨xs, h⟩, q_lcWalk walk_tup hn f S (fun H' s => Same.sqT s h) (fun _ _ _ _ y => y.1) hm (fun i x H' QB QV _ y s => hs i x H' QB QV y.2 s) q⟩
theorem q_lcS {z : Str} (hn : z.cps.toList.length ≤ 100000) (f : Nat → Bool) (S : Nat → Hp → V → Prop) (hm : ∀ i y H1 H2, TSame H1 H2 → S i H1 y → S i H2 y)
    (hs : ∀ (i c : Nat) H' (QB : Hp → Prop) (QV : VK), z.cps.toList[i]? = some c → Same H H' → (f i = false → ∀ H2, Same H' H2 → QB H2) → (∀ y H2, f i = true → Same H' H2 → S i H2 y → QV y H2) → LcT g tt te σ vs (.str ⟨#[c]⟩) H' QB QV)
    (q : ∀ ys D H', Same H H' → H D = none → H' D = some (.lst ys) → Paired (fun i y => S i H' y) ((List.range z.cps.toList.length).filter f) ys → Q (.ref D) H') :
    ∃ x, V.str z = .str x ∧ LcW (Its x) σ H g tt te vs Q :=
  ⟨z, rfl, q_lcWalk walk_str (by simpa using hn) f S (fun _ _ => True.intro) (fun _ _ _ _ y => y.1) hm (fun i x H' QB QV _ y s => by
    obtain ⟨_, c, hc, rfl⟩ := y
    exact hs i c H' QB QV (by simpa using hc) s) (fun ys D H' s hD h p => q ys D H' s hD h (by simpa using p))⟩
theorem q_lcR {n : Int} (h0 : 0 ≤ n) (h1 : n ≤ 100000) (f : Nat → Bool) (S : Nat → Hp → V → Prop) (hm : ∀ i y H1 H2, TSame H1 H2 → S i H1 y → S i H2 y)
    (hs : ∀ (i : Nat) H' (QB : Hp → Prop) (QV : VK), (i : Int) < n → Same H H' → (f i = false → ∀ H2, Same H' H2 → QB H2) → (∀ y H2, f i = true → Same H' H2 → S i H2 y → QV y H2) → LcT g tt te σ vs (.int (i : Int)) H' QB QV)
    (q : ∀ ys D H', Same H H' → H D = none → H' D = some (.lst ys) → Paired (fun i y => S i H' y) ((List.range n.toNat).filter f) ys → Q (.ref D) H') :
    ∃ j : Int, [V.int n] = [.int j] ∧ -(2 ^ 62) ≤ j ∧ j < 2 ^ 62 ∧ LcW (Itr 0 j.toNat) σ H g tt te vs Q :=
  ⟨n, rfl, by omega, by omega, q_lcWalk walk_range (by omega) f S (fun _ _ => True.intro) (fun _ _ _ _ y => y.1) hm (fun i x H' QB QV hi y s => by
    obtain ⟨_, rfl⟩ := y
    have e : (0 : Int) + (i : Int) = (i : Int) := Int.zero_add _
    show _ → _ → LcT g tt te σ vs (.int ((0 : Int) + (i : Int))) H' QB QV
    rw [e]
    exact hs i H' QB QV (by omega) s) q⟩
theorem filt_all (n : Nat) : (List.range n).filter (fun _ => true) = List.range n := by simp
end
end Ts

/-! Texts; clocks and letters as data. -/
namespace Ts
open PySem PySem.Spec PyProof.Rows L2
/-! ### texts -/
theorem tl_app (a b : Str) : (a ++ b).cps.toList = a.cps.toList ++ b.cps.toList := by
  have e : (a ++ b).cps = a.cps ++ b.cps := rfl
  rw [e]
  simp
theorem tl_len (z : Str) : z.length = z.cps.toList.length := by
  show z.cps.size = _
  simp
theorem str_ext {a b : Str} (h : a.cps.toList = b.cps.toList) : a = b := by
  cases a; cases b
  simp at h
  rw [h]
theorem cut_hd (z : Str) (k : Nat) : (cutS z none (some (k : Int))).cps.toList = z.cps.toList.take k := by
  show ((z.cps.toList.drop (HT.sIx z.length 0 none)).take (HT.sIx z.length z.length (some (k : Int)) - HT.sIx z.length 0 none)).toArray.toList = _
  have e1 : HT.sIx z.length 0 none = 0 := HT.sIx_none ..
  have e2 : HT.sIx z.length z.length (some (k : Int)) = min k z.length := HT.sIx_nat ..
  rw [e1, e2, tl_len]
  simp [List.take_eq_take_iff]
theorem cut_tl (z : Str) (k : Nat) : (cutS z (some (k : Int)) none).cps.toList = z.cps.toList.drop k := by
  show ((z.cps.toList.drop (HT.sIx z.length 0 (some (k : Int)))).take (HT.sIx z.length z.length none - HT.sIx z.length 0 (some (k : Int)))).toArray.toList = _
  have e1 : HT.sIx z.length z.length none = z.length := HT.sIx_none ..
  have e2 : HT.sIx z.length 0 (some (k : Int)) = min k z.length := HT.sIx_nat ..
  rw [e1, e2, tl_len]
  simp only [List.toList_toArray]
  by_cases h : k ≤ z.cps.toList.length
  · rw [Nat.min_eq_left h, List.take_of_length_le (by simp)]
  · rw [Nat.min_eq_right (by omega), List.drop_of_length_le (Nat.le_refl _), List.drop_of_length_le (by omega)]
    simp
/-- small letters alone -/
def Low (z : Str) : Prop := ∀ c ∈ z.cps.toList, 97 ≤ c ∧ c ≤ 122
theorem Low.app {a b : Str} (ha : Low a) (hb : Low b) : Low (a ++ b) := fun c h => by
  rw [tl_app] at h
  rcases List.mem_append.mp h with h | h
  · exact ha c h
  · exact hb c h
theorem Low.ok {z : Str} (h : Low z) : PyData.strOk z = true := by
  unfold PyData.strOk
  rw [Array.all_eq_true]
  intro i hi
  have := h z.cps[i] (by simp)
  simp
  omega
abbrev abc : Str := "abcdefghijklmnopqrstuvwxyz"
theorem abc_at : ∀ i : Fin 26, abc.cps.toList[i.val]? = some (97 + i.val) := by decide +kernel
theorem abc_len : abc.cps.toList.length = 26 := by decide +kernel
section
variable {σ : L2.St} {H : Hp} {Q : VK} {K : PySem.W.Frag} {v : V} {i j : Int} {te : TE} {tl th : TO}
theorem op_addS {X : Cx} : OpR X (binaryOp .Add) rAddS := op_add_str
theorem q_addS {a b : Str} (h : a.length + b.length ≤ 1000000) (q : Q (.str (a ++ b)) H) : rAddS (.str a) (.str b) H Q := ⟨a, b, rfl, rfl, size_of h, q⟩
theorem q_ixAbc (h0 : 0 ≤ i) (h1 : i < 26) (q : ∀ c : Nat, c = 97 + i.toNat → Q (.str ⟨#[c]⟩) H) : rIxS (.str abc) (.int i) H Q := by
  obtain ⟨k, rfl⟩ : ∃ k : Nat, i = (k : Int) := ⟨i.toNat, by omega⟩
  refine ⟨abc, _, 97 + k, rfl, rfl, ?_, atI_nat (abc_at ⟨k, by omega⟩), q _ (by simp)⟩
  rw [tl_len, abc_len]
  exact size_of (by decide)
theorem q_sl {r : V → Option Int → Option Int → Hp → VK → Prop} (q : te σ H fun x H1 => tl σ H1 fun l H2 => th σ H2 fun u H3 => r x l u H3 Q) : tSl r te tl th σ H Q := q
theorem q_noPart {R : Option Int → Hp → Prop} (q : R none H) : tNoPart σ H R := q
theorem q_part {R : Option Int → Hp → Prop} (q : te σ H fun x H1 => ∃ i, x = .int i ∧ R (some i) H1) : tPart te σ H R := q
theorem q_partI {R : Int → Prop} (q : R i) : ∃ j, V.int i = .int j ∧ R j := ⟨i, rfl, q⟩
theorem q_slS {z : Str} {lo hi : Option Int} (h : z.length ≤ 1000000) (q : Q (.str (cutS z lo hi)) H) : rSlS (.str z) lo hi H Q := ⟨z, rfl, size_of h, q⟩
end
theorem low_one {c : Nat} (h : 97 ≤ c) (h1 : c ≤ 122) : Low ⟨#[c]⟩ := fun d hd => by
  simp at hd
  omega
theorem low_cut {z : Str} {k : Nat} (h : Low z) : Low (cutS z none (some (k : Int))) ∧ Low (cutS z (some (k : Int)) none) :=
  ⟨fun c hc => h c (List.mem_of_mem_take (by rw [cut_hd] at hc; exact hc)), fun c hc => h c (List.mem_of_mem_drop (by rw [cut_tl] at hc; exact hc))⟩
theorem low_empty : Low "" := by
  intro c h
  have e : (("" : Str).cps.toList) = [] := by decide +kernel
  rw [e] at h
  cases h
theorem low_z : Low "z" := by
  have e : (("z" : Str).cps.toList) = [122] := by decide +kernel
  intro c h
  rw [e] at h
  simp at h
  omega
theorem paired_eq {α β : Type} {f : α → β} : ∀ {l : List α} {ys : List β}, Paired (fun a y => y = f a) l ys → ys = l.map f
  | _, _, .nil => rfl
  | _, _, .cons r t => by rw [List.map_cons, ← r, paired_eq t]
/-- what a filtered walk over a list gives -/
theorem paired_filter {α β : Type} {R : α → β → Prop} (l : List α) (p : α → Bool) : ∀ (n : Nat), n ≤ l.length → ∀ ys, Paired (fun i y => ∃ c, l[i]? = some c ∧ R c y) ((List.range n).filter (fun i => (l[i]?).elim false p)) ys → Paired R ((l.take n).filter p) ys
  | 0, _, ys, h => by
    simp at h
    cases h
    simp
    exact .nil
  | n + 1, hn, ys, h => by
    have hlt : n < l.length := by omega
    have e : l[n]? = some l[n] := List.getElem?_eq_getElem hlt
    rw [List.range_succ, List.filter_append, List.filter_cons] at h
    rw [List.take_add_one, e, List.filter_append]
    simp only [Option.toList_some, List.filter_cons, List.filter_nil, e, Option.elim_some] at h ⊢
    by_cases hp : p l[n] = true
    · rw [if_pos hp] at h ⊢
      obtain ⟨ys', y, rfl, h1, h2⟩ := paired_snoc_inv h
      obtain ⟨c, hc, r⟩ := h2
      rw [e] at hc
      cases hc
      exact Paired.snoc r (paired_filter l p n (by omega) ys' h1)
    · rw [if_neg hp] at h ⊢
      simp only [List.append_nil] at h ⊢
      exact paired_filter l p n (by omega) ys h
where
  paired_snoc_inv {α β : Type} {R : α → β → Prop} : ∀ {xs : List α} {x : α} {ys : List β}, Paired R (xs ++ [x]) ys → ∃ ys' y, ys = ys' ++ [y] ∧ Paired R xs ys' ∧ R x y
    | [], x, _, .cons r .nil => ⟨[], _, rfl, .nil, r⟩
    | a :: r, x, _, .cons q t => by
      obtain ⟨ys', y, rfl, h1, h2⟩ := paired_snoc_inv t
      exact ⟨_ :: ys', y, rfl, .cons q h1, h2⟩

/-! ### data in the heap -/
abbrev Stc := Option (Int × Int)
abbrev Clk := Str × Stc
def IsSt (H : Hp) (v : V) : Stc → Prop
  | none => v = .non
  | some s => ∃ a, v = .ref a ∧ H a = some (.tup [.int s.1, .int s.2])
def IsCk (H : Hp) (v : V) (c : Clk) : Prop := ∃ a u, v = .ref a ∧ H a = some (.tup [.str c.1, u]) ∧ IsSt H u c.2
def IsLt (H : Hp) (v : V) (L : Ltr) : Prop := ∃ a, v = .ref a ∧ LtAt H a L
def IsPr (H : Hp) (v : V) (s : Int × Int) : Prop := ∃ a, v = .ref a ∧ H a = some (.tup [.int s.1, .int s.2])
theorem IsSt.mono {H H' : Hp} {v : V} {o : Stc} (s : TSame H H') (h : IsSt H v o) : IsSt H' v o := by
  cases o with
  | none => exact h
  | some x =>
    obtain ⟨a, rfl, e⟩ := h
    exact ⟨a, rfl, s _ _ e⟩
theorem IsCk.mono {H H' : Hp} {v : V} {c : Clk} (s : TSame H H') (h : IsCk H v c) : IsCk H' v c := by
  obtain ⟨a, u, rfl, e, q⟩ := h
  exact ⟨a, u, rfl, s _ _ e, q.mono s⟩
theorem IsLt.mono {H H' : Hp} {v : V} {c : Ltr} (s : TSame H H') (h : IsLt H v c) : IsLt H' v c := by
  obtain ⟨a, rfl, e⟩ := h
  exact ⟨a, rfl, s _ _ e⟩
theorem IsPr.mono {H H' : Hp} {v : V} {c : Int × Int} (s : TSame H H') (h : IsPr H v c) : IsPr H' v c := by
  obtain ⟨a, rfl, e⟩ := h
  exact ⟨a, rfl, s _ _ e⟩
/-- the values xs are the clocks cs -/
abbrev Cks (H : Hp) (xs : List V) (cs : List Clk) : Prop := Paired (IsCk H) xs cs
abbrev Lts (H : Hp) (xs : List V) (cs : List Ltr) : Prop := Paired (IsLt H) xs cs
abbrev Prs (H : Hp) (xs : List V) (cs : List (Int × Int)) : Prop := Paired (IsPr H) xs cs
theorem Cks.mono {H H' : Hp} {xs : List V} {cs : List Clk} (s : TSame H H') (h : Cks H xs cs) : Cks H' xs cs := Paired.imp (fun _ _ r => IsCk.mono s r) h
theorem Lts.mono {H H' : Hp} {xs : List V} {cs : List Ltr} (s : TSame H H') (h : Lts H xs cs) : Lts H' xs cs := Paired.imp (fun _ _ r => IsLt.mono s r) h
theorem Prs.mono {H H' : Hp} {xs : List V} {cs : List (Int × Int)} (s : TSame H H') (h : Prs H xs cs) : Prs H' xs cs := Paired.imp (fun _ _ r => IsPr.mono s r) h
theorem cks_step {H H' : Hp} {xs : List V} {cs : List Clk} (s : Same H H') (h : Cks H xs cs) : Cks H' xs cs := h.mono (tsame_of s)
theorem lts_step {H H' : Hp} {xs : List V} {cs : List Ltr} (s : Same H H') (h : Lts H xs cs) : Lts H' xs cs := h.mono (tsame_of s)
theorem prs_step {H H' : Hp} {xs : List V} {cs : List (Int × Int)} (s : Same H H') (h : Prs H xs cs) : Prs H' xs cs := h.mono (tsame_of s)

/-! ### the same as data for == -/
def dSt : Stc → PyData
  | none => .none
  | some s => .tuple [.int s.1, .int s.2]
def dCk (c : Clk) : PyData := .tuple [.str c.1, dSt c.2]
def dLt (L : Ltr) : PyData := .tuple [.str L.name, .int L.sent, .int L.back, .int L.low, .int L.high]
def dPr (s : Int × Int) : PyData := .tuple [.int s.1, .int s.2]
section
variable {K : PySem.W.Frag} {H : Hp}
theorem dp_st {v : V} {o : Stc} (h : IsSt H v o) : Dp K H v (dSt o) := by
  cases o with
  | none =>
    cases h
    exact .non
  | some s =>
    obtain ⟨a, rfl, e⟩ := h
    exact dp_pair e
theorem dp_ck {v : V} {c : Clk} (h : IsCk H v c) : Dp K H v (dCk c) := by
  obtain ⟨a, u, rfl, e, q⟩ := h
  exact .tup (sqT_of e) (.cons (.str _) (.cons (dp_st q) .nil))
theorem dp_lt {v : V} {c : Ltr} (h : IsLt H v c) : Dp K H v (dLt c) := by
  obtain ⟨a, rfl, e⟩ := h
  exact .tup (sqT_of e) (.cons (.str _) (.cons (.int _) (.cons (.int _) (.cons (.int _) (.cons (.int _) .nil)))))
theorem dp_pr {v : V} {c : Int × Int} (h : IsPr H v c) : Dp K H v (dPr c) := by
  obtain ⟨a, rfl, e⟩ := h
  exact dp_pair e
theorem dp_all {α : Type} {R : V → α → Prop} {d : α → PyData} (hd : ∀ v a, R v a → Dp K H v (d a)) : ∀ {xs : List V} {ls : List α}, Paired R xs ls → DpAll K H xs (ls.map d)
  | _, _, .nil => .nil
  | _, _, .cons r t => .cons (hd _ _ r) (dp_all hd t)
theorem dp_lst {α : Type} {R : V → α → Prop} {d : α → PyData} {p : Addr} {xs : List V} {ls : List α} (hd : ∀ v a, R v a → Dp K H v (d a)) (e : H p = some (.lst xs)) (h : Paired R xs ls) : Dp K H (.ref p) (.list (ls.map d)) := .lst (sqL_of e) (dp_all hd h)
theorem dp_strs : ∀ (zs : List Str), DpAll K H (zs.map V.str) (zs.map PyData.str)
  | [] => .nil
  | z :: r => .cons (.str z) (dp_strs r)
theorem dp_lstrs {p : Addr} {zs : List Str} (e : H p = some (.lst (zs.map V.str))) : Dp K H (.ref p) (.list (zs.map PyData.str)) := .lst (sqL_of e) (dp_strs zs)
end
theorem shaped_list {α : Type} {d : α → PyData} (ls : List α) (h : ∀ a ∈ ls, (d a).canLay0 = true ∧ (d a).depth ≤ 10) : SeqAt.shaped (.list (ls.map d)) = true := by
  have h1 : PyData.canLayAll0 (ls.map d) = true ∧ PyData.depthAll (ls.map d) ≤ 10 := by
    induction ls with
    | nil => exact ⟨rfl, by simp [PyData.depthAll]⟩
    | cons a r ih =>
      obtain ⟨i1, i2⟩ := ih fun b hb => h b (List.mem_cons_of_mem _ hb)
      obtain ⟨a1, a2⟩ := h a List.mem_cons_self
      refine ⟨?_, ?_⟩
      · simp [PyData.canLayAll0, a1]
        simpa using i1
      · simp only [List.map_cons, PyData.depthAll]
        exact Nat.max_le.mpr ⟨a2, i2⟩
  unfold SeqAt.shaped
  have e1 : (PyData.list (ls.map d)).canLay0 = true := by
    simp only [PyData.canLay0]
    exact h1.1
  have e2 : (PyData.list (ls.map d)).depth ≤ 64 := by
    simp only [PyData.depth]
    omega
  rw [e1, decide_eq_true e2]
  rfl
theorem ok_dSt (o : Stc) : (dSt o).canLay0 = true ∧ (dSt o).depth ≤ 3 := by
  cases o with
  | none => exact ⟨rfl, by decide⟩
  | some s => exact ⟨rfl, by simp [dSt, PyData.depth, PyData.depthAll]⟩
theorem ok_dCk (c : Clk) (h : PyData.strOk c.1 = true) : (dCk c).canLay0 = true ∧ (dCk c).depth ≤ 10 := by
  obtain ⟨h1, h2⟩ := ok_dSt c.2
  refine ⟨?_, ?_⟩
  · simp [dCk, PyData.canLay0, PyData.canLayAll0, h, h1]
  · simp [dCk, PyData.depth, PyData.depthAll]
    omega
theorem ok_dLt (c : Ltr) (h : PyData.strOk c.name = true) : (dLt c).canLay0 = true ∧ (dLt c).depth ≤ 10 := by
  refine ⟨?_, ?_⟩
  · simp [dLt, PyData.canLay0, PyData.canLayAll0, h]
  · simp [dLt, PyData.depth, PyData.depthAll]
theorem ok_dPr (c : Int × Int) : (dPr c).canLay0 = true ∧ (dPr c).depth ≤ 10 := by
  refine ⟨?_, ?_⟩
  · simp [dPr, PyData.canLay0, PyData.canLayAll0]
  · simp [dPr, PyData.depth, PyData.depthAll]
theorem ok_dStr (z : Str) (h : PyData.strOk z = true) : (PyData.str z).canLay0 = true ∧ (PyData.str z).depth ≤ 10 := ⟨by simp [PyData.canLay0, h], by simp [PyData.depth]⟩
end Ts
namespace Ts
open PySem PySem.Spec PyProof.Rows L2
/-- values told by places, in the order of the places -/
theorem paired_range {α : Type} {R : V → α → Prop} {l : List α} {ys : List V} (h : Paired (fun i y => ∃ t, l[i]? = some t ∧ R y t) (List.range l.length) ys) : Paired R ys l := by
  have gen : ∀ (n : Nat) (ys : List V), n ≤ l.length → Paired (fun i y => ∃ t, l[i]? = some t ∧ R y t) (List.range n) ys → Paired R ys (l.take n) := by
    intro n
    induction n with
    | zero =>
      intro ys _ h
      simp at h
      cases h
      simp
      exact .nil
    | succ n ih =>
      intro ys hn h
      rw [List.range_succ] at h
      obtain ⟨ys', y, rfl, h1, t, ht, r⟩ := paired_filter.paired_snoc_inv h
      rw [List.take_add_one, ht]
      exact Paired.snoc r (ih ys' (by omega) h1)
  have := gen l.length ys (Nat.le_refl _) h
  rw [List.take_length] at this
  exact this
end Ts

/-! Signs of a text; parts of tuples; places of lists that change. -/
namespace Ts
open PySem PySem.Spec PyProof.Rows L2
section
variable {σ : L2.St} {H : Hp} {Q : VK} {K : PySem.W.Frag} {v : V} {i j : Int} {te : TE} {tl th : TO}
theorem q_notInS {c : Nat} {z : Str} (q : Q (.bl (!decide (c ∈ z.cps.toList))) H) : rNotInS (.str ⟨#[c]⟩) (.str z) H Q := ⟨c, z, rfl, rfl, q⟩
theorem q_lenLit {z : Str} (n : Nat) (e : z.length = n) (h : n ≤ 1000000) (q : Q (.int (n : Nat)) H) : rLen K [.str z] H Q := q_lenS (by rw [e]; exact size_of h) (by rw [e]; exact q)
theorem q_gSub {to ti : TE} {t : TSet} {nx : L2.St → Hp → Prop} (q : to σ H fun o H1 => ti σ H1 fun i H2 => t o i v H2 fun H3 => nx σ H3) : gSub to ti t v σ H nx := q
theorem q_setL {p : Addr} {xs : List V} {R : Hp → Prop} (h : H p = some (.lst xs)) (h0 : 0 ≤ i) (h1 : i < xs.length) (q : R (upd H p (.lst (xs.set i.toNat v)))) : rSetL (.ref p) (.int i) v H R := by
  obtain ⟨k, rfl⟩ : ∃ k : Nat, i = (k : Int) := ⟨i.toNat, by omega⟩
  exact ⟨p, xs, _, k, rfl, rfl, h, (by unfold ixN; rw [if_pos (by omega), if_pos (by omega)]; rfl), q⟩
theorem q_catF {a b : Addr} {xs ys : List V} (h1 : H a = some (.lst xs)) (h2 : H b = some (.lst ys)) (hl : xs.length + ys.length ≤ sizeLine) (q : ∀ p H', H p = none → Same H H' → H' p = some (.lst (xs ++ ys)) → Q (.ref p) H') : rCat (.ref a) (.ref b) H Q :=
  ⟨a, b, xs, ys, rfl, rfl, h1, h2, hl, fun p hp => q p _ hp (same_upd hp) upd_same⟩
theorem q_slT1 {a : Addr} {v0 v1 v2 v3 v4 : V} (h : H a = some (.tup [v0, v1, v2, v3, v4])) (q : ∀ p H', Same H H' → H' p = some (.tup [v1, v2, v3, v4]) → Q (.ref p) H') : rSlT K (.ref a) (some 1) none H Q :=
  ⟨a, _, rfl, sqT_of h, by simp [HT.sIx], fun p hp => q p _ (same_upd hp) (by rw [upd_same]; rfl)⟩
theorem sl_tupK {X : Cx} (K : PySem.W.Frag) (h : X.K = K := by rfl) : SlR X (rSlT K) := by subst h; exact sl_tup
/-- signs below 128 alone -/
def Asc (z : Str) : Prop := ∀ c ∈ z.cps.toList, c < 128
theorem Asc.app {a b : Str} (ha : Asc a) (hb : Asc b) : Asc (a ++ b) := fun c h => by
  rw [tl_app] at h
  rcases List.mem_append.mp h with h | h
  · exact ha c h
  · exact hb c h
theorem Asc.ok {z : Str} (h : Asc z) : PyData.strOk z = true := by
  unfold PyData.strOk
  rw [Array.all_eq_true]
  intro i hi
  have := h z.cps[i] (by simp)
  simp
  omega
theorem Low.asc {z : Str} (h : Low z) : Asc z := fun c hc => by have := h c hc; omega
theorem asc_one {c : Nat} (h : c < 128) : Asc ⟨#[c]⟩ := fun d hd => by
  simp at hd
  omega
theorem Asc.cut {z : Str} {lo hi : Option Int} (h : Asc z) : Asc (cutS z lo hi) := fun c hc => h c (List.mem_of_mem_drop (List.mem_of_mem_take (by
  have e : (cutS z lo hi).cps.toList = (z.cps.toList.drop (HT.sIx z.length 0 lo)).take (HT.sIx z.length z.length hi - HT.sIx z.length 0 lo) := by unfold cutS; simp
  rw [e] at hc
  exact hc)))
theorem q_ixLit {z : Str} (n : Nat) (e : z.length = n) (ha : z.cps.toList.all (fun c => decide (c < 128)) = true) (hn : n ≤ 1000000) (h0 : 0 ≤ i) (h1 : i < n) (q : ∀ c : Nat, c < 128 → Q (.str ⟨#[c]⟩) H) : rIxS (.str z) (.int i) H Q := by
  obtain ⟨k, rfl⟩ : ∃ k : Nat, i = (k : Int) := ⟨i.toNat, by omega⟩
  have hk : k < z.cps.toList.length := by rw [← tl_len, e]; omega
  refine ⟨z, _, z.cps.toList[k], rfl, rfl, by rw [e]; exact size_of hn, atI_nat (List.getElem?_eq_getElem hk), q _ ?_⟩
  exact of_decide_eq_true (List.all_eq_true.mp ha _ (List.getElem_mem hk))
theorem mem_abc {c : Nat} : c ∈ abc.cps.toList ↔ 97 ≤ c ∧ c ≤ 122 := by
  rw [show abc.cps.toList = (List.range 26).map (fun i => 97 + i) from by decide +kernel, List.mem_map]
  constructor
  · rintro ⟨i, hi, rfl⟩
    have := List.mem_range.mp hi
    omega
  · intro h
    exact ⟨c - 97, List.mem_range.mpr (by omega), by omega⟩
/-- a list of texts against the empty one -/
theorem q_neNilS {p r : Addr} {zs : List Str} (h1 : H p = some (.lst (zs.map V.str))) (h2 : H r = some (.lst [])) (hz : ∀ z ∈ zs, PyData.strOk z = true) (q : Q (.bl (!zs.isEmpty)) H) : rNeD K (.ref p) (.ref r) H Q := by
  refine ⟨.list (zs.map PyData.str), .list [], dp_lstrs h1, .lst (sqL_of h2) .nil, shaped_list zs fun a ha => ok_dStr a (hz a ha), rfl, ?_⟩
  cases zs with
  | nil => exact q
  | cons a r => exact q
theorem set4 (a b c d z : Int) (j : Nat) (hj : j < 4) : ∃ a' b' c' d' : Int, ([V.int a, .int b, .int c, .int d].set j (.int z)) = [V.int a', .int b', .int c', .int d'] := by
  rcases j with _ | _ | _ | _ | j
  · exact ⟨_, _, _, _, rfl⟩
  · exact ⟨_, _, _, _, rfl⟩
  · exact ⟨_, _, _, _, rfl⟩
  · exact ⟨_, _, _, _, rfl⟩
  · omega
end
theorem flip_ {α β : Type} {R : α → β → Prop} : ∀ {xs : List α} {ys : List β}, Paired R xs ys → Paired (fun y x => R x y) ys xs
  | _, _, .nil => .nil
  | _, _, .cons r t => .cons r (flip_ t)
/-! ### names and letters that are some -/
def IsName (z : Str) : Prop := 1 ≤ z.length ∧ z.length ≤ 12 ∧ Low z
def NumOk (x : Int) : Prop := 0 ≤ x ∧ x ≤ 1000000000000
def Good (L : Ltr) : Prop := NumOk L.sent ∧ NumOk L.back ∧ NumOk L.low ∧ NumOk L.high ∧ L.sent ≤ L.back ∧ L.low ≤ L.high
theorem Good.mem {L : Ltr} (h : Good L) : ∀ x ∈ [L.sent, L.back, L.low, L.high], NumOk x := by
  obtain ⟨h1, h2, h3, h4, _⟩ := h
  intro x hx
  simp at hx
  rcases hx with rfl | rfl | rfl | rfl <;> assumption
theorem Good.of {L : Ltr} (h : ∀ x ∈ [L.sent, L.back, L.low, L.high], NumOk x) (h1 : L.sent ≤ L.back) (h2 : L.low ≤ L.high) : Good L := ⟨h _ (by simp), h _ (by simp), h _ (by simp), h _ (by simp), h1, h2⟩
theorem map_at {α : Type} {f : α → V} {l : List α} {i : Nat} {x : V} (h : (l.map f)[i]? = some x) : ∃ t, l[i]? = some t ∧ x = f t := by
  rw [List.getElem?_map] at h
  cases e : l[i]? with
  | none => rw [e] at h; cases h
  | some t => rw [e] at h; cases h; exact ⟨t, rfl, rfl⟩
theorem take_all {α : Type} {l : List α} {i : Nat} {t : α} {p : α → Prop} (h : l[i]? = some t) (ht : p t) (hl : ∀ x ∈ l.take i, p x) : ∀ x ∈ l.take (i + 1), p x := by
  intro x hx
  rw [List.take_add_one, h] at hx
  rcases List.mem_append.mp hx with hx | hx
  · exact hl x hx
  · simp at hx
    rw [hx]
    exact ht
/-- both ways of an if lead on to one place -/
theorem q_join {t u : TS} {p : Prop} [Decidable p] {nx bk ct : L2.St → Hp → Prop} {rt : VK} {σ : L2.St} {H : Hp} (P : L2.St → Hp → Prop) (h1 : ∀ σ' H', P σ' H' → nx σ' H')
    (h2 : ∀ nx' : L2.St → Hp → Prop, (∀ σ' H', P σ' H' → nx' σ' H') → if p then t ⟨nx', rt, bk, ct⟩ σ H else u ⟨nx', rt, bk, ct⟩ σ H) : if p then t ⟨nx, rt, bk, ct⟩ σ H else u ⟨nx, rt, bk, ct⟩ σ H := h2 nx h1
theorem q_joinS {tt : TT} {t u : TS} {nx bk ct : L2.St → Hp → Prop} {rt : VK} {σ : L2.St} {H : Hp} (P : L2.St → Hp → Prop) (h1 : ∀ σ' H', P σ' H' → nx σ' H')
    (h2 : ∀ nx' : L2.St → Hp → Prop, (∀ σ' H', P σ' H' → nx' σ' H') → tIfS tt t u ⟨nx', rt, bk, ct⟩ σ H) : tIfS tt t u ⟨nx, rt, bk, ct⟩ σ H := h2 nx h1
theorem two_of {ys : List V} (h : Paired (fun (_ : Nat) v => ∃ z : Int, v = V.int z) ((List.range (Int.toNat 2)).filter fun _ => true) ys) : ∃ x y : Int, ys = [.int x, .int y] := by
  rw [filt_all] at h
  have e : List.range (Int.toNat 2) = [0, 1] := rfl
  rw [e] at h
  cases h with
  | cons h1 t =>
    cases t with
    | cons h2 t =>
      cases t
      obtain ⟨x, rfl⟩ := h1
      obtain ⟨y, rfl⟩ := h2
      exact ⟨x, y, rfl⟩
theorem shaped_lt {L : Ltr} (h : PyData.strOk L.name = true) : SeqAt.shaped (dLt L) = true := by
  obtain ⟨a, b⟩ := ok_dLt L h
  unfold SeqAt.shaped
  simp [a]
  omega
end Ts

/-! Letters as rows of a text. -/
namespace Ts
open PySem PySem.Spec PyProof.Rows L2
/-- a number as a text -/
def nT (n : Int) : Str := Str.ofString (toString n)
theorem nT_len {n : Int} (h : NumOk n) : (nT n).length ≤ 13 := PyProof.Rows.toString_length_le h.1 (by decide) (by
  have := h.2
  have e : (10 : Int) ^ 13 = 10000000000000 := by decide
  omega)
theorem nT_log {n : Int} (h : NumOk n) : n.natAbs.log2 < 1920 := PyProof.Rows.shown (N := 2 ^ 50) (by
  have := h.1
  have e : (2 : Int) ^ 50 = 1125899906842624 := by decide
  omega) (by
  have := h.2
  have e : (2 : Int) ^ 50 = 1125899906842624 := by decide
  omega) (by decide +kernel)
/-- a letter's row without its line feed -/
def rowS (L : Ltr) : Str := L.name ++ " sent " ++ nT L.sent ++ " back " ++ nT L.back ++ " swears " ++ nT L.low ++ " to " ++ nT L.high
theorem l_sent : (" sent " : Str).length = 6 := by decide +kernel
theorem l_back : (" back " : Str).length = 6 := by decide +kernel
theorem l_swears : (" swears " : Str).length = 8 := by decide +kernel
theorem l_to : (" to " : Str).length = 4 := by decide +kernel
theorem l_nl : ("\n" : Str).length = 1 := by decide +kernel
theorem l_emp : (Str.empty : Str).length = 0 := by decide +kernel
theorem rowS_len {L : Ltr} (hn : L.name.length ≤ 12) (h : Good L) : (rowS L).length ≤ 88 := by
  have h1 := nT_len h.1
  have h2 := nT_len h.2.1
  have h3 := nT_len h.2.2.1
  have h4 := nT_len h.2.2.2.1
  unfold rowS
  simp only [PySem.strLen_append, l_sent, l_back, l_swears, l_to]
  omega
section
variable {σ : L2.St} {H : Hp} {Q : VK} {i : Int} {z : Str} {te to : TE} {t : TE} {ts : List TE} {acc : Str} {QS : Str → Hp → Prop}
def tJoin (ts : List TE) : TE := fun σ H Q => tJs ts Str.empty σ H fun out H1 => Q (.str out) H1
theorem pe_joinT {X : Cx} {v1 v2 : Expr} {rest : List Expr} {pos : Pos} (h : PJ X (v1 :: v2 :: rest) ts) : PE X (.JoinedStr (v1 :: v2 :: rest) pos) (tJoin ts) := pe_joined h
theorem q_tJoin (q : tJs ts Str.empty σ H fun out H1 => Q (.str out) H1) : tJoin ts σ H Q := q
def rStrI : List V → Hp → VK → Prop := fun xs H Q => ∃ i, xs = [.int i] ∧ i.natAbs.log2 < 1920 ∧ Q (.str (nT i)) H
theorem call_strI {X : Cx} : CallR X (.type "str") rStrI := call_str_int
theorem q_strI (h : i.natAbs.log2 < 1920) (q : Q (.str (nT i)) H) : rStrI [.int i] H Q := ⟨i, rfl, h, q⟩
theorem q_fmtS (q : te σ H fun x H1 => (∃ y : Str, x = .str y ∧ y.length ≤ sizeLine ∧ Q (.str y) H1) ∨ ∃ i : Int, x = .int i ∧ i.natAbs.log2 < 1920 ∧ Q (.str (nT i)) H1) : tFmt te σ H Q := q
theorem q_orS {A : Str → Prop} {B : Int → Prop} (h : z.length ≤ 1000000) (q : A z) : (∃ y : Str, V.str z = .str y ∧ y.length ≤ sizeLine ∧ A y) ∨ ∃ i : Int, V.str z = .int i ∧ i.natAbs.log2 < 1920 ∧ B i := .inl ⟨z, rfl, size_of h, q⟩
theorem q_orI {A : Str → Prop} {B : Int → Prop} (h : i.natAbs.log2 < 1920) (q : B i) : (∃ y : Str, V.int i = .str y ∧ y.length ≤ sizeLine ∧ A y) ∨ ∃ j : Int, V.int i = .int j ∧ j.natAbs.log2 < 1920 ∧ B j := .inr ⟨i, rfl, h, q⟩
theorem q_jsNil (q : QS acc H) : tJs [] acc σ H QS := q
theorem q_jsCons (q : t σ H fun x H1 => ∃ y : Str, x = .str y ∧ (acc ++ y).length ≤ sizeLine ∧ tJs ts (acc ++ y) σ H1 QS) : tJs (t :: ts) acc σ H QS := q
theorem q_jsPart {P : Str → Prop} (h : (acc ++ z).length ≤ 1000000) (q : P z) : ∃ y : Str, V.str z = .str y ∧ (acc ++ y).length ≤ sizeLine ∧ P y := ⟨z, rfl, size_of h, q⟩
theorem q_tM1 {r : V → List V → Hp → VK → Prop} (q : to σ H fun x H1 => (∃ a, x = .str a) ∧ te σ H1 fun y H2 => r x [y] H2 Q) : tM1 r to te σ H Q := q
theorem q_isTxt {P : Prop} (q : P) : (∃ a, V.str z = .str a) ∧ P := ⟨⟨z, rfl⟩, q⟩
end
theorem take_snocL {α : Type} {cs : List α} {i : Nat} {c : α} (h : cs[i]? = some c) : cs.take (i + 1) = cs.take i ++ [c] := by
  rw [List.take_add_one, h]
  rfl
theorem emp_app (z : Str) : Str.empty ++ z = z := str_ext (by rw [tl_app]; rfl)
/-- rows, each with its line feed -/
def rowsS : List Ltr → Str
  | [] => ""
  | L :: r => rowS L ++ "\n" ++ rowsS r
theorem app_assoc (a b c : Str) : a ++ b ++ c = a ++ (b ++ c) := str_ext (by rw [tl_app, tl_app, tl_app, tl_app, List.append_assoc])
theorem app_emp (a : Str) : a ++ "" = a := str_ext (by
  rw [tl_app]
  have : ("" : Str).cps.toList = [] := by decide +kernel
  rw [this, List.append_nil])
theorem rowsS_snoc : ∀ (ls : List Ltr) (L : Ltr), rowsS (ls ++ [L]) = rowsS ls ++ rowS L ++ "\n"
  | [], L => by
    show rowS L ++ "\n" ++ "" = "" ++ rowS L ++ "\n"
    rw [app_emp]
    congr 1
    exact (emp_app _).symm
  | M :: r, L => by
    show rowS M ++ "\n" ++ rowsS (r ++ [L]) = rowS M ++ "\n" ++ rowsS r ++ rowS L ++ "\n"
    rw [rowsS_snoc r L]
    simp only [app_assoc]
theorem rowsS_join : ∀ (ls : List Ltr), Str.join "" (ls.map fun L => rowS L ++ "\n") = rowsS ls
  | [] => by
    show Str.empty = ""
    exact str_ext (by decide +kernel)
  | [L] => by
    show rowS L ++ "\n" = rowS L ++ "\n" ++ ""
    rw [app_emp]
  | L :: M :: r => by
    show rowS L ++ "\n" ++ "" ++ Str.join "" ((M :: r).map fun L => rowS L ++ "\n") = rowS L ++ "\n" ++ rowsS (M :: r)
    rw [rowsS_join (M :: r), app_emp]
theorem rowsS_len : ∀ {ls : List Ltr}, (∀ L ∈ ls, L.name.length ≤ 12 ∧ Good L) → (rowsS ls).length ≤ 89 * ls.length
  | [], _ => by
    have : (rowsS []).length = 0 := by decide +kernel
    omega
  | L :: r, h => by
    have h1 := rowsS_len (ls := r) fun M hM => h M (List.mem_cons_of_mem _ hM)
    have h2 := rowS_len (h L List.mem_cons_self).1 (h L List.mem_cons_self).2
    show (rowS L ++ "\n" ++ rowsS r).length ≤ _
    rw [PySem.strLen_append, PySem.strLen_append, l_nl, List.length_cons]
    omega
theorem rows_sum : ∀ {ls : List Ltr}, (∀ L ∈ ls, L.name.length ≤ 12 ∧ Good L) → ((ls.map fun L => rowS L ++ "\n").map (·.length)).sum ≤ 89 * ls.length
  | [], _ => by simp
  | L :: r, h => by
    have h1 := rows_sum (ls := r) fun M hM => h M (List.mem_cons_of_mem _ hM)
    have h2 := rowS_len (h L List.mem_cons_self).1 (h L List.mem_cons_self).2
    rw [List.map_cons, List.map_cons, List.sum_cons, PySem.strLen_append, l_nl, List.length_cons]
    omega
/-! ### letters drawn, cuts of lists -/
theorem lts_ofP {Pz : Ltr → Prop} {H : Hp} {l : List Nat} {ys : List V} (h : Paired (fun (_ : Nat) v => ∃ L, IsLt H v L ∧ Pz L) l ys) : ∃ ls, Lts H ys ls ∧ (∀ L ∈ ls, Pz L) ∧ ls.length = l.length := by
  induction h with
  | nil => exact ⟨[], .nil, fun _ h => (List.not_mem_nil h).elim, rfl⟩
  | cons h1 _ ih =>
    obtain ⟨L, a, b⟩ := h1
    obtain ⟨ls, c, d, e⟩ := ih
    refine ⟨L :: ls, .cons a c, fun M hM => ?_, by rw [List.length_cons, List.length_cons, e]⟩
    rcases List.mem_cons.mp hM with rfl | hM
    · exact b
    · exact d M hM
theorem cutV_map {α : Type} (g : α → V) (ns : List α) (lo hi : Option Int) : ∃ ms : List α, cutV (ns.map g) lo hi = ms.map g ∧ ms.length ≤ ns.length := by
  refine ⟨(ns.drop (HT.sIx ns.length 0 lo)).take (HT.sIx ns.length ns.length hi - HT.sIx ns.length 0 lo), ?_, ?_⟩
  · unfold cutV
    rw [List.length_map, ← List.map_drop, ← List.map_take]
  · rw [List.length_take, List.length_drop]
    omega
theorem q_slLst {K : PySem.W.Frag} {a : Addr} {xs : List V} {lo hi : Option Int} {H : Hp} {Q : VK} (h : SqL K H a xs) (q : ∀ p H', Same H H' → H p = none → H' p = some (.lst (cutV xs lo hi)) → Q (.ref p) H') : rSlL K (.ref a) lo hi H Q := ⟨a, xs, rfl, h, fun p hp => q p _ (same_upd hp) hp upd_same⟩
end Ts

local macro_rules | `(tactic| walk_at "ts hp") => `(tactic| first | assumption | (apply Ts.same_get; (focus assumption); walk_at "ts hp"))
local macro_rules | `(tactic| walk_at "ts sq") => `(tactic| first | assumption | ((with_reducible apply Ts.sqL_of); walk_at "ts hp") | ((with_reducible apply Ts.sqT_of); walk_at "ts hp") | ((with_reducible apply L2.Same.seq); (focus assumption); walk_at "ts sq") | ((with_reducible apply Ts.Same.sqT); (focus assumption); walk_at "ts sq"))
local macro_rules | `(tactic| walk_at "ts same") => `(tactic| first | assumption | exact L2.Same.refl _ | ((with_reducible apply Ts.same_step); (focus assumption); walk_at "ts same"))
local macro_rules | `(tactic| walk_at "ts call") => `(tactic| fail "no call")
local macro_rules | `(tactic| walk_at "ts 1") => `(tactic| first
  | with_reducible apply Ts.q_seq
  | with_reducible apply Ts.q_set
  | with_reducible apply Ts.q_asg
  | ((with_reducible apply Ts.q_lst2); (focus walk_at "ts sq"))
  | ((with_reducible apply Ts.q_tup2); (focus walk_at "ts sq"))
  | ((with_reducible apply Ts.q_tup5); (focus walk_at "ts sq"))
  | with_reducible apply Ts.q_name
  | with_reducible apply Ts.q_gSub
  | with_reducible apply Ts.q_ret
  | with_reducible apply Ts.q_ifS
  | with_reducible apply Ts.q_next
  | with_reducible apply Ts.q_drop
  | with_reducible apply Ts.q_retN
  | with_reducible apply Ts.q_op
  | with_reducible apply Ts.q_c
  | ((with_reducible apply Ts.q_var); (focus rfl))
  | with_reducible apply Ts.q_I0
  | ((with_reducible apply Ts.q_mod); (focus omega))
  | ((with_reducible apply Ts.q_mulR); (focus omega))
  | ((with_reducible apply Ts.q_mulL); (focus omega))
  | ((with_reducible apply Ts.q_fdiv); (focus omega))
  | with_reducible apply Ts.q_pow12
  | with_reducible apply Ts.q_pow24
  | with_reducible apply Ts.q_pow40
  | with_reducible apply Ts.q_un
  | with_reducible apply Ts.q_rU
  | with_reducible apply Ts.q_test
  | with_reducible apply Ts.q_tB
  | with_reducible apply Ts.q_bl
  | with_reducible apply Ts.q_eqI
  | with_reducible apply Ts.q_neI
  | with_reducible apply Ts.q_eqS
  | with_reducible apply Ts.q_neS
  | with_reducible apply Ts.q_eqB
  | with_reducible apply Ts.q_neB
  | with_reducible apply Ts.q_cons
  | with_reducible apply Ts.q_nil
  | with_reducible apply Ts.q_tup
  | with_reducible apply Ts.q_lst
  | with_reducible apply Ts.q_call
  | with_reducible apply Ts.q_callS
  | with_reducible apply Ts.q_callSD
  | with_reducible apply Ts.q_CB
  | with_reducible apply Ts.q_bm
  | with_reducible apply Ts.q_bm0
  | with_reducible apply Ts.q_and
  | with_reducible apply Ts.q_or
  | with_reducible apply Ts.q_not
  | with_reducible apply Ts.q_andV
  | with_reducible apply Ts.q_orV
  | with_reducible apply Ts.q_notV
  | with_reducible apply Ts.q_ifE
  | with_reducible apply Ts.q_iteT
  | with_reducible apply Ts.q_iteF
  | with_reducible apply Ts.q_iteNT
  | with_reducible apply Ts.q_iteNF
  | ((with_reducible apply Ts.iteD_yes); (focus decide +kernel))
  | ((with_reducible apply Ts.iteD_no); (focus decide +kernel))
  | ((with_reducible apply Ts.iteN_yes); (focus decide +kernel))
  | ((with_reducible apply Ts.iteN_no); (focus decide +kernel))
  | ((with_reducible apply Ts.iteN_len); (focus rfl))
  | ((with_reducible apply Ts.q_lenL); (focus walk_at "ts sq"))
  | ((with_reducible apply Ts.q_lenT); (focus walk_at "ts sq"))
  | ((with_reducible apply Ts.q_max2); intro z z0 z1 zo)
  | ((with_reducible apply Ts.q_min2); intro z z0 z1 zo)
  | with_reducible apply Ts.q_for
  | with_reducible apply Ts.q_iList
  | with_reducible apply Ts.q_iTup
  | with_reducible apply Ts.q_iStr
  | with_reducible apply Ts.q_iRng1
  | with_reducible apply Ts.q_lc
  | with_reducible apply Ts.q_dget
  | with_reducible apply Ts.q_dget2
  | with_reducible apply Ts.q_dput
  | ((with_reducible apply Ts.q_dnew); intro d H2 hd sm ed)
  | ((with_reducible apply Ts.q_isD); (focus walk_at "ts hp"))
  | ((with_reducible apply Ts.q_tyL); (focus walk_at "ts hp"))
  | with_reducible apply Ts.q_yes
  | with_reducible apply Ts.q_sl
  | with_reducible apply Ts.q_noPart
  | with_reducible apply Ts.q_part
  | with_reducible apply Ts.q_partI
  | with_reducible apply Ts.q_intI
  | ((with_reducible apply Ts.q_intB); intro z z0 z1 zt zf)
  | ((with_reducible apply Ts.q_sort2); (focus walk_at "ts sq"); intro u v p H2 huv hor sm eo)
  | with_reducible apply Ts.q_isNN
  | with_reducible apply Ts.q_isNI
  | with_reducible apply Ts.q_isNR
  | with_reducible apply Ts.q_notNN
  | with_reducible apply Ts.q_notNI
  | with_reducible apply Ts.q_notNR
  | with_reducible apply Ts.q_isi_int_int
  | with_reducible apply Ts.q_isi_int_bool
  | with_reducible apply Ts.q_isi_str_str
  | ((with_reducible apply Ts.q_isi_tup_tup); (focus walk_at "ts hp"))
  | ((with_reducible apply Ts.q_isi_lst_lst); (focus walk_at "ts hp"))
  | walk_at "ts call"
  | walk_at "ts newo"
  | ((with_reducible apply Ts.q_ixL); (focus walk_at "ts sq"); (focus walk_at "ts at"))
  | ((with_reducible apply Ts.q_ixT); (focus walk_at "ts sq"); (focus walk_at "ts at")))
local macro_rules | `(tactic| walk_at "ts") => `(tactic| repeat walk_at "ts 1")
local macro_rules | `(tactic| walk_at "ts newo") => `(tactic| ((with_reducible refine And.intro (Ts.size_of ?hs) ?_); (case hs => exact Nat.le_of_ble_eq_true rfl); intro p hp; (generalize hG : L2.upd _ p _ = H2); have sm := hG ▸ Ts.same_upd hp; have eo := hG ▸ L2.upd_same; clear hG))
local macro_rules | `(tactic| walk_at "ts at") => `(tactic| first | exact Ts.at0 rfl | exact Ts.at1 rfl | exact Ts.at2 rfl | exact Ts.at3 rfl | exact Ts.at4 rfl)
local macro_rules | `(tactic| walk_at "ts allin") => `(tactic| (unfold Ts.AllIn; refine ⟨by omega, by omega, ?_⟩; first | walk_at "ts allin" | (unfold Ts.AllIn; trivial)))
local macro_rules | `(tactic| walk_at "ts if") => `(tactic| first | with_reducible refine Ts.q_iteD (fun h => ?_) (fun h => ?_) | with_reducible refine Ts.q_iteN (fun h => ?_) (fun h => ?_))
local macro_rules | `(tactic| walk_at "ts kill") => `(tactic| try (exfalso; omega; done))
local macro_rules | `(tactic| walk_at "ts all") => `(tactic| repeat' (first | walk_at "ts 1" | (walk_at "ts if" <;> walk_at "ts kill")))
local macro_rules | `(tactic| walk_at "ts ck") => `(tactic| first | assumption | (apply Ts.cks_step; (focus assumption); walk_at "ts ck") | (apply Ts.lts_step; (focus assumption); walk_at "ts ck") | (apply Ts.prs_step; (focus assumption); walk_at "ts ck"))
local macro_rules | `(tactic| walk_at "ts toif") => `(tactic| repeat ((fail_if_success (with_reducible apply Ts.q_ifS)); walk_at "ts 1"))



namespace Law
open PySem PySem.Spec PyProof.Rows L2 Ts
def topS (i : Nat) : Stmt := PySem.Challenge.pw_timestretch_k11_written.main.body.getD i (.Pass ⟨0, 0, 0, 0⟩)
abbrev s_written : Stmt := topS 1
abbrev s_l_cell_at : Stmt := topS 3
abbrev s_l_mix : Stmt := topS 4
abbrev s_l_big : Stmt := topS 5
abbrev s_l_word : Stmt := topS 6
abbrev s_l_names : Stmt := topS 7
abbrev s_l_letter : Stmt := topS 8
abbrev s_law : Stmt := topS 9
abbrev N_written : List Str := ["letters", "rows", "name", "sent", "back", "low", "high", "row"]
theorem sc_written : FnScope N_written ["letters"] (defScope s_written) := ⟨rfl, rfl, rfl, by decide +kernel, rfl, by decide +kernel, by decide +kernel⟩
abbrev N_l_cell_at : List Str := ["_law_script", "_law_k"]
theorem sc_l_cell_at : FnScope N_l_cell_at ["_law_script", "_law_k"] (defScope s_l_cell_at) := ⟨rfl, rfl, rfl, by decide +kernel, rfl, by decide +kernel, by decide +kernel⟩
abbrev N_l_mix : List Str := ["_law_cell", "_law_k", "_law_number"]
theorem sc_l_mix : FnScope N_l_mix ["_law_cell", "_law_k"] (defScope s_l_mix) := ⟨rfl, rfl, rfl, by decide +kernel, rfl, by decide +kernel, by decide +kernel⟩
abbrev N_l_big : List Str := ["_law_cell", "_law_k", "_law_number"]
theorem sc_l_big : FnScope N_l_big ["_law_cell", "_law_k"] (defScope s_l_big) := ⟨rfl, rfl, rfl, by decide +kernel, rfl, by decide +kernel, by decide +kernel⟩
abbrev N_l_word : List Str := ["_law_cell", "_law_size", "_law_word_here", "_law_k"]
theorem sc_l_word : FnScope N_l_word ["_law_cell", "_law_size"] (defScope s_l_word) := ⟨rfl, rfl, rfl, by decide +kernel, rfl, by decide +kernel, by decide +kernel⟩
abbrev N_l_names : List Str := ["_law_cell", "_law_base", "_law_at", "_law_signs", "_law_k"]
theorem sc_l_names : FnScope N_l_names ["_law_cell"] (defScope s_l_names) := ⟨rfl, rfl, rfl, by decide +kernel, rfl, by decide +kernel, by decide +kernel⟩
abbrev N_l_letter : List Str := ["_law_cell", "_law_names_here", "_law_many", "_law_place", "_law_sent", "_law_back", "_law_near", "_law_low", "_law_high"]
theorem sc_l_letter : FnScope N_l_letter ["_law_cell", "_law_names_here", "_law_many"] (defScope s_l_letter) := ⟨rfl, rfl, rfl, by decide +kernel, rfl, by decide +kernel, by decide +kernel⟩
abbrev N_law : List Str := ["_law_script", "_law_names_here", "_law_letters", "_law_due", "_law_name", "_law_sent", "_law_back", "_law_low", "_law_high", "_law_handed", "_law_found", "_law_cell", "_law_k"]
theorem sc_law : FnScope N_law ["_law_script"] (defScope s_law) := ⟨rfl, rfl, rfl, by decide +kernel, rfl, by decide +kernel, by decide +kernel⟩
structure Lw (K : PySem.W.Frag) (mg : Str → Option Value) where
  f_written : Addr
  fd_written : FuncData
  d_written : Def K "written" "written" s_written ["letters"] f_written fd_written
  m_written : mg "written" = some (.ref f_written)
  f_l_cell_at : Addr
  fd_l_cell_at : FuncData
  d_l_cell_at : Def K "_law_cell_at" "_law_cell_at" s_l_cell_at ["_law_script", "_law_k"] f_l_cell_at fd_l_cell_at
  m_l_cell_at : mg "_law_cell_at" = some (.ref f_l_cell_at)
  f_l_mix : Addr
  fd_l_mix : FuncData
  d_l_mix : Def K "_law_mix" "_law_mix" s_l_mix ["_law_cell", "_law_k"] f_l_mix fd_l_mix
  m_l_mix : mg "_law_mix" = some (.ref f_l_mix)
  f_l_big : Addr
  fd_l_big : FuncData
  d_l_big : Def K "_law_big" "_law_big" s_l_big ["_law_cell", "_law_k"] f_l_big fd_l_big
  m_l_big : mg "_law_big" = some (.ref f_l_big)
  f_l_word : Addr
  fd_l_word : FuncData
  d_l_word : Def K "_law_word" "_law_word" s_l_word ["_law_cell", "_law_size"] f_l_word fd_l_word
  m_l_word : mg "_law_word" = some (.ref f_l_word)
  f_l_names : Addr
  fd_l_names : FuncData
  d_l_names : Def K "_law_names" "_law_names" s_l_names ["_law_cell"] f_l_names fd_l_names
  m_l_names : mg "_law_names" = some (.ref f_l_names)
  f_l_letter : Addr
  fd_l_letter : FuncData
  d_l_letter : Def K "_law_letter" "_law_letter" s_l_letter ["_law_cell", "_law_names_here", "_law_many"] f_l_letter fd_l_letter
  m_l_letter : mg "_law_letter" = some (.ref f_l_letter)
  f_law : Addr
  fd_law : FuncData
  d_law : Def K "law" "law" s_law ["_law_script"] f_law fd_law
  m_law : mg "law" = some (.ref f_law)
  n_range : mg "range" = none
  n_sorted : mg "sorted" = none
  n_list : mg "list" = none
  n_len : mg "len" = none
  n_isinstance : mg "isinstance" = none
  n_str : mg "str" = none

end Law


namespace Law
open PySem PySem.Spec PyProof.Rows L2 Ts
variable {P : Program} {w : World} {K : PySem.W.Frag} {mg : Str → Option Value} {base : Heap}

/-! ### a cell of the script -/
def cellAt (ns : List Int) (k : Int) : Int := if k < ns.length then ns.getD k.toNat 0 else 0
def sp_l_cell_at (K : PySem.W.Frag) : Sp := fun vs H Q _ => ∃ (a : Addr) (ns : List Int) (k : Int), vs = [.ref a, .int k] ∧ SqL K H a (ns.map V.int) ∧ 0 ≤ k ∧ Q (.int (cellAt ns k)) H
theorem c_l_cell_at {a : Addr} {ns : List Int} {k : Int} {H : Hp} {Q : VK} {E : XK} (h : SqL K H a (ns.map V.int)) (h0 : 0 ≤ k) (q : ∀ z, z = cellAt ns k → Q (.int z) H) : sp_l_cell_at K ([.ref a, .int k] ++ []) H Q E := ⟨a, ns, k, rfl, h, h0, q _ rfl⟩
theorem ok_l_cell_at (T : Lw K mg) : FnOk P w K mg base CX0 1 T.f_l_cell_at T.fd_l_cell_at ["_law_script", "_law_k"] (sp_l_cell_at K) := by
  refine T.d_l_cell_at.F.ok sc_l_cell_at (fun vs H Q E h => ?_) (fun cdv A outer s H vs Q E hr h => ?_)
  · obtain ⟨a, ns, k, rfl, _⟩ := h
    rfl
  · obtain ⟨a, ns, k, rfl, hs, h0, q⟩ := h
    refine ⟨_, (pss_cons (ps_if (pt_cmpR op_lt (pv 1) (pe_callB (Ts.call_lenK K) (by rfl) T.n_len (by decide +kernel) (pa_cons (pv 0) pa_nil)) (nomark _)) (pss_one (ps_ret (pe_ix (Ts.ix_listK K) (pv 0) (pv 1) (fun _ _ => rfl)))) pss_nil) (pss_one (ps_ret pe_int))), ?_⟩
    walk_at "ts"
    refine Ts.q_iteD (fun hk => ?_) (fun hk => ?_)
    · rw [List.length_map] at hk
      walk_at "ts"
      obtain ⟨j, rfl⟩ : ∃ j : Nat, k = (j : Int) := ⟨k.toNat, by omega⟩
      have hj : j < ns.length := by omega
      refine Ts.q_ixL hs (v := .int ns[j]) (atI_nat (by rw [List.getElem?_map, List.getElem?_eq_getElem hj]; rfl)) ?_
      have e : cellAt ns (j : Int) = ns[j] := by
        unfold cellAt
        rw [if_pos hk]
        simp [hj]
      rw [e] at q
      exact q
    · rw [List.length_map] at hk
      walk_at "ts"
      have e : cellAt ns k = 0 := by
        unfold cellAt
        rw [if_neg hk]
      rw [e] at q
      exact q
local macro_rules | `(tactic| walk_at "ts call") => `(tactic| ((with_reducible apply c_l_cell_at); (focus walk_at "ts sq"); (focus omega); intro z ez))

/-! ### a drawn number -/
def mixv (c k : Int) : Int := (c + 7919 * k + 1) * 48271 % 1000003 * ((c + 7919 * k + 1) * 48271 % 1000003) % 999983
def sp_l_mix : Sp := fun vs H Q _ => ∃ (c k : Int), vs = [.int c, .int k] ∧ Q (.int (mixv c k)) H
theorem c_l_mix {c k : Int} {H : Hp} {Q : VK} {E : XK} (q : ∀ z, z = mixv c k → 0 ≤ z → z < 999983 → Q (.int z) H) : sp_l_mix ([.int c, .int k] ++ []) H Q E :=
  ⟨c, k, rfl, q _ rfl (Int.emod_nonneg _ (by decide)) (Int.emod_lt_of_pos _ (by decide))⟩
theorem ok_l_mix (T : Lw K mg) : FnOk P w K mg base CX0 1 T.f_l_mix T.fd_l_mix ["_law_cell", "_law_k"] sp_l_mix := by
  refine T.d_l_mix.F.ok sc_l_mix (fun vs H Q E h => ?_) (fun cdv A outer s H vs Q E hr h => ?_)
  · obtain ⟨c, k, rfl, _⟩ := h
    rfl
  · obtain ⟨c, k, rfl, q⟩ := h
    refine ⟨_, (pss_cons (ps_asg (pe_op op_mod (pe_op op_mul (pe_op op_add (pe_op op_add (pv 0) (pe_op op_mul pe_int (pv 1))) pe_int) pe_int) pe_int) (pg_name (i := 2) sc_l_mix.nd rfl (by first | exact Or.inl rfl | exact Or.inr rfl))) (pss_one (ps_ret (pe_op op_mod (pe_op op_mul (pv 2) (pv 2)) pe_int)))), ?_⟩
    walk_at "ts"
    exact q
local macro_rules | `(tactic| walk_at "ts call") => `(tactic| ((with_reducible apply c_l_mix); intro z ez z0 z1))

/-! ### a drawn number to 10 ** 12 -/
def sp_l_big : Sp := fun vs H Q _ => ∃ (c k : Int), vs = [.int c, .int k] ∧ ∀ (z : Int) (H' : Hp), 0 ≤ z → z ≤ 1000000000000 → Same H H' → Q (.int z) H'
theorem c_l_big {c k : Int} {H : Hp} {Q : VK} {E : XK} (q : ∀ (z : Int) (H' : Hp), 0 ≤ z → z ≤ 1000000000000 → Same H H' → Q (.int z) H') : sp_l_big ([.int c, .int k] ++ []) H Q E := ⟨c, k, rfl, q⟩
theorem ok_l_big (T : Lw K mg) : FnOk P w K mg base CX0 2 T.f_l_big T.fd_l_big ["_law_cell", "_law_k"] sp_l_big := by
  refine T.d_l_big.F.ok sc_l_big (fun vs H Q E h => ?_) (fun cdv A outer s H vs Q E hr h => ?_)
  · obtain ⟨c, k, rfl, _⟩ := h
    rfl
  · obtain ⟨c, k, rfl, q⟩ := h
    refine ⟨_, (pss_cons (ps_asg (pe_call ((ok_l_mix T).mono (by decide)) hr rfl T.m_l_mix T.d_l_mix.F.kp T.d_l_mix.b .nil pass0 (pa_cons (pv 0) (pa_cons (pv 1) pa_nil))) (pg_name (i := 2) sc_l_big.nd rfl (by first | exact Or.inl rfl | exact Or.inr rfl))) (pss_cons (ps_if (pt_cmpR op_eq (pe_op op_mod (pe_call ((ok_l_mix T).mono (by decide)) hr rfl T.m_l_mix T.d_l_mix.F.kp T.d_l_mix.b .nil pass0 (pa_cons (pv 0) (pa_cons (pe_op op_add (pv 1) pe_int) pa_nil))) pe_int) pe_int (nomark _)) (pss_one (ps_ret (pe_op op_mod (pv 2) pe_int))) pss_nil) (pss_cons (ps_if (pt_cmpR op_eq (pe_op op_mod (pe_call ((ok_l_mix T).mono (by decide)) hr rfl T.m_l_mix T.d_l_mix.F.kp T.d_l_mix.b .nil pass0 (pa_cons (pv 0) (pa_cons (pe_op op_add (pv 1) pe_int) pa_nil))) pe_int) pe_int (nomark _)) (pss_one (ps_ret (pe_op op_mod (pv 2) pe_int))) pss_nil) (pss_cons (ps_if (pt_cmpR op_eq (pe_op op_mod (pe_call ((ok_l_mix T).mono (by decide)) hr rfl T.m_l_mix T.d_l_mix.F.kp T.d_l_mix.b .nil pass0 (pa_cons (pv 0) (pa_cons (pe_op op_add (pv 1) pe_int) pa_nil))) pe_int) pe_int (nomark _)) (pss_one (ps_ret (pe_ix (Ts.ix_listK K) (pe_lst (pa_cons pe_int (pa_cons pe_int (pa_cons (pe_op op_pow pe_int pe_int) (pa_cons (pe_op op_sub (pe_op op_pow pe_int pe_int) pe_int) pa_nil))))) (pe_op op_mod (pv 2) pe_int) (fun _ _ => rfl)))) pss_nil) (pss_one (ps_ret (pe_op op_mod (pe_op op_add (pe_op op_mul (pv 2) pe_int) (pe_call ((ok_l_mix T).mono (by decide)) hr rfl T.m_l_mix T.d_l_mix.F.kp T.d_l_mix.b .nil pass0 (pa_cons (pv 0) (pa_cons (pe_op op_add (pv 1) pe_int) pa_nil)))) (pe_op op_add (pe_op op_pow pe_int pe_int) pe_int)))))))), ?_⟩
    walk_at "ts"
    refine Ts.q_iteD (fun h1 => ?_) (fun h1 => ?_)
    · walk_at "ts"
      exact q _ _ (by omega) (by omega) (by walk_at "ts same")
    walk_at "ts"
    refine Ts.q_iteD (fun h1 => ?_) (fun h1 => ?_)
    · walk_at "ts"
      exact q _ _ (by omega) (by omega) (by walk_at "ts same")
    walk_at "ts"
    refine Ts.q_iteD (fun h1 => ?_) (fun h1 => ?_)
    · walk_at "ts"
      refine Ts.q_ixAny (by walk_at "ts sq") (by omega) (by simp; omega) fun v hv => ?_
      simp at hv
      rcases hv with rfl | rfl | rfl | rfl
      all_goals exact q _ _ (by omega) (by omega) (by walk_at "ts same")
    · walk_at "ts"
      exact q _ _ (by omega) (by omega) (by walk_at "ts same")
local macro_rules | `(tactic| walk_at "ts call") => `(tactic| ((with_reducible apply c_l_big); intro z H2 z0 z1 sz))

/-! ### a drawn word -/
def sp_l_word : Sp := fun vs H Q _ => ∃ (c n : Int), vs = [.int c, .int n] ∧ 0 ≤ n ∧ n ≤ 1000 ∧ ∀ z : Str, (z.length : Int) = n → Low z → Q (.str z) H
theorem c_l_word {c n : Int} {H : Hp} {Q : VK} {E : XK} (h0 : 0 ≤ n) (h1 : n ≤ 1000) (q : ∀ z : Str, (z.length : Int) = n → Low z → Q (.str z) H) : sp_l_word ([.int c, .int n] ++ []) H Q E := ⟨c, n, rfl, h0, h1, q⟩
theorem ok_l_word (T : Lw K mg) : FnOk P w K mg base CX0 2 T.f_l_word T.fd_l_word ["_law_cell", "_law_size"] sp_l_word := by
  refine T.d_l_word.F.ok sc_l_word (fun vs H Q E h => ?_) (fun cdv A outer s H vs Q E hr h => ?_)
  · obtain ⟨c, n, rfl, _⟩ := h
    rfl
  · obtain ⟨c, n, rfl, h0, h1, q⟩ := h
    refine ⟨_, (pss_cons (ps_asg pe_str (pg_name (i := 2) sc_l_word.nd rfl (by first | exact Or.inl rfl | exact Or.inr rfl))) (pss_cons (ps_for PassesOwn.never rfl (pi_range1 (by rfl) T.n_range (pa_cons (pv 1) pa_nil)) (pg_name (i := 3) sc_l_word.nd rfl (by first | exact Or.inl rfl | exact Or.inr rfl)) (pss_one (ps_asg (pe_op Ts.op_addS (pv 2) (pe_ix ix_str pe_str (pe_op op_mod (pe_call ((ok_l_mix T).mono (by decide)) hr rfl T.m_l_mix T.d_l_mix.F.kp T.d_l_mix.b .nil pass0 (pa_cons (pv 0) (pa_cons (pe_op op_add (pv 3) pe_int) pa_nil))) pe_int) (fun _ _ => rfl))) (pg_name (i := 2) sc_l_word.nd rfl (by first | exact Or.inl rfl | exact Or.inr rfl))))) (pss_one (ps_ret (pv 2))))), ?_⟩
    walk_at "ts"
    refine Ts.q_forR h0 (by omega) (fun i σ' H' => H' = H ∧ ∃ (z : Str) (v : Option V), σ' = [some (.int c), some (.int n), some (.str z), v] ∧ z.length = i ∧ Low z) ⟨rfl, _, none, rfl, by decide +kernel, low_empty⟩ ?_ ?_
    · rintro i σ' H' hi ⟨rfl, z, v, rfl, hz, lz⟩
      walk_at "ts"
      refine Ts.q_ixAbc (by omega) (by omega) fun ch hch => ?_
      have l1 : (⟨#[ch]⟩ : Str).length = 1 := rfl
      refine Ts.q_addS (by omega) ?_
      refine ⟨rfl, _, _, rfl, ?_, lz.app (low_one (by omega) (by omega))⟩
      rw [PySem.strLen_append, l1, hz]
    · rintro σ' H' ⟨rfl, z, v, rfl, hz, lz⟩
      walk_at "ts"
      exact q z (by omega) lz
local macro_rules | `(tactic| walk_at "ts call") => `(tactic| ((with_reducible apply c_l_word); (focus omega); (focus omega); intro z hz lz))

/-! ### forty-two names -/
/-- the i-th name about a word and a place -/
def nameAt (b : Str) (k i : Nat) : Str := cutS b none (some (k : Int)) ++ ⟨#[97 + i % 26]⟩ ++ (if i < 26 then "" else "z") ++ cutS b (some (k : Int)) none
def nmList (b : Str) (k : Nat) : List Str := (List.range 42).map (nameAt b k)
theorem nameAt_low {b : Str} {k i : Nat} (h : Low b) : Low (nameAt b k i) := by
  unfold nameAt
  refine (((low_cut h).1.app (low_one (by omega) (by omega))).app ?_).app (low_cut h).2
  split
  · exact low_empty
  · exact low_z
theorem nameAt_tl (b : Str) (k i : Nat) : (nameAt b k i).cps.toList = b.cps.toList.take k ++ [97 + i % 26] ++ (if i < 26 then [] else [122]) ++ b.cps.toList.drop k := by
  unfold nameAt
  rw [tl_app, tl_app, tl_app, cut_hd, cut_tl]
  congr 2
  split
  · decide +kernel
  · decide +kernel
theorem nameAt_len (b : Str) (k i : Nat) : (nameAt b k i).length = b.length + (if i < 26 then 1 else 2) := by
  rw [tl_len, nameAt_tl, tl_len]
  have e := List.take_append_drop k b.cps.toList
  have e2 : (b.cps.toList.take k).length + (b.cps.toList.drop k).length = b.cps.toList.length := by rw [← List.length_append, e]
  simp only [List.length_append, List.length_cons, List.length_nil]
  split
  · simp only [List.length_nil]; omega
  · simp only [List.length_cons, List.length_nil]; omega
def sp_l_names : Sp := fun vs H Q _ => ∃ (c : Int), vs = [.int c] ∧ ∀ (b : Str) (k : Nat) (p : Addr) (H' : Hp), Low b → b.length ≤ 10 → Same H H' → H' p = some (.lst ((nmList b k).map V.str)) → Q (.ref p) H'
theorem c_l_names {c : Int} {H : Hp} {Q : VK} {E : XK} (q : ∀ (b : Str) (k : Nat) (p : Addr) (H' : Hp), Low b → b.length ≤ 10 → Same H H' → H' p = some (.lst ((nmList b k).map V.str)) → Q (.ref p) H') : sp_l_names ([.int c] ++ []) H Q E := ⟨c, rfl, q⟩
theorem ok_l_names (T : Lw K mg) : FnOk P w K mg base CX0 3 T.f_l_names T.fd_l_names ["_law_cell"] sp_l_names := by
  refine T.d_l_names.F.ok sc_l_names (fun vs H Q E h => ?_) (fun cdv A outer s H vs Q E hr h => ?_)
  · obtain ⟨c, rfl, _⟩ := h
    rfl
  · obtain ⟨c, rfl, q⟩ := h
    refine ⟨_, (pss_cons (ps_asg (pe_call ((ok_l_word T).mono (by decide)) hr rfl T.m_l_word T.d_l_word.F.kp T.d_l_word.b .nil pass0 (pa_cons (pv 0) (pa_cons (pe_op op_mod (pv 0) pe_int) pa_nil))) (pg_name (i := 1) sc_l_names.nd rfl (by first | exact Or.inl rfl | exact Or.inr rfl))) (pss_cons (ps_asg (pe_op op_mod (pe_call ((ok_l_mix T).mono (by decide)) hr rfl T.m_l_mix T.d_l_mix.F.kp T.d_l_mix.b .nil pass0 (pa_cons (pv 0) (pa_cons pe_int pa_nil))) pe_int) (pg_name (i := 2) sc_l_names.nd rfl (by first | exact Or.inl rfl | exact Or.inr rfl))) (pss_cons (ps_asg pe_str (pg_name (i := 3) sc_l_names.nd rfl (by first | exact Or.inl rfl | exact Or.inr rfl))) (pss_one (ps_ret (pe_lc (own := [("_law_k", 4)]) rfl sc_l_names.nd (pi_range1 (by rfl) T.n_range (pa_cons pe_int pa_nil)) (blkOk_by (own := [("_law_k", 4)]) (N := N_l_names) (sc := defScope s_l_names) (by decide +kernel)) (fun _ _ _ _ _ => pg_name (i := 4) sc_l_names.nd rfl (Or.inl rfl)) (fun _ _ _ _ _ => pts_nil) (fun _ _ _ _ _ => (pe_op Ts.op_addS (pe_op Ts.op_addS (pe_op Ts.op_addS (pe_slice (sl_str) (pv 1) po_none (po_some (pv 2))) (pe_ix ix_str (pv 3) (pe_op op_mod (pv 4) pe_int) (fun _ _ => rfl))) (pe_ix (Ts.ix_listK K) (pe_lst (pa_cons pe_str (pa_cons pe_str pa_nil))) (pe_op op_fdiv (pv 4) pe_int) (fun _ _ => rfl))) (pe_slice (sl_str) (pv 1) (po_some (pv 2)) po_none))))))))), ?_⟩
    walk_at "ts"
    rename_i b hb lb y ey y0 y1
    obtain ⟨k, hk⟩ : ∃ k : Nat, y % 11 = (k : Int) := ⟨(y % 11).toNat, by omega⟩
    rw [hk]
    refine Ts.q_lcR (by omega) (by omega) (fun _ => true) (fun i _ v => v = .str (nameAt b k i)) (fun _ _ _ _ _ h => h) ?_ ?_
    · intro i H' QB QV hi s1 _ qv
      walk_at "ts"
      refine ⟨rfl, ?_⟩
      walk_at "ts"
      refine Ts.q_slS (by omega) ?_
      walk_at "ts"
      refine Ts.q_ixAbc (by omega) (by omega) fun ch hch => ?_
      have l1 : (⟨#[ch]⟩ : Str).length = 1 := rfl
      have l2 := cutS_length b none (some (k : Int))
      have l3 := cutS_length b (some (k : Int)) none
      refine Ts.q_addS (by omega) ?_
      walk_at "ts"
      have ei : (i : Int) / 26 = ((i / 26 : Nat) : Int) := by omega
      have l4 := PySem.strLen_append (cutS b none (some (k : Int))) ⟨#[ch]⟩
      have l5 : ("z" : Str).length = 1 := by decide +kernel
      have l6 : ("" : Str).length = 0 := by decide +kernel
      have hch' : ch = 97 + i % 26 := by omega
      subst hch'
      by_cases hlt : i < 26
      · have e0 : i / 26 = 0 := by omega
        refine Ts.q_ixL (v := .str "") (by walk_at "ts sq") (by rw [ei, e0]; exact Ts.at0 rfl) ?_
        refine Ts.q_addS (by omega) ?_
        walk_at "ts"
        refine Ts.q_slS (by omega) ?_
        refine Ts.q_addS (by rw [PySem.strLen_append]; omega) ?_
        refine qv _ _ rfl (by walk_at "ts same") ?_
        unfold nameAt
        rw [if_pos hlt]
      · have e0 : i / 26 = 1 := by omega
        refine Ts.q_ixL (v := .str "z") (by walk_at "ts sq") (by rw [ei, e0]; exact Ts.at1 rfl) ?_
        refine Ts.q_addS (by omega) ?_
        walk_at "ts"
        refine Ts.q_slS (by omega) ?_
        refine Ts.q_addS (by rw [PySem.strLen_append]; omega) ?_
        refine qv _ _ rfl (by walk_at "ts same") ?_
        unfold nameAt
        rw [if_neg hlt]
    · intro ys D H' s1 hD hys pr
      rw [filt_all] at pr
      have e := paired_eq pr
      refine q b k D H' lb (by omega) s1 ?_
      rw [hys, e]
      unfold nmList
      rw [List.map_map]
      rfl
local macro_rules | `(tactic| walk_at "ts call") => `(tactic| ((with_reducible apply c_l_names); intro b k p H2 lb lb2 s2 hp))

end Law


namespace Law
open PySem PySem.Spec PyProof.Rows L2 Ts
variable {P : Program} {w : World} {K : PySem.W.Frag} {mg : Str → Option Value} {base : Heap}
local macro_rules | `(tactic| walk_at "ts call") => `(tactic| ((with_reducible apply c_l_cell_at); (focus walk_at "ts sq"); (focus omega); intro z ez))
local macro_rules | `(tactic| walk_at "ts call") => `(tactic| ((with_reducible apply c_l_mix); intro z ez z0 z1))
local macro_rules | `(tactic| walk_at "ts call") => `(tactic| ((with_reducible apply c_l_big); intro z H2 z0 z1 sz))
local macro_rules | `(tactic| walk_at "ts call") => `(tactic| ((with_reducible apply c_l_word); (focus omega); (focus omega); intro z hz lz))
local macro_rules | `(tactic| walk_at "ts call") => `(tactic| ((with_reducible apply c_l_names); intro b k p H2 lb lb2 s2 hp))

/-! ### a drawn letter, all that it keeps -/
def sp_l_letter (K : PySem.W.Frag) : Sp := fun vs H Q _ => ∃ (c : Int) (a : Addr) (nm : List Str) (m : Int), vs = [.int c, .ref a, .int m] ∧ SqL K H a (nm.map V.str) ∧ m ≤ nm.length ∧ (∀ z ∈ nm, IsName z) ∧ 1 ≤ m ∧ ∀ L b H', Same H H' → LtAt H' b L → L.name ∈ nm → Good L → Q (.ref b) H'
theorem c_l_letter {c : Int} {a : Addr} {nm : List Str} {m : Int} {H : Hp} {Q : VK} {E : XK} (h : SqL K H a (nm.map V.str)) (h1 : m ≤ nm.length) (h2 : ∀ z ∈ nm, IsName z) (h3 : 1 ≤ m) (q : ∀ L b H', Same H H' → LtAt H' b L → L.name ∈ nm → Good L → Q (.ref b) H') : sp_l_letter K ([.int c, .ref a, .int m] ++ []) H Q E := ⟨c, a, nm, m, rfl, h, h1, h2, h3, q⟩
theorem ok_l_letter (T : Lw K mg) : FnOk P w K mg base CX0 3 T.f_l_letter T.fd_l_letter ["_law_cell", "_law_names_here", "_law_many"] (sp_l_letter K) := by
  refine T.d_l_letter.F.ok sc_l_letter (fun vs H Q E h => ?_) (fun cdv A outer s H vs Q E hr h => ?_)
  · obtain ⟨c, a, nm, m, rfl, _⟩ := h
    rfl
  · obtain ⟨c, a, nm, m, rfl, hs, h1, h2, h3, q⟩ := h
    refine ⟨_, (pss_cons (ps_asg (pe_op op_mod (pe_call ((ok_l_mix T).mono (by decide)) hr rfl T.m_l_mix T.d_l_mix.F.kp T.d_l_mix.b .nil pass0 (pa_cons (pv 0) (pa_cons pe_int pa_nil))) (pv 2)) (pg_name (i := 3) sc_l_letter.nd rfl (by first | exact Or.inl rfl | exact Or.inr rfl))) (pss_cons (ps_asg (pe_op op_mod (pe_call ((ok_l_mix T).mono (by decide)) hr rfl T.m_l_mix T.d_l_mix.F.kp T.d_l_mix.b .nil pass0 (pa_cons (pv 0) (pa_cons pe_int pa_nil))) pe_int) (pg_name (i := 4) sc_l_letter.nd rfl (by first | exact Or.inl rfl | exact Or.inr rfl))) (pss_cons (ps_asg (pe_op op_add (pv 4) (pe_op op_mod (pe_call ((ok_l_mix T).mono (by decide)) hr rfl T.m_l_mix T.d_l_mix.F.kp T.d_l_mix.b .nil pass0 (pa_cons (pv 0) (pa_cons pe_int pa_nil))) (pe_ix (Ts.ix_listK K) (pe_lst (pa_cons pe_int (pa_cons pe_int (pa_cons pe_int pa_nil)))) (pe_op op_mod (pe_call ((ok_l_mix T).mono (by decide)) hr rfl T.m_l_mix T.d_l_mix.F.kp T.d_l_mix.b .nil pass0 (pa_cons (pv 0) (pa_cons pe_int pa_nil))) pe_int) (fun _ _ => rfl)))) (pg_name (i := 5) sc_l_letter.nd rfl (by first | exact Or.inl rfl | exact Or.inr rfl))) (pss_cons (ps_asg (pe_op op_add (pe_op op_add pe_int (pv 4)) (pe_ix (Ts.ix_listK K) (pe_lst (pa_cons pe_int (pa_cons pe_int (pa_cons pe_int (pa_cons pe_int (pa_cons pe_int (pa_cons pe_int (pa_cons pe_int pa_nil)))))))) (pe_op op_mod (pv 3) pe_int) (fun _ _ => rfl))) (pg_name (i := 6) sc_l_letter.nd rfl (by first | exact Or.inl rfl | exact Or.inr rfl))) (pss_cons (ps_asg (pe_op op_sub (pe_op op_add (pv 6) (pe_op op_mod (pe_call ((ok_l_mix T).mono (by decide)) hr rfl T.m_l_mix T.d_l_mix.F.kp T.d_l_mix.b .nil pass0 (pa_cons (pv 0) (pa_cons pe_int pa_nil))) pe_int)) pe_int) (pg_name (i := 7) sc_l_letter.nd rfl (by first | exact Or.inl rfl | exact Or.inr rfl))) (pss_cons (ps_asg (pe_op op_add (pv 6) (pe_op op_mod (pe_call ((ok_l_mix T).mono (by decide)) hr rfl T.m_l_mix T.d_l_mix.F.kp T.d_l_mix.b .nil pass0 (pa_cons (pv 0) (pa_cons pe_int pa_nil))) pe_int)) (pg_name (i := 8) sc_l_letter.nd rfl (by first | exact Or.inl rfl | exact Or.inr rfl))) (pss_cons (ps_if (pt_cmpR op_eq (pe_op op_mod (pe_call ((ok_l_mix T).mono (by decide)) hr rfl T.m_l_mix T.d_l_mix.F.kp T.d_l_mix.b .nil pass0 (pa_cons (pv 0) (pa_cons pe_int pa_nil))) pe_int) pe_int (nomark _)) (pss_cons (ps_asg (pv 4) (pg_name (i := 5) sc_l_letter.nd rfl (by first | exact Or.inl rfl | exact Or.inr rfl))) (pss_cons (ps_asg (pe_op op_add (pv 6) (pe_op op_mul (pe_op op_mod (pe_call ((ok_l_mix T).mono (by decide)) hr rfl T.m_l_mix T.d_l_mix.F.kp T.d_l_mix.b .nil pass0 (pa_cons (pv 0) (pa_cons pe_int pa_nil))) pe_int) pe_int)) (pg_name (i := 7) sc_l_letter.nd rfl (by first | exact Or.inl rfl | exact Or.inr rfl))) (pss_one (ps_asg (pe_op op_add (pv 7) (pe_op op_mul (pe_op op_mod (pe_call ((ok_l_mix T).mono (by decide)) hr rfl T.m_l_mix T.d_l_mix.F.kp T.d_l_mix.b .nil pass0 (pa_cons (pv 0) (pa_cons pe_int pa_nil))) pe_int) pe_int)) (pg_name (i := 8) sc_l_letter.nd rfl (by first | exact Or.inl rfl | exact Or.inr rfl)))))) pss_nil) (pss_cons (ps_asg (pe_callB (Ts.cr_sortedK K) (by rfl) T.n_sorted (by decide +kernel) (pa_cons (pe_lst (pa_cons (pv 7) (pa_cons (pv 8) pa_nil))) pa_nil)) (Ts.pg_lstK K 2 rfl (pgs_cons (pg_name (i := 7) sc_l_letter.nd rfl (by first | exact Or.inl rfl | exact Or.inr rfl)) (pgs_cons (pg_name (i := 8) sc_l_letter.nd rfl (by first | exact Or.inl rfl | exact Or.inr rfl)) pgs_nil)))) (pss_cons (ps_if (pt_cmpR op_eq (pe_op op_mod (pe_call ((ok_l_mix T).mono (by decide)) hr rfl T.m_l_mix T.d_l_mix.F.kp T.d_l_mix.b .nil pass0 (pa_cons (pv 0) (pa_cons pe_int pa_nil))) pe_int) pe_int (nomark _)) (pss_one (ps_asg (pe_callB (Ts.cr_sortedK K) (by rfl) T.n_sorted (by decide +kernel) (pa_cons (pe_lst (pa_cons (pe_call ((ok_l_big T).mono (by decide)) hr rfl T.m_l_big T.d_l_big.F.kp T.d_l_big.b .nil pass0 (pa_cons (pv 0) (pa_cons pe_int pa_nil))) (pa_cons (pe_call ((ok_l_big T).mono (by decide)) hr rfl T.m_l_big T.d_l_big.F.kp T.d_l_big.b .nil pass0 (pa_cons (pv 0) (pa_cons pe_int pa_nil))) pa_nil))) pa_nil)) (Ts.pg_lstK K 2 rfl (pgs_cons (pg_name (i := 7) sc_l_letter.nd rfl (by first | exact Or.inl rfl | exact Or.inr rfl)) (pgs_cons (pg_name (i := 8) sc_l_letter.nd rfl (by first | exact Or.inl rfl | exact Or.inr rfl)) pgs_nil))))) pss_nil) (pss_cons (ps_if (pt_cmpR op_eq (pe_op op_mod (pe_call ((ok_l_mix T).mono (by decide)) hr rfl T.m_l_mix T.d_l_mix.F.kp T.d_l_mix.b .nil pass0 (pa_cons (pv 0) (pa_cons pe_int pa_nil))) pe_int) pe_int (nomark _)) (pss_one (ps_asg (pe_callB (Ts.cr_sortedK K) (by rfl) T.n_sorted (by decide +kernel) (pa_cons (pe_lst (pa_cons (pe_call ((ok_l_big T).mono (by decide)) hr rfl T.m_l_big T.d_l_big.F.kp T.d_l_big.b .nil pass0 (pa_cons (pv 0) (pa_cons pe_int pa_nil))) (pa_cons (pe_call ((ok_l_big T).mono (by decide)) hr rfl T.m_l_big T.d_l_big.F.kp T.d_l_big.b .nil pass0 (pa_cons (pv 0) (pa_cons pe_int pa_nil))) pa_nil))) pa_nil)) (Ts.pg_lstK K 2 rfl (pgs_cons (pg_name (i := 4) sc_l_letter.nd rfl (by first | exact Or.inl rfl | exact Or.inr rfl)) (pgs_cons (pg_name (i := 5) sc_l_letter.nd rfl (by first | exact Or.inl rfl | exact Or.inr rfl)) pgs_nil))))) pss_nil) (pss_one (ps_ret (pe_tup (pa_cons (pe_ix (Ts.ix_listK K) (pv 1) (pv 3) (fun _ _ => rfl)) (pa_cons (pv 4) (pa_cons (pv 5) (pa_cons (pv 7) (pa_cons (pv 8) pa_nil)))))))))))))))))), ?_⟩
    walk_at "ts"
    refine Ts.q_ixB 1 60 (by walk_at "ts sq") (by omega) (by simp; omega) (by walk_at "ts allin") fun wd w0 w1 => ?_
    walk_at "ts"
    refine Ts.q_ixB 0 600 (by walk_at "ts sq") (by omega) (by simp; omega) (by walk_at "ts allin") fun nr n0 n1 => ?_
    rename_i pz epz pz0 pz1 sz esz sz0 sz1 bz ebz bz0 bz1 _ _ _ _ _ _ _ _ _ _ _ _ _ _
    have hp0 : 0 ≤ pz % m := Int.emod_nonneg _ (by omega)
    have hp1 : pz % m < m := Int.emod_lt_of_pos pz (by omega)
    have hb0 : 0 ≤ bz % wd := Int.emod_nonneg _ (by omega)
    have hb1 : bz % wd < wd := Int.emod_lt_of_pos _ (by omega)
    walk_at "ts"
    refine Ts.q_join (fun σ' H' => ∃ s b nr l h : Int, σ' = [some (.int c), some (.ref a), some (.int m), some (.int (pz % m)), some (.int s), some (.int b), some (.int nr), some (.int l), some (.int h)] ∧ Same H H' ∧ s ≤ b ∧ 0 ≤ s ∧ b ≤ 1000000000000 ∧ 0 ≤ l ∧ l ≤ 1000000000000 ∧ 0 ≤ h ∧ h ≤ 1000000000000) ?_ ?_
    rotate_left
    · intro nx' hnx
      refine Ts.q_iteD (fun h5 => ?_) (fun h5 => ?_)
      · walk_at "ts"
        exact hnx _ _ ⟨_, _, _, _, _, rfl, by walk_at "ts same", by omega, by omega, by omega, by omega, by omega, by omega, by omega⟩
      · walk_at "ts"
        exact hnx _ _ ⟨_, _, _, _, _, rfl, by walk_at "ts same", by omega, by omega, by omega, by omega, by omega, by omega, by omega⟩
    rintro σ' H' ⟨s', b, nr, l, h, rfl, sH, hsb, hs0, hb1, hl0, hl1, hh0, hh1⟩
    walk_at "ts"
    refine Ts.q_join (fun σ' H' => ∃ l h : Int, σ' = [some (.int c), some (.ref a), some (.int m), some (.int (pz % m)), some (.int s'), some (.int b), some (.int nr), some (.int l), some (.int h)] ∧ Same H H' ∧ l ≤ h ∧ 0 ≤ l ∧ h ≤ 1000000000000) ?_ ?_
    rotate_left
    · intro nx' hnx
      refine Ts.q_iteD (fun h5 => ?_) (fun h5 => ?_)
      · walk_at "ts"
        exact hnx _ _ ⟨_, _, rfl, by walk_at "ts same", by omega, by omega, by omega⟩
      · walk_at "ts"
        exact hnx _ _ ⟨_, _, rfl, by walk_at "ts same", by omega, by omega, by omega⟩
    rintro σ' H' ⟨l, h, rfl, sH, hlh, hl0, hh1⟩
    walk_at "ts"
    refine Ts.q_join (fun σ' H' => ∃ s b : Int, σ' = [some (.int c), some (.ref a), some (.int m), some (.int (pz % m)), some (.int s), some (.int b), some (.int nr), some (.int l), some (.int h)] ∧ Same H H' ∧ s ≤ b ∧ 0 ≤ s ∧ b ≤ 1000000000000) ?_ ?_
    rotate_left
    · intro nx' hnx
      refine Ts.q_iteD (fun h5 => ?_) (fun h5 => ?_)
      · walk_at "ts"
        exact hnx _ _ ⟨_, _, rfl, by walk_at "ts same", by omega, by omega, by omega⟩
      · walk_at "ts"
        exact hnx _ _ ⟨_, _, rfl, by walk_at "ts same", by omega, by omega, by omega⟩
    rintro σ' H' ⟨s', b, rfl, sH, hsb, hs0, hb1⟩
    walk_at "ts"
    refine Ts.q_ixAny (by walk_at "ts sq") (by omega) (by rw [List.length_map]; omega) fun v hv => ?_
    obtain ⟨z, hz, rfl⟩ := List.mem_map.mp hv
    walk_at "ts"
    exact q ⟨z, _, _, _, _⟩ _ _ (by walk_at "ts same") (by unfold LtAt; assumption) hz ⟨⟨hs0, by dsimp only; omega⟩, ⟨by dsimp only; omega, hb1⟩, ⟨hl0, by dsimp only; omega⟩, ⟨by dsimp only; omega, hh1⟩, hsb, hlh⟩
local macro_rules | `(tactic| walk_at "ts call") => `(tactic| ((with_reducible apply c_l_letter); (focus walk_at "ts sq"); (focus first | assumption | omega | (simp; omega)); (focus assumption); (focus omega); intro L b H2 s2 hL nL okL))

end Law


namespace Law
open PySem PySem.Spec PyProof.Rows L2 Ts
variable {P : Program} {w : World} {K : PySem.W.Frag} {mg : Str → Option Value} {base : Heap}
local macro_rules | `(tactic| walk_at "ts call") => `(tactic| ((with_reducible apply c_l_cell_at); (focus walk_at "ts sq"); (focus omega); intro z ez))
local macro_rules | `(tactic| walk_at "ts call") => `(tactic| ((with_reducible apply c_l_mix); intro z ez z0 z1))
local macro_rules | `(tactic| walk_at "ts call") => `(tactic| ((with_reducible apply c_l_big); intro z H2 z0 z1 sz))
local macro_rules | `(tactic| walk_at "ts call") => `(tactic| ((with_reducible apply c_l_word); (focus omega); (focus omega); intro z hz lz))
local macro_rules | `(tactic| walk_at "ts call") => `(tactic| ((with_reducible apply c_l_names); intro b k p H2 lb lb2 s2 hp))
local macro_rules | `(tactic| walk_at "ts call") => `(tactic| ((with_reducible apply c_l_letter); (focus walk_at "ts sq"); (focus first | assumption | omega | (simp; omega)); (focus assumption); (focus omega); intro L b H2 s2 hL nL okL))

/-! ### written -/
local macro_rules | `(tactic| walk_at "ts txl") => `(tactic| (simp only [PySem.strLen_append, Ts.l_sent, Ts.l_back, Ts.l_swears, Ts.l_to, Ts.l_nl, Ts.l_emp]; omega))
local macro_rules | `(tactic| walk_at "ts tx") => `(tactic| repeat first | walk_at "ts 1" | ((with_reducible refine Ts.q_addS ?hl ?_); (case hl => walk_at "ts txl")) | ((with_reducible refine Ts.q_strI ?hl ?_); (case hl => assumption)) | with_reducible apply Ts.q_tJoin | with_reducible apply Ts.q_jsCons | with_reducible apply Ts.q_jsNil | with_reducible apply Ts.q_fmtS | ((with_reducible refine Ts.q_orS ?hl ?_); (case hl => omega)) | ((with_reducible refine Ts.q_orI ?hl ?_); (case hl => assumption)) | ((with_reducible refine Ts.q_jsPart ?hl ?_); (case hl => walk_at "ts txl")))
def LtW (L : Ltr) : Prop := L.name.length ≤ 12 ∧ Good L
def sp_written (K : PySem.W.Frag) : Sp := fun vs H Q _ => ∃ (a : Addr) (xs : List V) (ls : List Ltr), vs = [.ref a] ∧ H a = some (.lst xs) ∧ Lts H xs ls ∧ ls.length ≤ 1000 ∧ (∀ L ∈ ls, LtW L) ∧ ∀ H', Same H H' → Q (.str (rowsS ls)) H'
theorem c_written {a : Addr} {xs : List V} {ls : List Ltr} {H : Hp} {Q : VK} {E : XK} (h : H a = some (.lst xs)) (hl : Lts H xs ls) (hn : ls.length ≤ 1000) (hw : ∀ L ∈ ls, LtW L) (q : ∀ H', Same H H' → Q (.str (rowsS ls)) H') : sp_written K ([.ref a] ++ []) H Q E := ⟨a, xs, ls, rfl, h, hl, hn, hw, q⟩
theorem ok_written (T : Lw K mg) : FnOk P w K mg base CX0 1 T.f_written T.fd_written ["letters"] (sp_written K) := by
  refine T.d_written.F.ok sc_written (fun vs H Q E h => ?_) (fun cdv A outer s H vs Q E hr h => ?_)
  · obtain ⟨a, xs, ls, rfl, _⟩ := h
    rfl
  · obtain ⟨a, xs, ls, rfl, ha, hl, hlen, hw, q⟩ := h
    have hlx := Paired.len hl
    refine ⟨_, (pss_cons (ps_asg (pe_lst pa_nil) (pg_name (i := 1) sc_written.nd rfl (by first | exact Or.inl rfl | exact Or.inr rfl))) (pss_cons (ps_for PassesOwn.never rfl (Ts.pi_listK K (pv 0)) (Ts.pg_tupK K 5 (by rfl) (pgs_cons (pg_name (i := 2) sc_written.nd rfl (by first | exact Or.inl rfl | exact Or.inr rfl)) (pgs_cons (pg_name (i := 3) sc_written.nd rfl (by first | exact Or.inl rfl | exact Or.inr rfl)) (pgs_cons (pg_name (i := 4) sc_written.nd rfl (by first | exact Or.inl rfl | exact Or.inr rfl)) (pgs_cons (pg_name (i := 5) sc_written.nd rfl (by first | exact Or.inl rfl | exact Or.inr rfl)) (pgs_cons (pg_name (i := 6) sc_written.nd rfl (by first | exact Or.inl rfl | exact Or.inr rfl)) pgs_nil)))))) (pss_cons (ps_asg (pe_op Ts.op_addS (pe_op Ts.op_addS (pe_op Ts.op_addS (pe_op Ts.op_addS (pv 2) pe_str) (pe_callTy Ts.call_strI (by rfl) T.n_str (by decide +kernel) (pa_cons (pv 3) pa_nil))) pe_str) (pe_callTy Ts.call_strI (by rfl) T.n_str (by decide +kernel) (pa_cons (pv 4) pa_nil))) (pg_name (i := 7) sc_written.nd rfl (by first | exact Or.inl rfl | exact Or.inr rfl))) (pss_one (ps_expr (pe_bm PySem.F.plainAttrs_list PySem.F.slot_list_append PySem.F.type_list_append mt_append (pv 1) (pa_cons (pe_op Ts.op_addS (pe_op Ts.op_addS (pe_op Ts.op_addS (pe_op Ts.op_addS (pe_op Ts.op_addS (pv 7) pe_str) (pe_callTy Ts.call_strI (by rfl) T.n_str (by decide +kernel) (pa_cons (pv 5) pa_nil))) pe_str) (pe_callTy Ts.call_strI (by rfl) T.n_str (by decide +kernel) (pa_cons (pv 6) pa_nil))) pe_str) pa_nil)))))) (pss_one (ps_ret (pe_join pe_str (pv 1)))))), ?_⟩
    walk_at "ts"
    rename_i pr hpr H0 s0 e0
    refine Ts.q_forL xs (sqL_of (s0 _ _ ha)) (fun i σ' H' => ∃ (v2 v3 v4 v5 v6 v7 : Option V), σ' = [some (.ref a), some (.ref pr), v2, v3, v4, v5, v6, v7] ∧ Same H H' ∧ H' pr = some (.lst (((ls.take i).map fun L => rowS L ++ "\n").map V.str)))
      ⟨none, none, none, none, none, none, rfl, s0, e0⟩ (fun i σ' H' ⟨_, _, _, _, _, _, _, s, _⟩ => sqL_of (s _ _ ha)) ?_ ?_
    · rintro i x σ' H' hx ⟨v2, v3, v4, v5, v6, v7, rfl, sH, hR⟩
      obtain ⟨L, hLi, a', rfl, hL⟩ := Paired.at_ (hl.mono (tsame_of sH)) hx
      have hL' : H' a' = some (.tup [.str L.name, .int L.sent, .int L.back, .int L.low, .int L.high]) := hL
      obtain ⟨hn, g1, g2, g3, g4, g5⟩ := hw L (List.mem_of_getElem? hLi)
      have k1 := nT_len g1
      have k2 := nT_len g2
      have k3 := nT_len g3
      have k4 := nT_len g4
      have j1 := nT_log g1
      have j2 := nT_log g2
      have j3 := nT_log g3
      have j4 := nT_log g4
      walk_at "ts tx"
      refine Ts.q_append hR (by rw [List.length_map, List.length_map, List.length_take]; omega) ?_
      refine ⟨_, _, _, _, _, _, rfl, same_mut sH hpr, ?_⟩
      rw [upd_same, take_snocL hLi, List.map_append, List.map_append]
      rfl
    · rintro σ' H' ⟨v2, v3, v4, v5, v6, v7, rfl, sH, hR⟩
      rw [hlx, List.take_length] at hR
      walk_at "ts"
      refine Ts.q_tM1 ?_
      walk_at "ts"
      refine Ts.q_isTxt ?_
      walk_at "ts"
      refine ⟨"", pr, ls.map fun L => rowS L ++ "\n", rfl, rfl, .inl (sqL_of hR), ?_, ?_⟩
      · have h1 := rows_sum hw
        have h2 : ("" : Str).length = 0 := by decide +kernel
        rw [h2]
        omega
      · rw [TL.join_eq, rowsS_join]
        exact q H' sH

end Law


namespace Law
open PySem PySem.Spec PyProof.Rows L2 Ts
variable {P : Program} {w : World} {K : PySem.W.Frag} {mg : Str → Option Value} {base : Heap}
local macro_rules | `(tactic| walk_at "ts call") => `(tactic| ((with_reducible apply c_l_cell_at); (focus walk_at "ts sq"); (focus omega); intro z ez))
local macro_rules | `(tactic| walk_at "ts call") => `(tactic| ((with_reducible apply c_l_mix); intro z ez z0 z1))
local macro_rules | `(tactic| walk_at "ts call") => `(tactic| ((with_reducible apply c_l_big); intro z H2 z0 z1 sz))
local macro_rules | `(tactic| walk_at "ts call") => `(tactic| ((with_reducible apply c_l_word); (focus omega); (focus omega); intro z hz lz))
local macro_rules | `(tactic| walk_at "ts call") => `(tactic| ((with_reducible apply c_l_names); intro b k p H2 lb lb2 s2 hp))
local macro_rules | `(tactic| walk_at "ts call") => `(tactic| ((with_reducible apply c_l_letter); (focus walk_at "ts sq"); (focus first | assumption | omega | (simp; omega)); (focus assumption); (focus omega); intro L b H2 s2 hL nL okL))
local macro_rules | `(tactic| walk_at "ts txl") => `(tactic| (simp only [PySem.strLen_append, Ts.l_sent, Ts.l_back, Ts.l_swears, Ts.l_to, Ts.l_nl, Ts.l_emp]; omega))
local macro_rules | `(tactic| walk_at "ts tx") => `(tactic| repeat first | walk_at "ts 1" | ((with_reducible refine Ts.q_addS ?hl ?_); (case hl => walk_at "ts txl")) | ((with_reducible refine Ts.q_strI ?hl ?_); (case hl => assumption)) | with_reducible apply Ts.q_tJoin | with_reducible apply Ts.q_jsCons | with_reducible apply Ts.q_jsNil | with_reducible apply Ts.q_fmtS | ((with_reducible refine Ts.q_orS ?hl ?_); (case hl => omega)) | ((with_reducible refine Ts.q_orI ?hl ?_); (case hl => assumption)) | ((with_reducible refine Ts.q_jsPart ?hl ?_); (case hl => walk_at "ts txl")))

/-! ### the law -/
def spLaw (K : PySem.W.Frag) : Sp := fun vs H Q _ => ∃ (a : Addr) (ns : List Int), vs = [.ref a] ∧ SqL K H a (ns.map V.int) ∧ ns.length ≤ 63 ∧ ∀ H', Q (.bl true) H'

theorem names_is {b : Str} {k : Nat} (h : Low b) (hl : b.length ≤ 10) : ∀ z ∈ nmList b k, IsName z := fun z hz => by
  obtain ⟨i, _, rfl⟩ := List.mem_map.mp hz
  have e := nameAt_len b k i
  refine ⟨?_, ?_, nameAt_low h⟩
  · rw [e]; split <;> omega
  · rw [e]; split <;> omega
/-- a letter that is one, of a name that is one -/
def LtN (L : Ltr) : Prop := IsName L.name ∧ Good L
theorem ok_law (T : Lw K mg) : FnOk P w K mg base CX0 4 T.f_law T.fd_law ["_law_script"] (spLaw K) := by
  refine T.d_law.F.ok sc_law (fun vs H Q E h => ?_) (fun cdv A outer s H vs Q E hr h => ?_)
  · obtain ⟨a, ns, rfl, _⟩ := h
    rfl
  · obtain ⟨a, ns, rfl, hs, hlen, q⟩ := h
    refine ⟨_, (pss_cons (ps_asg (pe_call ((ok_l_names T).mono (by decide)) hr rfl T.m_l_names T.d_l_names.F.kp T.d_l_names.b .nil pass0 (pa_cons (pe_call ((ok_l_cell_at T).mono (by decide)) hr rfl T.m_l_cell_at T.d_l_cell_at.F.kp T.d_l_cell_at.b .nil pass0 (pa_cons (pv 0) (pa_cons pe_int pa_nil))) pa_nil)) (pg_name (i := 1) sc_law.nd rfl (by first | exact Or.inl rfl | exact Or.inr rfl))) (pss_cons (ps_setLc (i := 2) (own := [("_law_cell", 11)]) rfl sc_law.nd rfl rfl (sw_true rfl rfl rfl (by decide +kernel)) (Ts.pi_listK K (pe_slice (Ts.sl_listK K) (pv 0) (po_some pe_int) (po_some pe_int))) (blkOk_by (own := [("_law_cell", 11)]) (N := N_law) (sc := defScope s_law) (by decide +kernel)) (fun _ _ _ _ _ => pg_name (i := 11) sc_law.nd rfl (Or.inl rfl)) (fun _ _ _ _ _ => pts_nil) (fun _ _ _ _ _ => (pe_call ((ok_l_letter T).mono (by decide)) hr rfl T.m_l_letter T.d_l_letter.F.kp T.d_l_letter.b .nil pass0 (pa_cons (pv 11) (pa_cons (pv 1) (pa_cons pe_int pa_nil)))))) (pss_cons (ps_if (pt_cmpR op_eq (pe_op op_mod (pe_call ((ok_l_cell_at T).mono (by decide)) hr rfl T.m_l_cell_at T.d_l_cell_at.F.kp T.d_l_cell_at.b .nil pass0 (pa_cons (pv 0) (pa_cons pe_int pa_nil))) pe_int) pe_int (nomark _)) (pss_one (ps_setLc (i := 2) (own := [("_law_k", 12)]) rfl sc_law.nd rfl rfl (sw_true rfl rfl rfl (by decide +kernel)) (pi_range1 (by rfl) T.n_range (pa_cons pe_int pa_nil)) (blkOk_by (own := [("_law_k", 12)]) (N := N_law) (sc := defScope s_law) (by decide +kernel)) (fun _ _ _ _ _ => pg_name (i := 12) sc_law.nd rfl (Or.inl rfl)) (fun _ _ _ _ _ => pts_nil) (fun _ _ _ _ _ => (pe_call ((ok_l_letter T).mono (by decide)) hr rfl T.m_l_letter T.d_l_letter.F.kp T.d_l_letter.b .nil pass0 (pa_cons (pe_op op_add (pe_call ((ok_l_cell_at T).mono (by decide)) hr rfl T.m_l_cell_at T.d_l_cell_at.F.kp T.d_l_cell_at.b .nil pass0 (pa_cons (pv 0) (pa_cons pe_int pa_nil))) (pv 12)) (pa_cons (pv 1) (pa_cons pe_int pa_nil))))))) pss_nil) (pss_cons (ps_asg pe_str (pg_name (i := 3) sc_law.nd rfl (by first | exact Or.inl rfl | exact Or.inr rfl))) (pss_cons (ps_for PassesOwn.never rfl (Ts.pi_listK K (pv 2)) (Ts.pg_tupK K 5 (by rfl) (pgs_cons (pg_name (i := 4) sc_law.nd rfl (by first | exact Or.inl rfl | exact Or.inr rfl)) (pgs_cons (pg_name (i := 5) sc_law.nd rfl (by first | exact Or.inl rfl | exact Or.inr rfl)) (pgs_cons (pg_name (i := 6) sc_law.nd rfl (by first | exact Or.inl rfl | exact Or.inr rfl)) (pgs_cons (pg_name (i := 7) sc_law.nd rfl (by first | exact Or.inl rfl | exact Or.inr rfl)) (pgs_cons (pg_name (i := 8) sc_law.nd rfl (by first | exact Or.inl rfl | exact Or.inr rfl)) pgs_nil)))))) (pss_one (ps_asg (pe_op Ts.op_addS (pe_op Ts.op_addS (pv 3) (Ts.pe_joinT (PJ.cons (pe_fmt (pv 4)) (PJ.cons pe_str (PJ.cons (pe_fmt (pv 5)) (PJ.cons pe_str (PJ.cons (pe_fmt (pv 6)) (PJ.cons pe_str (PJ.cons (pe_fmt (pv 7)) (PJ.cons pe_str (PJ.cons (pe_fmt (pv 8)) PJ.nil))))))))))) pe_str) (pg_name (i := 3) sc_law.nd rfl (by first | exact Or.inl rfl | exact Or.inr rfl))))) (pss_cons (ps_asg (pe_callTy (Ts.call_listK K) (by rfl) T.n_list (by decide +kernel) (pa_cons (pv 2) pa_nil)) (pg_name (i := 9) sc_law.nd rfl (by first | exact Or.inl rfl | exact Or.inr rfl))) (pss_cons (ps_asg (pe_call ((ok_written T).mono (by decide)) hr rfl T.m_written T.d_written.F.kp T.d_written.b .nil pass0 (pa_cons (pv 9) pa_nil)) (pg_name (i := 10) sc_law.nd rfl (by first | exact Or.inl rfl | exact Or.inr rfl))) (pss_one (ps_ret (pe_and (pe_callB (Ts.call_isiK' K) (by rfl) T.n_isinstance (by decide +kernel) (pa_cons (pv 10) (pa_cons (pe_bltn (v := .ty "str") (by rfl) T.n_str (by decide +kernel) rfl) pa_nil))) (pe_and (pe_cmpR op_eq (pv 10) (pv 3) (nomark _)) (pe_one (pe_cmpR (Ts.op_eqK K hr.units) (pv 9) (pv 2) (nomark _)))))))))))))), ?_⟩
    walk_at "ts"
    rename_i zc0 ezc0 b k pn Hn lb lb2 sn hpn
    have hnm := names_is (k := k) lb lb2
    have hnl : ((nmList b k).length : Int) = 42 := by simp [nmList]
    refine q_slLst (sn.seq hs) fun pc H2 s2 _ e2 => ?_
    obtain ⟨ms, e, hms⟩ := cutV_map V.int ns (some 2) (some 42)
    rw [e] at e2
    have hpn2 : H2 pn = some (.lst ((nmList b k).map V.str)) := s2 _ _ hpn
    refine Ts.q_lcL (sqL_of e2) (by rw [List.length_map]; omega) (fun _ => true) (fun _ H v => ∃ L, IsLt H v L ∧ LtN L) (fun _ _ _ _ s ⟨L, x, y⟩ => ⟨L, x.mono s, y⟩) ?_ ?_
    · intro i x H' QB QV hx s1 _ qv
      obtain ⟨t, ht, rfl⟩ := map_at hx
      walk_at "ts"
      refine ⟨rfl, ?_⟩
      walk_at "ts"
      rename_i L bb H3 s3 hL nL okL
      exact qv _ _ rfl s3 ⟨L, ⟨bb, rfl, hL⟩, hnm _ nL, okL⟩
    intro ys pl H3 s3 hfl hyl pr
    rw [filt_all] at pr
    obtain ⟨ls, p1, p2, p3⟩ := lts_ofP pr
    rw [List.length_range, List.length_map] at p3
    have hs3 : SqL K H3 a (ns.map V.int) := ((sn.trans s2).trans s3).seq hs
    have hpn3 : H3 pn = some (.lst ((nmList b k).map V.str)) := s3 _ _ hpn2
    clear sn s2 s3 hpn hpn2 hs e2
    walk_at "ts toif"
    refine Ts.q_joinS (fun σ' H' => ∃ ls xs pl, σ' = [some (.ref a), some (.ref pn), some (.ref pl), none, none, none, none, none, none, none, none, none, none] ∧ H' pl = some (.lst xs) ∧ Lts H' xs ls ∧ (∀ L ∈ ls, LtN L) ∧ ls.length ≤ 200) ?_ ?_
    rotate_left
    · intro nx' hnx
      walk_at "ts"
      refine Ts.q_iteD (fun h1 => ?_) (fun h1 => ?_)
      · walk_at "ts"
        refine Ts.q_lcR (by omega) (by omega) (fun _ => true) (fun _ H v => ∃ L, IsLt H v L ∧ LtN L) (fun _ _ _ _ s ⟨L, x, y⟩ => ⟨L, x.mono s, y⟩) ?_ ?_
        · intro i H' QB QV hi s1 _ qv
          walk_at "ts"
          refine ⟨rfl, ?_⟩
          walk_at "ts"
          rename_i L bb H3 s3 hL nL okL
          exact qv _ _ rfl s3 ⟨L, ⟨bb, rfl, hL⟩, hnm _ nL, okL⟩
        · intro ys2 D H' s1 hD hys pr2
          rw [filt_all] at pr2
          obtain ⟨ls2, q1, q2, q3⟩ := lts_ofP pr2
          rw [List.length_range] at q3
          exact hnx _ _ ⟨ls2, ys2, D, rfl, hys, q1, q2, by omega⟩
      · walk_at "ts"
        exact hnx _ _ ⟨ls, ys, pl, rfl, hyl, p1, p2, by omega⟩
    clear p1 p2 p3 hyl pr hfl hs3 hpn3
    clear ls
    rintro σ' H4 ⟨ls, xs, pl, rfl, hpl, hls, hw, hll⟩
    have hlx := Paired.len hls
    walk_at "ts"
    refine Ts.q_forL xs (sqL_of hpl) (fun i σ' H' => H' = H4 ∧ ∃ v4 v5 v6 v7 v8 : Option V, σ' = [some (.ref a), some (.ref pn), some (.ref pl), some (.str (rowsS (ls.take i))), v4, v5, v6, v7, v8, none, none, none, none])
      ⟨rfl, none, none, none, none, none, rfl⟩ (fun i σ' H' ⟨e, _⟩ => by rw [e]; exact sqL_of hpl) ?_ ?_
    · rintro i x σ' H' hx ⟨rfl, v4, v5, v6, v7, v8, rfl⟩
      obtain ⟨L, hLi, a', rfl, hL⟩ := Paired.at_ hls hx
      have hL' : H' a' = some (.tup [.str L.name, .int L.sent, .int L.back, .int L.low, .int L.high]) := hL
      have hwi := hw L (List.mem_of_getElem? hLi)
      have hn := hwi.1.2.1
      obtain ⟨_, g1, g2, g3, g4, g5⟩ := hwi
      have hrl := rowS_len hn ⟨g1, g2, g3, g4, g5⟩
      have hrs := rowsS_len (ls := ls.take i) fun M hM => ⟨(hw M (List.mem_of_mem_take hM)).1.2.1, (hw M (List.mem_of_mem_take hM)).2⟩
      rw [List.length_take] at hrs
      have k1 := nT_len g1
      have k2 := nT_len g2
      have k3 := nT_len g3
      have k4 := nT_len g4
      have j1 := nT_log g1
      have j2 := nT_log g2
      have j3 := nT_log g3
      have j4 := nT_log g4
      walk_at "ts tx"
      refine ⟨rfl, some (.str L.name), some (.int L.sent), some (.int L.back), some (.int L.low), some (.int L.high), ?_⟩
      rw [take_snocL hLi, rowsS_snoc]
      unfold rowS
      rw [emp_app]
      rfl
    · rintro σ' H' ⟨rfl, v4, v5, v6, v7, v8, rfl⟩
      rw [hlx, List.take_length]
      walk_at "ts"
      refine Ts.q_listOf (xs := xs) (sqL_of hpl) fun ph H5 s5 hph => ?_
      walk_at "ts"
      refine c_written hph (hls.mono (tsame_of s5)) (by omega) (fun M hM => ⟨(hw M hM).1.2.1, (hw M hM).2⟩) fun H6 s6 => ?_
      walk_at "ts"
      refine Ts.q_iteD (fun _ => ?_) (fun h => absurd rfl h)
      walk_at "ts"
      refine Ts.q_eqSame (dp_lst (fun _ _ h => dp_lt h) (s6 _ _ hph) (hls.mono (tsame_of (s5.trans s6)))) (dp_lst (fun _ _ h => dp_lt h) (s6 _ _ (s5 _ _ hpl)) (hls.mono (tsame_of (s5.trans s6)))) (shaped_list ls fun L hL => ok_dLt L ?_) ?_
      · exact (hw L hL).1.2.2.ok
      · exact q _

end Law



namespace Law
open PySem PySem.Spec PyProof.Rows L2 Ts
theorem all_mk {l : PySem.W.OpenLaw} {w : World} {K : PySem.W.Frag} {h : Heap} {mg : Str → Option Value} {fa : Addr} (X : K.In h) (G : h.Ns mainGlobals mg) (hfa : mg "law" = some (.ref fa))
    {f1 : Addr} {od1 an1 : Option Addr} {sl1 : Array (Option Value)} {oc1 kV1 dc1 pm1 cd1 ct1 : Value}
    {f2 : Addr} {od2 an2 : Option Addr} {sl2 : Array (Option Value)} {oc2 kV2 dc2 pm2 cd2 ct2 : Value}
    {f3 : Addr} {od3 an3 : Option Addr} {sl3 : Array (Option Value)} {oc3 kV3 dc3 pm3 cd3 ct3 : Value}
    {f4 : Addr} {od4 an4 : Option Addr} {sl4 : Array (Option Value)} {oc4 kV4 dc4 pm4 cd4 ct4 : Value}
    {f5 : Addr} {od5 an5 : Option Addr} {sl5 : Array (Option Value)} {oc5 kV5 dc5 pm5 cd5 ct5 : Value}
    {f6 : Addr} {od6 an6 : Option Addr} {sl6 : Array (Option Value)} {oc6 kV6 dc6 pm6 cd6 ct6 : Value}
    {f7 : Addr} {od7 an7 : Option Addr} {sl7 : Array (Option Value)} {oc7 kV7 dc7 pm7 cd7 ct7 : Value}
    {f8 : Addr} {od8 an8 : Option Addr} {sl8 : Array (Option Value)} {oc8 kV8 dc8 pm8 cd8 ct8 : Value}
    (a1 : PySem.W.nsIn K mainGlobals "written" = some (some (.ref f1)))
    (l1 : K.lookup f1 = some ⟨oc1, od1, .func (PySem.W.fnOf "written" "written" (defArgs s_written) (defBody s_written) (defScope s_written) .none kV1 dc1 pm1 an1 cd1 ct1), sl1⟩)
    (c1 : PySem.W.codeIn K cd1 "written" = true)
    (k1 : PySem.W.keepIn K (.ref f1) = true)
    (a2 : PySem.W.nsIn K mainGlobals "_law_cell_at" = some (some (.ref f2)))
    (l2 : K.lookup f2 = some ⟨oc2, od2, .func (PySem.W.fnOf "_law_cell_at" "_law_cell_at" (defArgs s_l_cell_at) (defBody s_l_cell_at) (defScope s_l_cell_at) .none kV2 dc2 pm2 an2 cd2 ct2), sl2⟩)
    (c2 : PySem.W.codeIn K cd2 "_law_cell_at" = true)
    (k2 : PySem.W.keepIn K (.ref f2) = true)
    (a3 : PySem.W.nsIn K mainGlobals "_law_mix" = some (some (.ref f3)))
    (l3 : K.lookup f3 = some ⟨oc3, od3, .func (PySem.W.fnOf "_law_mix" "_law_mix" (defArgs s_l_mix) (defBody s_l_mix) (defScope s_l_mix) .none kV3 dc3 pm3 an3 cd3 ct3), sl3⟩)
    (c3 : PySem.W.codeIn K cd3 "_law_mix" = true)
    (k3 : PySem.W.keepIn K (.ref f3) = true)
    (a4 : PySem.W.nsIn K mainGlobals "_law_big" = some (some (.ref f4)))
    (l4 : K.lookup f4 = some ⟨oc4, od4, .func (PySem.W.fnOf "_law_big" "_law_big" (defArgs s_l_big) (defBody s_l_big) (defScope s_l_big) .none kV4 dc4 pm4 an4 cd4 ct4), sl4⟩)
    (c4 : PySem.W.codeIn K cd4 "_law_big" = true)
    (k4 : PySem.W.keepIn K (.ref f4) = true)
    (a5 : PySem.W.nsIn K mainGlobals "_law_word" = some (some (.ref f5)))
    (l5 : K.lookup f5 = some ⟨oc5, od5, .func (PySem.W.fnOf "_law_word" "_law_word" (defArgs s_l_word) (defBody s_l_word) (defScope s_l_word) .none kV5 dc5 pm5 an5 cd5 ct5), sl5⟩)
    (c5 : PySem.W.codeIn K cd5 "_law_word" = true)
    (k5 : PySem.W.keepIn K (.ref f5) = true)
    (a6 : PySem.W.nsIn K mainGlobals "_law_names" = some (some (.ref f6)))
    (l6 : K.lookup f6 = some ⟨oc6, od6, .func (PySem.W.fnOf "_law_names" "_law_names" (defArgs s_l_names) (defBody s_l_names) (defScope s_l_names) .none kV6 dc6 pm6 an6 cd6 ct6), sl6⟩)
    (c6 : PySem.W.codeIn K cd6 "_law_names" = true)
    (k6 : PySem.W.keepIn K (.ref f6) = true)
    (a7 : PySem.W.nsIn K mainGlobals "_law_letter" = some (some (.ref f7)))
    (l7 : K.lookup f7 = some ⟨oc7, od7, .func (PySem.W.fnOf "_law_letter" "_law_letter" (defArgs s_l_letter) (defBody s_l_letter) (defScope s_l_letter) .none kV7 dc7 pm7 an7 cd7 ct7), sl7⟩)
    (c7 : PySem.W.codeIn K cd7 "_law_letter" = true)
    (k7 : PySem.W.keepIn K (.ref f7) = true)
    (a8 : PySem.W.nsIn K mainGlobals "law" = some (some (.ref f8)))
    (l8 : K.lookup f8 = some ⟨oc8, od8, .func (PySem.W.fnOf "law" "law" (defArgs s_law) (defBody s_law) (defScope s_law) .none kV8 dc8 pm8 an8 cd8 ct8), sl8⟩)
    (c8 : PySem.W.codeIn K cd8 "law" = true)
    (k8 : PySem.W.keepIn K (.ref f8) = true)
    (z0 : PySem.W.nsIn K mainGlobals "range" = some none)
    (z1 : PySem.W.nsIn K mainGlobals "sorted" = some none)
    (z2 : PySem.W.nsIn K mainGlobals "list" = some none)
    (z3 : PySem.W.nsIn K mainGlobals "len" = some none)
    (z4 : PySem.W.nsIn K mainGlobals "isinstance" = some none)
    (z5 : PySem.W.nsIn K mainGlobals "str" = some none)
    : ∃ fd : FuncData, (∀ (s : Shared) (v : Value), BindsTo s fd ⟨[v], []⟩ [("_law_script", v)]) ∧ ∀ base : Heap, K.In base → base.Ns mainGlobals mg → FnOk l.prog w K mg base CX0 4 fa fd ["_law_script"] (spLaw K) := by
  have e := hfa.symm.trans (PySem.W.mg_of X G a8)
  cases e
  let T : Lw K mg := {
    f_written := f1,
    fd_written := PySem.W.fnOf "written" "written" (defArgs s_written) (defBody s_written) (defScope s_written) .none kV1 dc1 pm1 an1 cd1 ct1,
    d_written := ⟨fun_mk (st := s_written) l1 c1 k1, (fun_mk (st := s_written) l1 c1 k1).binds (ps := ["letters"]) fun _ _ _ _ _ _ us hl => match us, hl with | [_], _ => rfl⟩,
    m_written := PySem.W.mg_of X G a1,
    f_l_cell_at := f2,
    fd_l_cell_at := PySem.W.fnOf "_law_cell_at" "_law_cell_at" (defArgs s_l_cell_at) (defBody s_l_cell_at) (defScope s_l_cell_at) .none kV2 dc2 pm2 an2 cd2 ct2,
    d_l_cell_at := ⟨fun_mk (st := s_l_cell_at) l2 c2 k2, (fun_mk (st := s_l_cell_at) l2 c2 k2).binds (ps := ["_law_script", "_law_k"]) fun _ _ _ _ _ _ us hl => match us, hl with | [_, _], _ => rfl⟩,
    m_l_cell_at := PySem.W.mg_of X G a2,
    f_l_mix := f3,
    fd_l_mix := PySem.W.fnOf "_law_mix" "_law_mix" (defArgs s_l_mix) (defBody s_l_mix) (defScope s_l_mix) .none kV3 dc3 pm3 an3 cd3 ct3,
    d_l_mix := ⟨fun_mk (st := s_l_mix) l3 c3 k3, (fun_mk (st := s_l_mix) l3 c3 k3).binds (ps := ["_law_cell", "_law_k"]) fun _ _ _ _ _ _ us hl => match us, hl with | [_, _], _ => rfl⟩,
    m_l_mix := PySem.W.mg_of X G a3,
    f_l_big := f4,
    fd_l_big := PySem.W.fnOf "_law_big" "_law_big" (defArgs s_l_big) (defBody s_l_big) (defScope s_l_big) .none kV4 dc4 pm4 an4 cd4 ct4,
    d_l_big := ⟨fun_mk (st := s_l_big) l4 c4 k4, (fun_mk (st := s_l_big) l4 c4 k4).binds (ps := ["_law_cell", "_law_k"]) fun _ _ _ _ _ _ us hl => match us, hl with | [_, _], _ => rfl⟩,
    m_l_big := PySem.W.mg_of X G a4,
    f_l_word := f5,
    fd_l_word := PySem.W.fnOf "_law_word" "_law_word" (defArgs s_l_word) (defBody s_l_word) (defScope s_l_word) .none kV5 dc5 pm5 an5 cd5 ct5,
    d_l_word := ⟨fun_mk (st := s_l_word) l5 c5 k5, (fun_mk (st := s_l_word) l5 c5 k5).binds (ps := ["_law_cell", "_law_size"]) fun _ _ _ _ _ _ us hl => match us, hl with | [_, _], _ => rfl⟩,
    m_l_word := PySem.W.mg_of X G a5,
    f_l_names := f6,
    fd_l_names := PySem.W.fnOf "_law_names" "_law_names" (defArgs s_l_names) (defBody s_l_names) (defScope s_l_names) .none kV6 dc6 pm6 an6 cd6 ct6,
    d_l_names := ⟨fun_mk (st := s_l_names) l6 c6 k6, (fun_mk (st := s_l_names) l6 c6 k6).binds (ps := ["_law_cell"]) fun _ _ _ _ _ _ us hl => match us, hl with | [_], _ => rfl⟩,
    m_l_names := PySem.W.mg_of X G a6,
    f_l_letter := f7,
    fd_l_letter := PySem.W.fnOf "_law_letter" "_law_letter" (defArgs s_l_letter) (defBody s_l_letter) (defScope s_l_letter) .none kV7 dc7 pm7 an7 cd7 ct7,
    d_l_letter := ⟨fun_mk (st := s_l_letter) l7 c7 k7, (fun_mk (st := s_l_letter) l7 c7 k7).binds (ps := ["_law_cell", "_law_names_here", "_law_many"]) fun _ _ _ _ _ _ us hl => match us, hl with | [_, _, _], _ => rfl⟩,
    m_l_letter := PySem.W.mg_of X G a7,
    f_law := fa,
    fd_law := PySem.W.fnOf "law" "law" (defArgs s_law) (defBody s_law) (defScope s_law) .none kV8 dc8 pm8 an8 cd8 ct8,
    d_law := ⟨fun_mk (st := s_law) l8 c8 k8, (fun_mk (st := s_law) l8 c8 k8).binds (ps := ["_law_script"]) fun _ _ _ _ _ _ us hl => match us, hl with | [_], _ => rfl⟩,
    m_law := PySem.W.mg_of X G a8,
    n_range := PySem.W.mg_none_of X G z0,
    n_sorted := PySem.W.mg_none_of X G z1,
    n_list := PySem.W.mg_none_of X G z2,
    n_len := PySem.W.mg_none_of X G z3,
    n_isinstance := PySem.W.mg_none_of X G z4,
    n_str := PySem.W.mg_none_of X G z5 }
  exact ⟨T.fd_law, fun s v => .of_eq rfl, fun base _ _ => ok_law T⟩
end Law
open PySem PySem.W PyProof.Rows
set_option maxHeartbeats 0 in
theorem PySem.Challenge.cw_timestretch_k11_written_holds : PySem.Challenge.rw_timestretch_k11_written.Holds := by
  w_on; o_law; k_head; (case hw => w_witness2)
  k_fill
  refine L2.walk_of (l := PySem.Challenge.rw_timestretch_k11_written) (n := 63) (k := 4) (x := "_law_script") (CX := fun _ => L2.CX0) (sp := fun w => Law.spLaw _) rfl (by decide) rfl ⟨rfl, by decide, by decide⟩ (fun w h Y => PySem.W.kIn_of Y) ?F (fun _ _ a ns hl _ hS => ⟨a, ns, rfl, hS, hl, fun _ => rfl⟩) (fun _ _ _ _ _ h => h)
  case F =>
    intro w mg fa h KX G hmg
    refine' Law.all_mk KX G hmg ?a1 ?l1 ?c1 ?k1 ?a2 ?l2 ?c2 ?k2 ?a3 ?l3 ?c3 ?k3 ?a4 ?l4 ?c4 ?k4 ?a5 ?l5 ?c5 ?k5 ?a6 ?l6 ?c6 ?k6 ?a7 ?l7 ?c7 ?k7 ?a8 ?l8 ?c8 ?k8 ?z0 ?z1 ?z2 ?z3 ?z4 ?z5
    (case a1 => k_is)
    (case l1 => k_is)
    (case c1 => k_is)
    (case k1 => k_is)
    (case a2 => k_is)
    (case l2 => k_is)
    (case c2 => k_is)
    (case k2 => k_is)
    (case a3 => k_is)
    (case l3 => k_is)
    (case c3 => k_is)
    (case k3 => k_is)
    (case a4 => k_is)
    (case l4 => k_is)
    (case c4 => k_is)
    (case k4 => k_is)
    (case a5 => k_is)
    (case l5 => k_is)
    (case c5 => k_is)
    (case k5 => k_is)
    (case a6 => k_is)
    (case l6 => k_is)
    (case c6 => k_is)
    (case k6 => k_is)
    (case a7 => k_is)
    (case l7 => k_is)
    (case c7 => k_is)
    (case k7 => k_is)
    (case a8 => k_is)
    (case l8 => k_is)
    (case c8 => k_is)
    (case k8 => k_is)
    (case z0 => k_is)
    (case z1 => k_is)
    (case z2 => k_is)
    (case z3 => k_is)
    (case z4 => k_is)
    (case z5 => k_is)
#print axioms PySem.Challenge.cw_timestretch_k11_written_holds
