import PyProof.Rows.All
import Wide.All
import OpenK.AllK
import Wide.FinOn
import HandS.ForMost
import HandS.Defaults
import HandS.IsInst
import HandS.TupAny
import HandS.Codes
import HandS.Wide
import HandS.Walk
import HandS.More
import KE.GoesMore
import HandS.ExcInit
import HandS.ExcField
import HandS.ExcIs
import HandS.WordsExc
import HandS.ExcOwn
import PySem.Challenge.RW_deflatehall_k47_checks
set_option Elab.async false
set_option linter.all false
set_option maxRecDepth 100000
set_option maxHeartbeats 4000000
/-! Ghost heaps over the hand layer: what stands for good (G), what may change (W). -/
namespace Z
open PySem PySem.Spec PyProof.Rows L2

/-- it is o -/
def Is (o : HO) : HO → Prop := fun x => x = o
/-- what may change: an address, and what holds of the object there -/
abbrev Wl := List (Addr × (HO → Prop))
structure Wd (G : Hp) (W : Wl) (H : Hp) : Prop where
  ex : Same G H
  own : ∀ p ∈ W, G p.1 = none ∧ ∃ o, H p.1 = some o ∧ p.2 o
  nd : (W.map (·.1)).Nodup

theorem same_upd {H : Hp} {p : Addr} {o : HO} (h : H p = none) : Same H (upd H p o) := fun a u e => by
  rw [upd_ne (ne_of_none e h)]
  exact e
section
variable {G G' H H' : Hp} {W W1 W2 : Wl} {a p : Addr} {o : HO} {P P' : HO → Prop}
theorem Wd.free (w : Wd G W H) (h : H p = none) : G p = none := w.ex.free h
theorem Wd.ext (w : Wd G W H) (e : Same H H') : Wd G W H' :=
  ⟨w.ex.trans e, fun q hq => ⟨(w.own q hq).1, let ⟨o, h1, h2⟩ := (w.own q hq).2; ⟨o, e _ _ h1, h2⟩⟩, w.nd⟩
theorem Wd.at (w : Wd G W H) (h : G a = some o) : H a = some o := w.ex _ _ h
theorem Wd.neOwn (w : Wd G W H) (hp : H p = none) {q : Addr × (HO → Prop)} (hq : q ∈ W) : q.1 ≠ p := by
  obtain ⟨_, o, h, _⟩ := w.own q hq
  exact ne_of_none h hp
/-- a new object that stands for good -/
theorem Wd.new (w : Wd G W H) (hp : H p = none) : Wd (upd G p o) W (upd H p o) := by
  refine ⟨fun b u e => ?_, fun q hq => ?_, w.nd⟩
  · by_cases hb : b = p
    · subst hb
      rw [upd_same] at e ⊢
      exact e
    · rw [upd_ne hb] at e ⊢
      exact w.ex _ _ e
  · have hn := w.neOwn hp hq
    rw [upd_ne hn, upd_ne hn]
    exact w.own q hq
/-- a new object that may change -/
theorem Wd.newM (w : Wd G W H) (hp : H p = none) (h : P o) : Wd G ((p, P) :: W) (upd H p o) := by
  refine ⟨w.ex.trans (same_upd hp), fun q hq => ?_, ?_⟩
  · rcases List.mem_cons.mp hq with rfl | hq
    · exact ⟨w.free hp, o, upd_same, h⟩
    · have hn := w.neOwn hp hq
      rw [upd_ne hn]
      exact w.own q hq
  · rw [List.map_cons, List.nodup_cons]
    refine ⟨fun hm => ?_, w.nd⟩
    obtain ⟨q, hq, e⟩ := List.mem_map.mp hm
    exact w.neOwn hp hq e
theorem mem_mid {α : Type} {A B : List α} {x : α} : x ∈ A ++ x :: B := List.mem_append_right _ List.mem_cons_self
/-- the object at a changes -/
theorem Wd.put (w : Wd G (W1 ++ (a, P) :: W2) H) (h : P' o) : Wd G (W1 ++ (a, P') :: W2) (upd H a o) := by
  have h0 := w.own (a, P) mem_mid
  have nd : ((W1 ++ (a, P) :: W2).map (·.1)).Nodup := w.nd
  rw [List.map_append, List.map_cons, List.nodup_append] at nd
  obtain ⟨n1, n2, n3⟩ := nd
  rw [List.nodup_cons] at n2
  refine ⟨fun b u e => ?_, fun q hq => ?_, ?_⟩
  · have hb : b ≠ a := ne_of_none e h0.1
    rw [upd_ne hb]
    exact w.ex _ _ e
  · rcases List.mem_append.mp hq with hq | hq
    · have hn : q.1 ≠ a := fun z => n3 _ (List.mem_map.mpr ⟨q, hq, z⟩) _ List.mem_cons_self rfl
      rw [upd_ne hn]
      exact w.own q (List.mem_append_left _ hq)
    · rcases List.mem_cons.mp hq with rfl | hq
      · exact ⟨h0.1, o, upd_same, h⟩
      · have hn : q.1 ≠ a := fun z => n2.1 (List.mem_map.mpr ⟨q, hq, z⟩)
        rw [upd_ne hn]
        exact w.own q (List.mem_append_right _ (List.mem_cons_of_mem _ hq))
  · rw [List.map_append, List.map_cons, List.nodup_append]
    exact ⟨n1, List.nodup_cons.mpr n2, n3⟩
/-- what holds there always is kept -/
theorem Wd.put' (w : Wd G W H) (hm : (a, P) ∈ W) (h : P o) : Wd G W (upd H a o) := by
  obtain ⟨A, B, rfl⟩ := List.append_of_mem hm
  exact w.put h
theorem Wd.putI (w : Wd G (W1 ++ (a, P) :: W2) H) : Wd G (W1 ++ (a, Is o) :: W2) (upd H a o) := w.put rfl
/-- the first one changes -/
theorem Wd.put1 (w : Wd G ((a, P) :: W) H) : Wd G ((a, Is o) :: W) (upd H a o) := Wd.putI (W1 := []) w
theorem Wd.get (w : Wd G W H) (hm : (a, P) ∈ W) : ∃ o, H a = some o ∧ P o := (w.own _ hm).2
theorem Wd.drop (w : Wd G (W1 ++ (a, P) :: W2) H) : Wd G (W1 ++ W2) H := by
  refine ⟨w.ex, fun q hq => w.own q ?_, ?_⟩
  · rcases List.mem_append.mp hq with hq | hq
    · exact List.mem_append_left _ hq
    · exact List.mem_append_right _ (List.mem_cons_of_mem _ hq)
  · have nd := w.nd
    rw [List.map_append, List.map_cons] at nd
    rw [List.map_append]
    exact nd.sublist (List.Sublist.append_left (List.sublist_cons_self _ _) _)
theorem Wd.drop1 (w : Wd G ((a, P) :: W) H) : Wd G W H := Wd.drop (W1 := []) w
/-- what does not change any more stands for good -/
theorem Wd.freeze (w : Wd G (W1 ++ (a, P) :: W2) H) : ∃ o, P o ∧ H a = some o ∧ Same G (upd G a o) ∧ Wd (upd G a o) (W1 ++ W2) H := by
  obtain ⟨g, o, h, ho⟩ := w.own (a, P) mem_mid
  have nd : ((W1 ++ (a, P) :: W2).map (·.1)).Nodup := w.nd
  rw [List.map_append, List.map_cons, List.nodup_append] at nd
  obtain ⟨n1, n2, n3⟩ := nd
  rw [List.nodup_cons] at n2
  refine ⟨o, ho, h, same_upd g, fun b u e => ?_, fun q hq => ?_, w.drop.nd⟩
  · by_cases hb : b = a
    · subst hb
      rw [upd_same] at e
      cases e
      exact h
    · rw [upd_ne hb] at e
      exact w.ex _ _ e
  · have hn : q.1 ≠ a := by
      rcases List.mem_append.mp hq with hq | hq
      · exact fun z => n3 _ (List.mem_map.mpr ⟨q, hq, z⟩) _ List.mem_cons_self rfl
      · exact fun z => n2.1 (List.mem_map.mpr ⟨q, hq, z⟩)
    rw [upd_ne hn]
    refine w.own q ?_
    rcases List.mem_append.mp hq with hq | hq
    · exact List.mem_append_left _ hq
    · exact List.mem_append_right _ (List.mem_cons_of_mem _ hq)
theorem Wd.freeze1 (w : Wd G ((a, P) :: W) H) : ∃ o, P o ∧ H a = some o ∧ Same G (upd G a o) ∧ Wd (upd G a o) W H := Wd.freeze (W1 := []) w
theorem Wd.imp (w : Wd G (W1 ++ (a, P) :: W2) H) (h : ∀ o, P o → P' o) : Wd G (W1 ++ (a, P') :: W2) H := by
  have h0 := w.own (a, P) mem_mid
  refine ⟨w.ex, fun q hq => ?_, ?_⟩
  · rcases List.mem_append.mp hq with hq | hq
    · exact w.own q (List.mem_append_left _ hq)
    · rcases List.mem_cons.mp hq with rfl | hq
      · obtain ⟨g, o, e, ho⟩ := h0
        exact ⟨g, o, e, h _ ho⟩
      · exact w.own q (List.mem_append_right _ (List.mem_cons_of_mem _ hq))
  · have nd := w.nd
    rw [List.map_append, List.map_cons] at nd ⊢
    exact nd
theorem Wd.perm {V' : Wl} (w : Wd G W H) (h : W.Perm V') : Wd G V' H :=
  ⟨w.ex, fun q hq => w.own q (h.mem_iff.mpr hq), (h.map _).nodup_iff.mp w.nd⟩
end

/-! ### data -/
section
variable {K : PySem.W.Frag} {G G' : Hp}
theorem seqT {a : Addr} {xs : List V} (e : Same G G') (h : SqT K G a xs) : SqT K G' a xs := by
  rcases h with (h | ⟨o, h⟩) | h
  · exact .inl (.inl (e _ _ h))
  · exact .inl (.inr ⟨o, e _ _ h⟩)
  · exact .inr h
mutual
theorem dmono (e : Same G G') : ∀ {d : PyData} {v : V}, Dp K G v d → Dp K G' v d
  | _, _, .non => .non
  | _, _, .bl b => .bl b
  | _, _, .int i => .int i
  | _, _, .str x => .str x
  | _, _, .lst h r => .lst (e.seq h) (dmonoAll e r)
  | _, _, .tup h r => .tup (seqT e h) (dmonoAll e r)
theorem dmonoAll (e : Same G G') : ∀ {ds : List PyData} {vs : List V}, DpAll K G vs ds → DpAll K G' vs ds
  | _, _, .nil => .nil
  | _, _, .cons h r => .cons (dmono e h) (dmonoAll e r)
end
end

/-! ### how arguments bind -/
theorem bAll {K : PySem.W.Frag} {fd : FuncData} {ps : List Str} (h : ∃ ds, Vals ([] : List V) ds ∧ Binds K fd ps ds) : Binds K fd ps [] := by
  obtain ⟨ds, r, b⟩ := h
  cases r
  exact b
theorem valsGet {vs : List V} {us : List Value} (r : Vals vs us) (i : Nat) : L2.RelV (vs.getD i .non) (us.getD i .none) := by
  induction r generalizing i with
  | nil => exact rfl
  | cons h t ih =>
    cases i with
    | zero => simpa using h
    | succ i => simpa using ih i
section
variable {K : PySem.W.Frag} {x qual : Str} {params : Arguments} {body : List Stmt} {scope : Scope} {dvs : List V} {f : Addr} {fd : FuncData} {ps ks : List Str} {n : Nat}
theorem kbnN (F : FunD K x qual params body scope [] [] f fd) (g : List Value → List Value → List Value) {gV : List V → List V → List V}
    (rel : ∀ {vs : List V} {us : List Value} {zs : List V} {ws : List Value}, Vals vs us → Vals zs ws → Vals (gV vs zs) (g us ws))
    (h : ∀ (kV doc pm : Value) (an : Option Addr) (cdv ct : Value) (us ws : List Value), us.length = n → ws.length = ks.length →
      bindArgs (PySem.W.fnOf x qual params body scope .none kV doc pm an cdv ct) ⟨us, ks.zip ws⟩ = pure (ps.zip (g us ws))) : KBn K fd ps n ks g gV := by
  obtain ⟨oc, od, dV, kV, doc, pm, an, cdv, ct, osl, rfl, lk, hcd, hD, hK⟩ := F.ex
  rcases hD with ⟨_, rfl⟩ | ⟨e, _⟩
  · exact ⟨fun s us ws _ l1 l2 => .of_eq (h kV doc pm an cdv ct us ws l1 l2), rel⟩
  · exact absurd rfl e
theorem kbnD (F : FunD K x qual params body scope dvs [] f fd) (hd : dvs ≠ []) (g : List Value → List Value → List Value → List Value) {gV : List V → List V → List V}
    (rel : ∀ {vs : List V} {us : List Value} {its : List Value} {zs : List V} {ws : List Value}, Vals vs us → Vals dvs its → Vals zs ws → Vals (gV vs zs) (g us its ws))
    (h : ∀ (T : Addr) (kV doc pm : Value) (an : Option Addr) (cdv ct : Value) (us its ws : List Value), us.length = n → its.length = dvs.length → ws.length = ks.length →
      ∃ k, bindArgs (PySem.W.fnOf x qual params body scope (.ref T) kV doc pm an cdv ct) ⟨us, ks.zip ws⟩ = seqItems? (.ref T) >>= k ∧ k (some its.toArray) = pure (ps.zip (g us its ws))) : ∃ g', KBn K fd ps n ks g' gV := by
  obtain ⟨oc, od, dV, kV, doc, pm, an, cdv, ct, osl, rfl, lk, hcd, hD, hK⟩ := F.ex
  rcases hD with ⟨e, _⟩ | ⟨_, T, o, its, m, rfl, lT, oT, rT⟩
  · exact absurd e hd
  · refine ⟨fun us ws => g us its ws, fun s us ws X l1 l2 => ?_, fun r1 r3 => rel r1 rT r3⟩
    obtain ⟨k, e1, e2⟩ := h T kV doc pm an cdv ct us its ws l1 rT.length.symm l2
    refine BindsTo.of_looks fun M => ?_
    rw [e1]
    exact looks_items X lT oT (.of_pure e2)
end
section
variable {X : Cx} {CX : CXT} {k n : Nat} {f : Addr} {fd : FuncData} {ps ks : List Str} {sp : Sp} {E : XK} {x : Str} {p pos : Pos} {kws : List Keyword} {tk : TA} {g : List Value → List Value → List Value} {gV : List V → List V → List V}
/-- f(k = v, ..): keywords alone -/
theorem pe_callN0 (F : FnOk X.prog X.w X.K X.mg X.base CX k f fd ps sp) (hr : Room k X.A) (hg : Gl X x) (hm : X.mg x = some (.ref f)) (hk : PySem.W.keepIn X.K (.ref f) = true) (hb : KBn X.K fd ps 0 ks g gV) (hx : Passes CX X E)
    (hkw : PK X kws tk) (hall : (backToKw pos (keywordEach kws X.env)).all (·.1.isSome) = true := by rfl) (hks : (backToKw pos (keywordEach kws X.env)).filterMap (·.1) = ks := by rfl)
    (hdb : (x == ("__debug__" : Str)) = false := by decide) (hpl : ((backTo pos (starEach [] X.env)).any (·.1) || (backToKw pos (keywordEach kws X.env)).any (·.1.isNone)) = false := by rfl) :
    PE X (.Call (.Name x p) [] kws pos) (tCallN 0 ks.length sp gV E tNil tk) := by
  refine ⟨fun pins s σ H Q I h => wpAny_Call_Name_kw (ld_glob I hg hm ?_ hdb)⟩
  refine PySem.W.callWith_KW0 (h₀ := X.base) I.ok.mod.kin hk hall (thn (hkw.run pos pins _ σ H _ (I.tok _) h) fun ws s2 ⟨zs, H2, I2, rz, l1, l2, q2⟩ => ⟨I2.kIn, ?_⟩) hpl
  rw [hks]
  exact run_fnN (us := []) (vs := []) F hr hb hx I2 .nil rz rfl l2 q2
end
section
variable {X : Cx}
def CPowW (i j : Int) : Prop := 0 ≤ j ∧ (Builtin.Int.intBits i : Int) * j ≤ 2 ^ 27
theorem op_powW : OpR X (binaryOp .Pow) (rI CPowW fun i j => .int (i ^ j.toNat)) := opI fun _ _ _ _ _ _ _ hc q => PyProof.Rows.pow_int hc.1 hc.2 q
end

/-! ### readings, step by step (what is asked, from the left) -/
section
variable {K : PySem.W.Frag} {σ : L2.St} {H : Hp} {Q : VK} {D : Ends} {i : Nat} {v x y : V} {ta tb te : TE} {t u : TS} {tt tu : TT} {QT : Bool → Hp → Prop} {QA : List V → Hp → Prop} {QS nx bk ct : L2.St → Hp → Prop} {rt : VK} {r : R2} {tr : TA} {xs : List V}
theorem st_var (h : σ[i]? = some (some v)) (q : Q v H) : tVar i σ H Q := ⟨v, h, q⟩
theorem st_c (q : Q v H) : tC v σ H Q := q
theorem st_op (h : ta σ H fun x H1 => tb σ H1 fun y H2 => r x y H2 Q) : tOp r ta tb σ H Q := h
theorem st_un {r : V → Hp → VK → Prop} (h : ta σ H fun x H1 => r x H1 Q) : tUn r ta σ H Q := h
theorem st_i0 {g : Int → Int → V} {a b : Int} (q : Q (g a b) H) : rI0 g (.int a) (.int b) H Q := ⟨a, b, rfl, rfl, q⟩
theorem st_i {C : Int → Int → Prop} {g : Int → Int → V} {a b : Int} (c : C a b) (q : Q (g a b) H) : rI C g (.int a) (.int b) H Q := ⟨a, b, rfl, rfl, c, q⟩
theorem st_u {g : Int → V} {a : Int} (q : Q (g a) H) : rU g (.int a) H Q := ⟨a, rfl, q⟩
theorem st_eq (h : scal x y = true) (q : Q (.bl (decide (x = y))) H) : rEq x y H Q := ⟨h, q⟩
theorem st_ne (h : scal x y = true) (q : Q (.bl (!decide (x = y))) H) : rNe x y H Q := ⟨h, q⟩
theorem st_test (h : te σ H fun x H1 => ∃ k, x = .bl k ∧ QT k H1) : tTest te σ H QT := h
theorem st_tB (h : te σ H fun x H1 => ∃ k, x = .bl k ∧ QT k H1) : tB te σ H QT := h
theorem st_bl {b : Bool} {P : Bool → Prop} (q : P b) : ∃ k, V.bl b = .bl k ∧ P k := ⟨b, rfl, q⟩
theorem st_not (h : tt σ H fun c H1 => QT (!c) H1) : tNot tt σ H QT := h
theorem st_and (h : tt σ H fun c H1 => if c = true then tu σ H1 QT else QT false H1) : tAnd tt tu σ H QT := h
theorem st_or (h : tt σ H fun c H1 => if c = true then QT true H1 else tu σ H1 QT) : tOr tt tu σ H QT := h
theorem st_andV (h : ta σ H fun x H1 => ∃ c, x = .bl c ∧ if c = true then tb σ H1 Q else Q (.bl false) H1) : tAndV ta tb σ H Q := h
theorem st_orV (h : ta σ H fun x H1 => ∃ c, x = .bl c ∧ if c = true then Q (.bl true) H1 else tb σ H1 Q) : tOrV ta tb σ H Q := h
theorem st_notV (h : ta σ H fun x H1 => ∃ c, x = .bl c ∧ Q (.bl (!c)) H1) : tNotV ta σ H Q := h
theorem st_ifE (h : tt σ H fun c H1 => if c = true then ta σ H1 Q else tb σ H1 Q) : tIf tt ta tb σ H Q := h
theorem st_nil (q : QA [] H) : tNil σ H QA := q
theorem st_cons (h : te σ H fun x H1 => tr σ H1 fun xs H2 => QA (x :: xs) H2) : tCons te tr σ H QA := h
theorem st_cb {r : List V → Hp → VK → Prop} (h : tr σ H fun vs H1 => r vs H1 Q) : tCB r tr σ H Q := h
theorem st_seq (h : t ⟨u ⟨nx, rt, bk, ct⟩, rt, bk, ct⟩ σ H) : tSeq t u ⟨nx, rt, bk, ct⟩ σ H := h
theorem st_next (q : nx σ H) : tNext ⟨nx, rt, bk, ct⟩ σ H := q
theorem st_brk (q : bk σ H) : tBreak ⟨nx, rt, bk, ct⟩ σ H := q
theorem st_cont (q : ct σ H) : tCont ⟨nx, rt, bk, ct⟩ σ H := q
theorem st_drop (h : te σ H fun _ H1 => nx σ H1) : tDrop te ⟨nx, rt, bk, ct⟩ σ H := h
theorem st_ret (h : te σ H rt) : tRet te ⟨nx, rt, bk, ct⟩ σ H := h
theorem st_retN (h : rt .non H) : tRetN ⟨nx, rt, bk, ct⟩ σ H := h
theorem st_if (h : tt σ H fun b H1 => if b = true then t ⟨nx, rt, bk, ct⟩ σ H1 else u ⟨nx, rt, bk, ct⟩ σ H1) : tIfS tt t u ⟨nx, rt, bk, ct⟩ σ H := h
theorem st_asg {g : TG} (h : te σ H fun x H1 => g x σ H1 nx) : tAsg te g ⟨nx, rt, bk, ct⟩ σ H := h
theorem st_gname (q : QS (σ.set i (some v)) H) : gName i v σ H QS := q
theorem st_par {j : Nat} (h : tr σ H fun vs H1 => ∃ v w, vs = [v, w] ∧ nx ((σ.set i (some v)).set j (some w)) H1) : tPar i j tr ⟨nx, rt, bk, ct⟩ σ H := h
theorem st_two {w : V} {P : V → V → Prop} (q : P v w) : ∃ v' w', [v, w] = [v', w'] ∧ P v' w' := ⟨v, w, rfl, q⟩
theorem st_call {sp : Sp} {dvs : List V} {E : XK} (h : tr σ H fun vs H1 => sp (vs ++ dvs) H1 Q E) : tCall sp dvs E tr σ H Q := h
theorem st_callN {n m : Nat} {sp : Sp} {gV : List V → List V → List V} {E : XK} {tk : TA} (h : tr σ H fun vs H1 => tk σ H1 fun zs H2 => vs.length = n ∧ zs.length = m ∧ sp (gV vs zs) H2 Q E) : tCallN n m sp gV E tr tk σ H Q := h
/-- a new list, a new tuple at a free place -/
def NewO (o : HO) (H : Hp) (Q : VK) : Prop := ∀ p, H p = none → Q (.ref p) (upd H p o)
theorem st_lst (h : tr σ H fun xs H1 => xs.length ≤ sizeLine ∧ NewO (.lst xs) H1 Q) : tLst tr σ H Q := h
theorem st_tup (h : tr σ H fun xs H1 => xs.length ≤ sizeLine ∧ NewO (.tup xs) H1 Q) : tTup tr σ H Q := h
theorem small {n : Nat} (h : n ≤ 1000000) : n ≤ sizeLine := Nat.le_trans h (by decide)
theorem small' {n : Nat} (h : n ≤ 1000000) : n < sizeLine := Nat.lt_of_le_of_lt h (by decide)
/-- it stands for good -/
theorem NewO.good {o : HO} {G : Hp} {W : Wl} (w : Wd G W H) (k : ∀ p G' H', Same G G' → Wd G' W H' → G' p = some o → Q (.ref p) H') : NewO o H Q := fun p hp =>
  k p (upd G p o) (upd H p o) (same_upd (w.free hp)) (w.new hp) upd_same
/-- it may change -/
theorem NewO.own {o : HO} {G : Hp} {W : Wl} (w : Wd G W H) (k : ∀ p H', Wd G ((p, Is o) :: W) H' → Q (.ref p) H') : NewO o H Q := fun p hp => k p (upd H p o) (w.newM hp rfl)
end

/-! ### a def that lets nothing out -/
section
variable {P : Program} {w : World} {K : PySem.W.Frag} {mg : Str → Option Value} {base : Heap} {x qual : Str} {params : Arguments} {body : List Stmt} {scope : Scope} {dvs : List V} {kws : List (Str × V)} {f : Addr} {fd : FuncData}
theorem okD {N ps : List Str} {k : Nat} {sp : Sp} (F : FunD K x qual params body scope dvs kws f fd) (S : FnScope N ps scope) (len : ∀ vs H Q E, sp vs H Q E → vs.length = ps.length)
    (hb : ∀ (cdv : Value) (A : Around) (outer : List Env) (s : Shared) (H : Hp) (vs : List V) (Q : VK) (E : XK), Room k (A.deeper (envOfC qual scope s.heap.objs.size f cdv)) → sp vs H Q E →
      ∃ t, PSs (cxOf CX0 P w K mg base N qual scope f cdv A outer s H E).nox body t ∧ t { nx := fun _ H' => Q .non H', rt := Q } (start N vs) H) : FnOk P w K mg base CX0 (k + 1) f fd ps sp :=
  F.ok S len fun cdv A outer s H vs Q E hr h => let ⟨t, a, q⟩ := hb cdv A outer s H vs Q E hr h; ⟨t, a.nox, q⟩
end
/-! ### loops -/
def LoopQ (J : It) (g : TG) (tb : TS) (nx : L2.St → Hp → Prop) (rt : VK) (σ : L2.St) (H : Hp) : Prop := ∃ W : Nat → Nat → L2.St → Hp → Prop, (∃ m, W 0 m σ H) ∧ ∀ i m σ H, W i m σ H →
  (J.stop i H ∧ nx σ H) ∨ (J.go i H ∧ ∃ N : L2.St → Hp → Prop, (∀ σ' H', N σ' H' → ∃ m', m' < m ∧ W (i + 1) m' σ' H') ∧ ∀ x H', J.yld i H x H' → g x σ H' fun σ2 H2 => tb ⟨N, rt, nx, N⟩ σ2 H2)
/-- what holds between two turns, over a G that grows -/
def Btw (I : Nat → L2.St → Hp → Wl → Prop) (G : Hp) (i : Nat) : L2.St → Hp → Prop := fun σ H => ∃ G' W, Same G G' ∧ Wd G' W H ∧ I i σ G' W
section
variable {K : PySem.W.Frag} {σ : L2.St} {H G : Hp} {W : Wl} {nx bk ct : L2.St → Hp → Prop} {rt : VK} {g : TG} {tb : TS} {a b : Addr} {xs ys : List V} {n : Nat}
theorem st_for {wi : TI} (h : wi σ H fun J H1 => LoopQ J g tb nx rt σ H1) : tFor wi g tb ⟨nx, rt, bk, ct⟩ σ H := h
theorem st_btw {I : Nat → L2.St → Hp → Wl → Prop} {G' : Hp} {i : Nat} (e : Same G G') (w : Wd G' W H) (h : I i σ G' W) : Btw I G i σ H := ⟨G', W, e, w, h⟩
theorem loop_go {J : It} {Gp : Hp → Prop} {Y : Nat → Hp → V → Hp → Prop} (wk : Walk J n Gp Y) (I : Nat → L2.St → Hp → Wl → Prop) (w : Wd G W H) (hG : ∀ G' W' H', Same G G' → Wd G' W' H' → Gp H') (h0 : I 0 σ G W)
    (hs : ∀ i x σ' G' W' H' H'', i < n → Same G G' → Wd G' W' H' → I i σ' G' W' → Y i H' x H'' → g x σ' H'' fun σ2 H2 => tb ⟨Btw I G (i + 1), rt, nx, Btw I G (i + 1)⟩ σ2 H2)
    (hd : ∀ σ' G' W' H', Same G G' → Wd G' W' H' → I n σ' G' W' → nx σ' H') : LoopQ J g tb nx rt σ H :=
  for_it (D := ⟨nx, rt, nx, nx⟩) wk (Btw I G) ⟨G, W, Same.refl _, w, h0⟩ (fun _ _ _ _ ⟨_, _, e, w', _⟩ => hG _ _ _ e w') (fun i x σ' H' H'' hi ⟨G', W', e, w', h⟩ y => hs i x σ' G' W' H' H'' hi e w' h y) fun σ' H' ⟨G', W', e, w', h⟩ => hd σ' G' W' H' e w' h
theorem seq_up (w : Wd G W H) (h : SqL K G a xs) : SqL K H a xs := w.ex.seq h
theorem tup_up (w : Wd G W H) (h : SqT K G a xs) : SqT K H a xs := seqT w.ex h
/-- for x in a list -/
theorem for_l (hx : SqL K G a xs) (I : Nat → L2.St → Hp → Wl → Prop) (w : Wd G W H) (h0 : I 0 σ G W)
    (hs : ∀ i x σ' G' W' H', xs[i]? = some x → Same G G' → Wd G' W' H' → I i σ' G' W' → g x σ' H' fun σ2 H2 => tb ⟨Btw I G (i + 1), rt, nx, Btw I G (i + 1)⟩ σ2 H2)
    (hd : ∀ σ' G' W' H', Same G G' → Wd G' W' H' → I xs.length σ' G' W' → nx σ' H') : ∃ a', V.ref a = .ref a' ∧ (∃ xs, SqL K H a' xs) ∧ LoopQ (Itl K a') g tb nx rt σ H :=
  ⟨a, rfl, ⟨xs, seq_up w hx⟩, loop_go walk_list I w (fun _ _ _ e w' => seq_up w' (e.seq hx)) h0 (fun i x σ' G' W' H' H'' _ e w' h y => by obtain ⟨rfl, y⟩ := y; exact hs i x σ' G' W' H'' y e w' h) hd⟩
/-- for x in a tuple -/
theorem for_t (hx : SqT K G a xs) (I : Nat → L2.St → Hp → Wl → Prop) (w : Wd G W H) (h0 : I 0 σ G W)
    (hs : ∀ i x σ' G' W' H', xs[i]? = some x → Same G G' → Wd G' W' H' → I i σ' G' W' → g x σ' H' fun σ2 H2 => tb ⟨Btw I G (i + 1), rt, nx, Btw I G (i + 1)⟩ σ2 H2)
    (hd : ∀ σ' G' W' H', Same G G' → Wd G' W' H' → I xs.length σ' G' W' → nx σ' H') : ∃ a', V.ref a = .ref a' ∧ (∃ xs, SqT K H a' xs) ∧ LoopQ (Itt K a') g tb nx rt σ H :=
  ⟨a, rfl, ⟨xs, tup_up w hx⟩, loop_go walk_tup I w (fun _ _ _ e w' => tup_up w' (seqT e hx)) h0 (fun i x σ' G' W' H' H'' _ e w' h y => by obtain ⟨rfl, y⟩ := y; exact hs i x σ' G' W' H'' y e w' h) hd⟩
/-- for i in range(n) -/
theorem for_r1 {z : Int} (hz : -(2 ^ 62) ≤ z ∧ z < 2 ^ 62) (I : Nat → L2.St → Hp → Wl → Prop) (w : Wd G W H) (h0 : I 0 σ G W)
    (hs : ∀ (i : Nat) σ' G' W' H', (i : Int) < z → Same G G' → Wd G' W' H' → I i σ' G' W' → g (.int (i : Int)) σ' H' fun σ2 H2 => tb ⟨Btw I G (i + 1), rt, nx, Btw I G (i + 1)⟩ σ2 H2)
    (hd : ∀ σ' G' W' H', Same G G' → Wd G' W' H' → I z.toNat σ' G' W' → nx σ' H') : ∃ j : Int, [V.int z] = [.int j] ∧ -(2 ^ 62) ≤ j ∧ j < 2 ^ 62 ∧ LoopQ (Itr 0 j.toNat) g tb nx rt σ H :=
  ⟨z, rfl, hz.1, hz.2, loop_go walk_range I w (fun _ _ _ _ _ => trivial) h0 (fun i x σ' G' W' H' H'' hi e w' h y => by
    obtain ⟨rfl, rfl⟩ := y
    have e0 : (0 : Int) + (i : Int) = (i : Int) := Int.zero_add _
    dsimp only
    rw [e0]
    exact hs i σ' G' W' H'' (by omega) e w' h) hd⟩
/-- for i in range(lo, hi) -/
theorem for_r2 {lo z : Int} (hz : -(2 ^ 62) ≤ lo ∧ lo < 2 ^ 62 ∧ -(2 ^ 62) ≤ z ∧ z < 2 ^ 62) (I : Nat → L2.St → Hp → Wl → Prop) (w : Wd G W H) (h0 : I 0 σ G W)
    (hs : ∀ (i : Nat) σ' G' W' H', lo + (i : Int) < z → Same G G' → Wd G' W' H' → I i σ' G' W' → g (.int (lo + (i : Int))) σ' H' fun σ2 H2 => tb ⟨Btw I G (i + 1), rt, nx, Btw I G (i + 1)⟩ σ2 H2)
    (hd : ∀ σ' G' W' H', Same G G' → Wd G' W' H' → I (z - lo).toNat σ' G' W' → nx σ' H') :
    ∃ i j : Int, [V.int lo, V.int z] = [.int i, .int j] ∧ (-(2 ^ 62) ≤ i ∧ i < 2 ^ 62 ∧ -(2 ^ 62) ≤ j ∧ j < 2 ^ 62) ∧ LoopQ (Itr i (j - i).toNat) g tb nx rt σ H :=
  ⟨lo, z, rfl, hz, loop_go walk_range I w (fun _ _ _ _ _ => trivial) h0 (fun i x σ' G' W' H' H'' hi e w' h y => by
    obtain ⟨rfl, rfl⟩ := y
    exact hs i σ' G' W' H'' (by omega) e w' h) hd⟩
/-- for i, x in enumerate(a list) -/
theorem for_enum (hx : SqL K G a xs) {i1 i2 : Nat} (I : Nat → L2.St → Hp → Wl → Prop) (w : Wd G W H) (h0 : I 0 σ G W)
    (hs : ∀ (i : Nat) x σ' G' G'' W' H', xs[i]? = some x → Same G G' → I i σ' G' W' → Same G' G'' → Wd G'' W' H' → tb ⟨Btw I G (i + 1), rt, nx, Btw I G (i + 1)⟩ ((σ'.set i1 (some (.int (i : Int)))).set i2 (some x)) H')
    (hd : ∀ σ' G' W' H', Same G G' → Wd G' W' H' → I xs.length σ' G' W' → nx σ' H') :
    ∃ a' ys, [V.ref a] = [.ref a'] ∧ SqL K H a' ys ∧ LoopQ (Ite K a') (gTup K 2 (gCons (gName i1) (gCons (gName i2) gNil))) tb nx rt σ H :=
  ⟨a, xs, rfl, seq_up w hx, loop_go walk_enum I w (fun _ _ _ e w' => seq_up w' (e.seq hx)) h0 (fun i x σ' G' W' H' H'' _ e w' h y => by
    obtain ⟨T, x1, x2, rfl, hn, rfl, e1, e2⟩ := y
    cases e1
    refine ⟨T, _, rfl, SqT.of upd_same, rfl, _, _, rfl, ?_⟩
    refine ⟨_, _, rfl, ?_⟩
    exact ⟨rfl, hs i x2 σ' G' _ W' _ e2 e h (same_upd (w'.free hn)) (w'.new hn)⟩) hd⟩
end

/-! ### comprehensions -/
def LcQ (J : It) (g : TG) (tt : TT) (te : TE) (vs : List Nat) (σ : L2.St) (H1 : Hp) (Q : VK) : Prop := ∀ D, H1 D = none → ∃ W : Nat → Nat → Hp → Prop, (∃ m, W 0 m (upd H1 D (.lst []))) ∧ ∀ i m H, W i m H →
  (J.stop i H ∧ Q (.ref D) H) ∨ (J.go i H ∧ ∃ Nx : Hp → Prop, (∀ H', Nx H' → ∃ m', m' < m ∧ W (i + 1) m' H') ∧ ∀ x H', J.yld i H x H' → g x (wipe σ vs) H' fun σ2 H2 => wipe σ2 vs = wipe σ vs ∧ tt σ2 H2 fun b H3 =>
    if b = true then te σ2 H3 fun y H4 => ∃ acc, H4 D = some (.lst acc) ∧ acc.length < sizeLine ∧ Nx (upd H4 D (.lst (acc ++ [y]))) else Nx H3)
/-- what holds between two turns: the new list at D holds acc -/
def LcB (I : Nat → List V → Hp → Prop) (G : Hp) (W : Wl) (D : Addr) (i : Nat) : Hp → Prop := fun H => ∃ G' acc, Same G G' ∧ Wd G' ((D, Is (.lst acc)) :: W) H ∧ I i acc G'
section
variable {K : PySem.W.Frag} {σ : L2.St} {H G : Hp} {W : Wl} {D : Addr} {g : TG} {tt : TT} {te : TE} {vs : List Nat} {Q : VK} {a b : Addr} {xs ys : List V} {n : Nat}
theorem st_lc {wi : TI} (h : wi σ H fun J H1 => LcQ J g tt te vs σ H1 Q) : tLc wi g tt te vs σ H Q := h
theorem st_yes {QT : Bool → Hp → Prop} (q : QT true H) : tYes σ H QT := q
/-- an element is put -/
theorem lc_put {I : Nat → List V → Hp → Prop} {G' : Hp} {i : Nat} {acc : List V} {y : V} (w : Wd G' ((D, Is (.lst acc)) :: W) H) (e : Same G G') (hl : acc.length < 1000000) (h : I i (acc ++ [y]) G') :
    ∃ acc, H D = some (.lst acc) ∧ acc.length < sizeLine ∧ LcB I G W D i (upd H D (.lst (acc ++ [y]))) := by
  obtain ⟨o, ho, rfl⟩ := w.get List.mem_cons_self
  exact ⟨acc, ho, small' (Nat.le_of_lt hl), G', acc ++ [y], e, Wd.put (W1 := []) w rfl, h⟩
theorem lc_skip {I : Nat → List V → Hp → Prop} {G' : Hp} {i : Nat} {acc : List V} (w : Wd G' ((D, Is (.lst acc)) :: W) H) (e : Same G G') (h : I i acc G') : LcB I G W D i H := ⟨G', acc, e, w, h⟩
theorem lc_go {J : It} {Gp : Hp → Prop} {Y : Nat → Hp → V → Hp → Prop} (wk : Walk J n Gp Y) (I : Nat → List V → Hp → Prop) (w : Wd G W H) (hG : ∀ G' W' H', Same G G' → Wd G' W' H' → Gp H') (h0 : I 0 [] G)
    (hs : ∀ i x D G' H' H'' acc, i < n → Same G G' → Wd G' ((D, Is (.lst acc)) :: W) H' → I i acc G' → Y i H' x H'' → g x (wipe σ vs) H'' fun σ2 H2 => wipe σ2 vs = wipe σ vs ∧ tt σ2 H2 fun b H3 =>
      if b = true then te σ2 H3 fun y H4 => ∃ acc, H4 D = some (.lst acc) ∧ acc.length < sizeLine ∧ LcB I G W D (i + 1) (upd H4 D (.lst (acc ++ [y]))) else LcB I G W D (i + 1) H3)
    (hd : ∀ D G' H' acc, Same G G' → Wd G' ((D, Is (.lst acc)) :: W) H' → I n acc G' → Q (.ref D) H') : LcQ J g tt te vs σ H Q := fun D hD =>
  lc_it wk (LcB I G W D) ⟨G, [], Same.refl _, w.newM hD rfl, h0⟩ (fun _ _ _ ⟨_, _, e, w', _⟩ => hG _ _ _ e w') (fun i x H' H'' hi ⟨G', acc, e, w', h⟩ y => hs i x D G' H' H'' acc hi e w' h y) fun H' ⟨G', acc, e, w', h⟩ => hd D G' H' acc e w' h
/-- [.. for i in range(z)], the variable at slot j -/
theorem lc_r1 {z : Int} {j : Nat} (hz : -(2 ^ 62) ≤ z ∧ z < 2 ^ 62) (I : Nat → List V → Hp → Prop) (w : Wd G W H) (h0 : I 0 [] G) (hw : ∀ x, wipe ((wipe σ vs).set j x) vs = wipe σ vs)
    (hs : ∀ (i : Nat) D G' H' acc, (i : Int) < z → Same G G' → Wd G' ((D, Is (.lst acc)) :: W) H' → I i acc G' → tt ((wipe σ vs).set j (some (.int (i : Int)))) H' fun b H3 =>
      if b = true then te ((wipe σ vs).set j (some (.int (i : Int)))) H3 fun y H4 => ∃ acc, H4 D = some (.lst acc) ∧ acc.length < sizeLine ∧ LcB I G W D (i + 1) (upd H4 D (.lst (acc ++ [y]))) else LcB I G W D (i + 1) H3)
    (hd : ∀ D G' H' acc, Same G G' → Wd G' ((D, Is (.lst acc)) :: W) H' → I z.toNat acc G' → Q (.ref D) H') : ∃ j' : Int, [V.int z] = [.int j'] ∧ -(2 ^ 62) ≤ j' ∧ j' < 2 ^ 62 ∧ LcQ (Itr 0 j'.toNat) (gName j) tt te vs σ H Q :=
  ⟨z, rfl, hz.1, hz.2, lc_go walk_range I w (fun _ _ _ _ _ => trivial) h0 (fun i x D G' H' H'' acc hi e w' h y => by
    obtain ⟨rfl, rfl⟩ := y
    have e0 : (0 : Int) + (i : Int) = (i : Int) := Int.zero_add _
    dsimp only
    rw [e0]
    exact ⟨hw _, hs i D G' H'' acc (by omega) e w' h⟩) hd⟩
/-- [.. for x in a list] -/
theorem lc_l {j : Nat} (hx : SqL K G a xs) (I : Nat → List V → Hp → Prop) (w : Wd G W H) (h0 : I 0 [] G) (hw : ∀ x, wipe ((wipe σ vs).set j x) vs = wipe σ vs)
    (hs : ∀ (i : Nat) x D G' H' acc, xs[i]? = some x → Same G G' → Wd G' ((D, Is (.lst acc)) :: W) H' → I i acc G' → tt ((wipe σ vs).set j (some x)) H' fun b H3 =>
      if b = true then te ((wipe σ vs).set j (some x)) H3 fun y H4 => ∃ acc, H4 D = some (.lst acc) ∧ acc.length < sizeLine ∧ LcB I G W D (i + 1) (upd H4 D (.lst (acc ++ [y]))) else LcB I G W D (i + 1) H3)
    (hd : ∀ D G' H' acc, Same G G' → Wd G' ((D, Is (.lst acc)) :: W) H' → I xs.length acc G' → Q (.ref D) H') : ∃ a', V.ref a = .ref a' ∧ (∃ xs, SqL K H a' xs) ∧ LcQ (Itl K a') (gName j) tt te vs σ H Q :=
  ⟨a, rfl, ⟨xs, seq_up w hx⟩, lc_go walk_list I w (fun _ _ _ e w' => seq_up w' (e.seq hx)) h0 (fun i x D G' H' H'' acc _ e w' h y => by
    obtain ⟨rfl, y⟩ := y
    exact ⟨hw _, hs i x D G' H'' acc y e w' h⟩) hd⟩
end

/-! ### kinds of values -/
inductive Knd (K : PySem.W.Frag) (H : Hp) : V → Prop
  | int (i : Int) : Knd K H (.int i)
  | bl (b : Bool) : Knd K H (.bl b)
  | non : Knd K H .non
  | str (x : Str) : Knd K H (.str x)
  | lst {a : Addr} {xs : List V} (h : SqL K H a xs) : Knd K H (.ref a)
  | tup {a : Addr} {xs : List V} (h : SqT K H a xs) : Knd K H (.ref a)
  | dct {a : Addr} {kvs : List (Key × V)} (h : H a = some (.dK kvs)) : Knd K H (.ref a)
def isInt : V → Bool
  | .int _ => true
  | _ => false
def inRange (lo hi : Int) : V → Bool
  | .int i => decide (lo ≤ i) && decide (i ≤ hi)
  | _ => false
section
variable {K : PySem.W.Frag} {H : Hp} {x : V}
theorem tyL {a : Addr} {xs : List V} (h : SqL K H a xs) : TyX K H (.ref a) (.type "list") := by
  rcases h with (h | ⟨o, h⟩) | ⟨o, _, _, h, hc, _⟩
  · exact .base (.lst h)
  · exact .base (.frz h)
  · exact .kList h hc
theorem tyT {a : Addr} {xs : List V} (h : SqT K H a xs) : TyX K H (.ref a) (.type "tuple") := by
  rcases h with (h | ⟨o, h⟩) | ⟨o, _, _, h, hc, _⟩
  · exact .base (.tup h)
  · exact .fTuple h
  · exact .kTuple h hc
theorem Knd.ty (h : Knd K H x) : ∃ n b1 b2, TyX K H x (.type n) ∧ kitB n "int" = some b1 ∧ kitB n "bool" = some b2 ∧ isInt x = (b1 && !b2) := by
  cases h with
  | int i => exact ⟨"int", true, false, .base (.int i), by decide +kernel, by decide +kernel, rfl⟩
  | bl b => exact ⟨"bool", true, true, .base (.bl b), by decide +kernel, by decide +kernel, rfl⟩
  | non => exact ⟨"NoneType", false, false, .base .non, by decide +kernel, by decide +kernel, rfl⟩
  | str s => exact ⟨"str", false, false, .base (.str s), by decide +kernel, by decide +kernel, rfl⟩
  | lst h => exact ⟨"list", false, false, tyL h, by decide +kernel, by decide +kernel, rfl⟩
  | tup h => exact ⟨"tuple", false, false, tyT h, by decide +kernel, by decide +kernel, rfl⟩
  | dct h => exact ⟨"dict", false, false, .base (.dK h), by decide +kernel, by decide +kernel, rfl⟩
/-- isinstance(x, (list, tuple)) -/
def isSeq (K : PySem.W.Frag) (H : Hp) (x : V) : Prop := ∃ a xs, x = .ref a ∧ (SqL K H a xs ∨ SqT K H a xs)
theorem kB {a b : String} {r : Bool} {cs : List Value} {q : Bool} (h : kitB a b = some r) (hr : r = false → PySem.W.kitAny K (.type a) cs = some q) (hb : r = true → q = true) : PySem.W.kitAny K (.type a) (.type b :: cs) = some q := kitAny_cons (kit_ty h) hr hb
theorem kitLT_l : PySem.W.kitAny K (.type "list") [.type "list", .type "tuple"] = some true := kB (r := true) (by decide +kernel) (fun h => nomatch h) (fun _ => rfl)
theorem kitLT_t : PySem.W.kitAny K (.type "tuple") [.type "list", .type "tuple"] = some true := kB (r := false) (by decide +kernel) (fun _ => kB (r := true) (by decide +kernel) (fun h => nomatch h) (fun _ => rfl)) (fun h => nomatch h)
theorem isiSeq {Q : VK} {a p : Addr} {xs : List V} (hp : H p = some (.tup [.ty "list", .ty "tuple"])) (h : SqL K H a xs ∨ SqT K H a xs) (q : Q (.bl true) H) : rIsiT K [.ref a, .ref p] H Q := by
  rcases h with h | h
  · exact ⟨_, p, _, _, _, true, rfl, hp, .cons (.ty _) (.cons (.ty _) .nil), tyL h, kitLT_l, q⟩
  · exact ⟨_, p, _, _, _, true, rfl, hp, .cons (.ty _) (.cons (.ty _) .nil), tyT h, kitLT_t, q⟩
end

section
variable {K : PySem.W.Frag} {σ : L2.St} {H : Hp} {ta : TA} {tl : TE} {R : It → Hp → Prop}
theorem st_iEnum (h : ta σ H fun vs H1 => ∃ a xs, vs = [.ref a] ∧ SqL K H1 a xs ∧ R (Ite K a) H1) : iEnum K ta σ H R := h
theorem st_iList (h : tl σ H fun x H1 => ∃ a, x = .ref a ∧ (∃ xs, SqL K H1 a xs) ∧ R (Itl K a) H1) : iList K tl σ H R := h
theorem st_iTup (h : tl σ H fun x H1 => ∃ a, x = .ref a ∧ (∃ xs, SqT K H1 a xs) ∧ R (Itt K a) H1) : iTup K tl σ H R := h
theorem st_iR1 (h : ta σ H fun vs H1 => ∃ j : Int, vs = [.int j] ∧ -(2 ^ 62) ≤ j ∧ j < 2 ^ 62 ∧ R (Itr 0 j.toNat) H1) : iRng1 ta σ H R := h
theorem st_iR2 (h : ta σ H fun vs H1 => ∃ i j : Int, vs = [.int i, .int j] ∧ (-(2 ^ 62) ≤ i ∧ i < 2 ^ 62 ∧ -(2 ^ 62) ≤ j ∧ j < 2 ^ 62) ∧ R (Itr i (j - i).toNat) H1) : iRng2 ta σ H R := h
end

theorem atUp {G G' : Hp} {a : Addr} {o : HO} (e : Same G G') (h : G a = some o) : G' a = some o := e _ _ h
theorem hUp {G H : Hp} {W : Wl} {a : Addr} {o : HO} (w : Wd G W H) (h : G a = some o) : H a = some o := w.ex _ _ h
theorem dUp {K : PySem.W.Frag} {G H : Hp} {W : Wl} {v : V} {d : PyData} (w : Wd G W H) (h : Dp K G v d) : Dp K H v d := dmono w.ex h
theorem getI {ns : List Int} {i : Nat} {x : V} (h : (ns.map V.int)[i]? = some x) : ∃ n, ns[i]? = some n ∧ x = V.int n ∧ n ∈ ns := by
  rw [List.getElem?_map] at h
  obtain ⟨n, hn, e⟩ := Option.map_eq_some_iff.mp h
  exact ⟨n, hn, e.symm, List.mem_of_getElem? hn⟩

section
variable {K : PySem.W.Frag} {σ : L2.St} {H : Hp} {Q : VK} {QS : L2.St → Hp → Prop} {to ti : TE} {v x : V} {xs : List V} {a : Addr}
theorem st_gsub {t : TSet} (h : to σ H fun o H1 => ti σ H1 fun i H2 => t o i v H2 fun H3 => QS σ H3) : gSub to ti t v σ H QS := h
/-- xs[i] -/
theorem st_ixL {i : Int} (h : SqL K H a xs) (hv : atI xs i = some v) (q : Q v H) : rIxL K (.ref a) (.int i) H Q := ⟨a, xs, i, v, rfl, rfl, h, hv, q⟩
theorem st_ixT {i : Int} (h : SqT K H a xs) (hv : atI xs i = some v) (q : Q v H) : rIxT K (.ref a) (.int i) H Q := ⟨a, xs, i, v, rfl, rfl, h, hv, q⟩
theorem st_setL {i : Int} {j : Nat} {Q : Hp → Prop} (h : H a = some (.lst xs)) (hj : ixN xs.length i = some j) (q : Q (upd H a (.lst (xs.set j v)))) : rSetL (.ref a) (.int i) v H Q := ⟨a, xs, i, j, rfl, rfl, h, hj, q⟩
end

section
variable {K : PySem.W.Frag} {σ : L2.St} {H : Hp} {Q : VK} {to te : TE} {t : TA} {T : String} {r : V → List V → Hp → VK → Prop} {xs : List V} {a : Addr}
theorem st_bm (h : to σ H fun x H1 => tyV K T x H1 ∧ t σ H1 fun xs H2 => r x xs H2 Q) : tBM K T r to t σ H Q := h
theorem st_bm0 (h : to σ H fun x H1 => tyV K T x H1 ∧ r x [] H1 Q) : tBM0 K T r to σ H Q := h
theorem tyL' (h : H a = some (.lst xs)) : tyV K "list" (.ref a) H := Or.inl ⟨rfl, _, SqL.of h⟩
theorem map_ins (ns : List Int) (i : Nat) (n : Int) : (ns.map V.int).take i ++ [V.int n] ++ (ns.map V.int).drop i = (ns.take i ++ [n] ++ ns.drop i).map V.int := by simp [List.map_take, List.map_drop]
theorem map_set' (ns : List Int) (i : Nat) (n : Int) : (ns.map V.int).set i (V.int n) = (ns.set i n).map V.int := by simp [List.map_set]
theorem atI_map {ns : List Int} {i : Int} (h0 : 0 ≤ i) (h1 : i < ns.length) : ∃ n, atI (ns.map V.int) i = some (V.int n) ∧ n ∈ ns ∧ ns[i.toNat]? = some n := by
  obtain ⟨n, hn⟩ : ∃ n, ns[i.toNat]? = some n := ⟨_, List.getElem?_eq_getElem (by omega)⟩
  refine ⟨n, ?_, List.mem_of_getElem? hn, hn⟩
  have e : i = (i.toNat : Int) := by omega
  rw [e]
  exact atI_nat (by rw [List.getElem?_map, hn]; rfl)
theorem ixN_of {n : Nat} {i : Int} (h0 : 0 ≤ i) (h1 : i < n) : ixN n i = some i.toNat := by
  unfold ixN
  rw [if_pos h0, if_pos h1]
end

theorem st_cut {t u : TS} {nx bk ct : L2.St → Hp → Prop} {rt : VK} {σ : L2.St} {H : Hp} (M : L2.St → Hp → Prop) (h : t ⟨M, rt, bk, ct⟩ σ H) (k : ∀ σ' H', M σ' H' → u ⟨nx, rt, bk, ct⟩ σ' H') : C8.tCut t u ⟨nx, rt, bk, ct⟩ σ H := ⟨M, h, k⟩
section
variable {K : PySem.W.Frag} {H : Hp}
def dI (ns : List Int) : PyData := .list (ns.map .int)
theorem dpInts : ∀ ns : List Int, DpAll K H (ns.map V.int) (ns.map PyData.int)
  | [] => .nil
  | n :: ns => .cons (.int n) (dpInts ns)
theorem dp_ints {a : Addr} {ns : List Int} (h : SqL K H a (ns.map V.int)) : Dp K H (.ref a) (dI ns) := .lst h (dpInts ns)
/-- data that may be compared: of a depth up to n -/
def Sh (n : Nat) (d : PyData) : Prop := d.canLay0 = true ∧ d.depth ≤ n
theorem sh_all {n : Nat} : ∀ {ds : List PyData}, (∀ d ∈ ds, Sh n d) → PyData.canLayAll0 ds = true ∧ PyData.depthAll ds ≤ n
  | [], _ => ⟨rfl, Nat.zero_le _⟩
  | d :: ds, h => by
    obtain ⟨a1, a2⟩ := h d List.mem_cons_self
    obtain ⟨b1, b2⟩ := sh_all (ds := ds) fun x hx => h x (List.mem_cons_of_mem _ hx)
    refine ⟨?_, ?_⟩
    · unfold PyData.canLayAll0
      rw [a1, b1]
      rfl
    · unfold PyData.depthAll
      exact Nat.max_le.mpr ⟨a2, b2⟩
theorem Sh.list {n : Nat} {ds : List PyData} (h : ∀ d ∈ ds, Sh n d) : Sh (n + 1) (.list ds) := by
  obtain ⟨a, b⟩ := sh_all h
  exact ⟨by unfold PyData.canLay0; exact a, by unfold PyData.depth; exact Nat.succ_le_succ b⟩
theorem Sh.tuple {n : Nat} {ds : List PyData} (h : ∀ d ∈ ds, Sh n d) : Sh (n + 1) (.tuple ds) := by
  obtain ⟨a, b⟩ := sh_all h
  exact ⟨by unfold PyData.canLay0; exact a, by unfold PyData.depth; exact Nat.succ_le_succ b⟩
theorem Sh.int {n : Nat} (i : Int) : Sh n (.int i) := ⟨by unfold PyData.canLay0; rfl, by unfold PyData.depth; exact Nat.zero_le _⟩
theorem Sh.bool {n : Nat} (i : Bool) : Sh n (.bool i) := ⟨by unfold PyData.canLay0; rfl, by unfold PyData.depth; exact Nat.zero_le _⟩
theorem Sh.none {n : Nat} : Sh n .none := ⟨by unfold PyData.canLay0; rfl, by unfold PyData.depth; exact Nat.zero_le _⟩
theorem Sh.ok {n : Nat} {d : PyData} (h : Sh n d) (hn : n ≤ 64) : SeqAt.shaped d = true := by
  unfold SeqAt.shaped
  rw [h.1, decide_eq_true (Nat.le_trans h.2 hn)]
  rfl
theorem sh_ints (ns : List Int) : Sh 1 (dI ns) := Sh.list fun d hd => by
  obtain ⟨n, _, rfl⟩ := List.mem_map.mp hd
  exact .int n
theorem eqvAll_map {α : Type} [DecidableEq α] (f : α → PyData) (h : ∀ x y, PyData.eqv (f x) (f y) = decide (x = y)) : ∀ xs ys : List α, PyData.eqvAll (xs.map f) (ys.map f) = decide (xs = ys)
  | [], [] => by simp [PyData.eqvAll]
  | [], _ :: _ => by simp [PyData.eqvAll]
  | _ :: _, [] => by simp [PyData.eqvAll]
  | x :: xs, y :: ys => by
    rw [List.map_cons, List.map_cons, PyData.eqvAll, h, eqvAll_map f h xs ys]
    by_cases e1 : x = y <;> by_cases e2 : xs = ys <;> simp [e1, e2]
theorem eqv_int (a b : Int) : PyData.eqv (.int a) (.int b) = decide (a = b) := by
  unfold PyData.eqv
  by_cases e : a = b <;> simp [e]
theorem eqv_dI (a b : List Int) : PyData.eqv (dI a) (dI b) = decide (a = b) := by
  unfold dI PyData.eqv
  exact eqvAll_map _ eqv_int a b
/-- xs == ys of data -/
theorem st_eqD {Q : VK} {x y : V} {d e : PyData} {b : Bool} (hx : Dp K H x d) (hy : Dp K H y e) (sx : SeqAt.shaped d = true) (sy : SeqAt.shaped e = true) (hb : PyData.eqv d e = b) (q : Q (.bl b) H) : rEqD K x y H Q := ⟨d, e, hx, hy, sx, sy, by rw [hb]; exact q⟩
theorem st_neD {Q : VK} {x y : V} {d e : PyData} {b : Bool} (hx : Dp K H x d) (hy : Dp K H y e) (sx : SeqAt.shaped d = true) (sy : SeqAt.shaped e = true) (hb : PyData.eqv d e = b) (q : Q (.bl (!b)) H) : rNeD K x y H Q := ⟨d, e, hx, hy, sx, sy, by rw [hb]; exact q⟩
/-- lists of ints -/
theorem st_eqI {Q : VK} {a b : Addr} {xs ys : List Int} (hx : SqL K H a (xs.map V.int)) (hy : SqL K H b (ys.map V.int)) (q : Q (.bl (decide (xs = ys))) H) : rEqD K (.ref a) (.ref b) H Q :=
  st_eqD (dp_ints hx) (dp_ints hy) ((sh_ints xs).ok (by decide)) ((sh_ints ys).ok (by decide)) (eqv_dI xs ys) q
theorem st_neI {Q : VK} {a b : Addr} {xs ys : List Int} (hx : SqL K H a (xs.map V.int)) (hy : SqL K H b (ys.map V.int)) (q : Q (.bl (!decide (xs = ys))) H) : rNeD K (.ref a) (.ref b) H Q :=
  st_neD (dp_ints hx) (dp_ints hy) ((sh_ints xs).ok (by decide)) ((sh_ints ys).ok (by decide)) (eqv_dI xs ys) q
end

theorem st_ifV {σ : L2.St} {H : Hp} {Q : VK} {tt : TT} {ta tb : TE} (v : V) (c : Bool) (ht : ∀ QT : Bool → Hp → Prop, QT c H → tt σ H QT) (h1 : c = true → ∀ Q : VK, Q v H → ta σ H Q) (h2 : c = false → ∀ Q : VK, Q v H → tb σ H Q) (q : Q v H) : tIf tt ta tb σ H Q :=
  ht _ (by
    cases c with
    | true => exact iteT (h1 rfl Q q)
    | false => exact iteF (h2 rfl Q q))
theorem ne_self (v : V) : (!decide (v = v)) = false := by rw [decide_eq_true rfl]; rfl
theorem eq_self' (v : V) : decide (v = v) = true := decide_eq_true rfl
end Z

/-! enumerate of a tuple -/
namespace PySem
open AutoSeq1 (wpAny_loadPart')
theorem zEnumNew (l : Addr) (its : Array Value) (n : Nat) (dd : Option Addr) (sl : Array (Option Value)) :
    Meets (Builtin.«enumerate.__new__» ⟨[.type "enumerate", .ref l], []⟩) (fun _ R s => s.heap.get? l = some { cls := .type "tuple", dict := dd, data := .seq its n, slots := sl } ∧
      R (.ok (.ret (.ref (s.heap.push { cls := .type "tuple_iterator", data := .fields #[.ref l, .int 0 0] }).objs.size)))
        { s with heap := (s.heap.push { cls := .type "tuple_iterator", data := .fields #[.ref l, .int 0 0] }).push { cls := .type "enumerate", data := .fields #[.none, .bool false, .ref s.heap.objs.size, rawInt 0, .none, .none] } }) :=
  .of_wp fun prog w A R s q => by
    obtain ⟨hp, g, d, tk, os⟩ := s
    obtain ⟨hl, hR⟩ := q
    have hsub := sub_enumerate
    have hT : Heap.IsTuple (Shared.heap ⟨hp, g, d, tk, os⟩) l its := ⟨_, hl, rfl, n, rfl⟩
    wp_walk using wpAny_loadPart' hl
    refine wpAny_stack_any fun st => wpAny_pure ?_
    split
    · rename_i c _ _ _ _ _
      cases (c == Value.type "enumerate") <;> (wp_walk using wpAny_loadPart' hl, wpAny_pyIter_tuple hT; exact ⟨_, rfl, hR⟩)
    · wp_walk using wpAny_loadPart' hl, wpAny_pyIter_tuple hT
      exact ⟨_, rfl, hR⟩
theorem zEnumCall {prog : Program} {w : World} {A : Around} {E : Value → Shared → Prop} {s : Shared} {l : Addr} {its : Array Value} {Q : Value → Shared → Prop} (hT : s.heap.IsTuple l its)
    (k : ∀ h', IsEnum h' (s.heap.objs.size + 1) s.heap.objs.size 0 .none → h'.IsTupleIter s.heap.objs.size l 0 → h'.objs.size = s.heap.objs.size + 2 → (∀ b o, s.heap.get? b = some o → h'.get? b = some o) →
      Q (.ref (s.heap.objs.size + 1)) { s with heap := h' }) : wpAny (model prog w) A (call (.type "enumerate") [.ref l]) Q E s := by
  obtain ⟨⟨c, dd, dt, sl⟩, hl, hc, n, hd⟩ := hT
  obtain rfl : c = .type "tuple" := hc
  obtain rfl : dt = .seq its n := hd
  refine callType_new F.called_enumerate (by decide) (F.typeCall_enumerate_1 _) (F.newCall_enumerate_1 _) (fun obj => F.args_object_init_2 obj _) F.entry_enumerate_new (zEnumNew l its n dd sl) ⟨hl, ?_⟩
  have hz : (s.heap.push { cls := .type "tuple_iterator", data := .fields #[.ref l, .int 0 0] }).objs.size = s.heap.objs.size + 1 := Heap.size_push ..
  show _ ∧ _
  rw [hz]
  have he : IsEnum ((s.heap.push { cls := .type "tuple_iterator", data := .fields #[.ref l, .int 0 0] }).push { cls := .type "enumerate", data := .fields #[.none, .bool false, .ref s.heap.objs.size, rawInt 0, .none, .none] })
      (s.heap.objs.size + 1) s.heap.objs.size 0 .none := hz ▸ Heap.get?_push_size _ rfl
  exact ⟨⟨_, he, rfl⟩, k _ he ⟨_, Heap.get?_push_of_some _ (Heap.get?_push_size _ rfl), rfl, rfl⟩ (by rw [Heap.size_push, hz]) fun b o x => Heap.get?_push_of_some _ (Heap.get?_push_of_some _ x)⟩
theorem zEnumEnd {prog : Program} {w : World} {A : Around} {E : Value → Shared → Prop} {s : Shared} {e it l : Addr} {i : Nat} {its : Array Value} {old : Value} {k : Int} {Q : Option Value → Shared → Prop} (hh : A.handled = none)
    (he : IsEnum s.heap e it k old) (hit : s.heap.IsTupleIter it l i) (hl : s.heap.IsTuple l its) (hx : its[i]? = none) (q : ∀ h', Heap.ExtBut it s.heap h' → Q none { s with heap := h' }) :
    wpAny (model prog w) A (pyNext (.ref e)) Q E s := by
  have ty : s.TypeIs (.ref e) "enumerate" := ⟨_, he, rfl⟩
  unfold pyNext
  refine wpAny_bind (wpAny_attempt (wpAny_callSpecial?_slot (name := Str.ofString "__next__") ty F.slot_enumerate_next (wpAny_call_entry F.slot_enumerate_next ty F.entry_enumerate_next ?_ (F.args_enumerate_next_1 _))))
  show wpAny _ _ (field (.ref e) 2 >>= _) _ _ _
  refine wpAny_bind (wpAny_field he rfl (x := .ref it) rfl (wpAny_bind (wpAny_nextOf_tuple_end hh hit hl hx fun h' x he' ⟨o, ho, hc⟩ => ?_)))
  exact wpAny_bind (wpAny_isInstance (T := "StopIteration") (b := true) ⟨o, ho, hc⟩ isSubtype_stop (wpAny_pure (q _ he')))
end PySem
namespace Z
open PySem PySem.Spec PyProof.Rows L2
def IteT (K : PySem.W.Frag) (a : Addr) : It :=
  ⟨fun i H => ∃ (xs : List V) (x : V), SqT K H a xs ∧ xs[i]? = some x, fun i H v H' => ∃ T x, v = .ref T ∧ H T = none ∧ H' = upd H T (.tup [.int (i : Nat), x]) ∧ ∀ xs, SqT K H a xs → xs[i]? = some x,
    fun i H => ∃ xs : List V, SqT K H a xs ∧ xs.length ≤ i⟩
theorem tup_ne {h : Heap} {a b : Addr} {its : Array Value} {o : Obj} {n : String} (p : IsTup h a its) (ho : h.get? b = some o) (hc : o.cls = .type n) (hn : n ≠ "tuple") : a ≠ b := fun z => by
  obtain ⟨o', e, c, _⟩ := p
  rw [z, ho] at e
  cases e
  rw [hc] at c
  exact hn (by injection c)
theorem turn_enumT {P : Program} {w : World} {K : PySem.W.Frag} {elts : List Expr} {kk : Nat} {tpos : Pos} (a e it : Addr) :
    Turn P w K (.Tuple elts kk tpos) (IteT K a) [e, it] e (fun i h => (∃ old, IsEnum h e it ((i : Nat) : Int) old) ∧ h.IsTupleIter it a i ∧ e ≠ it) where
  mem := List.mem_cons_self
  obj := fun i h st b hb => by
    obtain ⟨⟨old, he⟩, ⟨o, ho, hc, hd⟩, _⟩ := st
    rcases (show b = e ∨ b = it by simpa using hb) with z | z
    · exact z ▸ ⟨_, he, fun v q => nomatch q⟩
    · exact z ▸ ⟨o, ho, fun v q => by rw [hd] at q; cases q⟩
  keep := fun i h h' st k => let ⟨⟨old, he⟩, hi, hne⟩ := st; ⟨⟨old, k e List.mem_cons_self _ he⟩, hi.at fun o q => k it (by simp) o q, hne⟩
  item := by
    intro X hP hw hK hc i pins s σ H E I hf st hg
    cases hP; cases hw; cases hK
    obtain ⟨⟨old, he⟩, hit, hne⟩ := st
    obtain ⟨xs, x, hq, hx⟩ := hg
    obtain ⟨its, rv, p, hz⟩ := I.tuple hq
    obtain ⟨u, hu, ru⟩ := rv.get hx
    obtain ⟨oi, hoi, hci, _⟩ := id hit
    have nai : a ≠ it := tup_ne p hoi hci (by decide)
    have nae : a ≠ e := tup_ne p he rfl (by decide)
    have hel := Heap.lt_size he
    have hil := Heap.lt_size hoi
    have hlt : i < its.length := (List.getElem?_eq_some_iff.mp hu).1
    refine wpAny_pyNext_enum_itemD (Draws.tuple (A := X.A.in1) (I.ok.hd hc) it a nai its.toArray) he ⟨hit, p⟩ (by simpa using hlt) hne (by simp [hne, nae.symm]) fun v h' tk hv ho hst hT hsz hk => ?_
    obtain rfl : u = v := by
      have hv' : its[i]? = some v := by simpa using hv
      rw [hu] at hv'
      exact Option.some.inj hv'
    refine ⟨_, rfl, wpAny_letOwnedTupleGo_enum (s := { s with heap := h', toks := tk + 1 }) ho fun h'' he' sb => ?_⟩
    have hT2 := (sb.2 _ (Nat.ne_of_gt hel)).trans hT
    have new : ObjOk X.prog X.w (upd H s.heap.objs.size (.tup [.int (i : Nat), x])) h'' s.heap.objs.size (.tup [.int (i : Nat), x]) :=
      ⟨by show 2 ≤ sizeLine; decide, [.int i tk, u], .cons ⟨_, rfl⟩ (.cons ru .nil), ⟨_, hT2, rfl, _, rfl⟩⟩
    have I1 := I.turnedNew (t' := tk + 1) (ch := [e, it]) (fun b ob hb q => (sb.2 b (fun z => hb (by simp [z]))).trans (hk b ob (fun z => hb (by simp [z])) (fun z => hb (by simp [z])) q)) hf (Nat.le_refl _) new
    refine ⟨.ref s.heap.objs.size, _, I1, rfl, ⟨_, x, rfl, I.hok.fresh (Nat.le_refl _), rfl, fun ys hy => by rw [I.tuple_inj hy hq]; exact hx⟩, ⟨⟨u, ?_⟩, hst.1.at fun o q => (sb.2 it (Ne.symm hne)).trans q, hne⟩, fun b hb => ?_⟩
    · rw [show ((i + 1 : Nat) : Int) = (i : Int) + 1 by omega]
      exact he'
    · have hb' : b < s.heap.objs.size := by
        rcases (show b = e ∨ b = it by simpa using hb) with z | z
        · exact z ▸ hel
        · exact z ▸ hil
      rw [upd_ne (Nat.ne_of_lt hb')]
      exact (hf b hb).1
  done := by
    intro X hP hw hK hc i pins s σ H E I hf st hg
    cases hP; cases hw; cases hK
    obtain ⟨⟨old, he⟩, hit, hne⟩ := st
    obtain ⟨xs, hq, hx⟩ := hg
    obtain ⟨its, rv, p, hz⟩ := I.tuple hq
    obtain ⟨oi, hoi, hci, hdi⟩ := id hit
    have nai : a ≠ it := tup_ne p hoi hci (by decide)
    obtain ⟨f0, f1, f2, f3, f4, f5⟩ := hf it (by simp)
    have hl := rv.length
    exact zEnumEnd (I.ok.hd hc) he hit (show s.heap.IsTuple a its.toArray from p) (by simp; omega) fun h' eb => ⟨rfl, I.turned (t' := s.toks) (fun b o hb q => eb b o hb q) f0 f1 f3 f4 f5⟩
  self := fun A i s Q E st h => let ⟨⟨_, he⟩, _⟩ := st; wpAny_pyIter_enum he h

/-- enumerate of a list or of a tuple -/
def iEnumA (K : PySem.W.Frag) (ta : TA) : TI := fun σ H R => ta σ H fun vs H1 => ∃ a xs, vs = [.ref a] ∧ ((SqL K H1 a xs ∧ R (Ite K a) H1) ∨ (SqT K H1 a xs ∧ R (IteT K a) H1))
theorem pi_enumA {X : Cx} {e : Expr} {ta : TA} {p pos tpos : Pos} {elts : List Expr} {kk : Nat} (hg : Gl X "enumerate") (hm : X.mg "enumerate" = none) (ha : PA X [e] ta) (hs : starEach [e] X.env = [(false, eval e X.env)] := by rfl) :
    PI X (.Tuple elts kk tpos) (.Call (.Name "enumerate" p) [e] [] pos) (iEnumA X.K ta) := by
  refine ⟨fun pins s σ H R I h => Call_ (ld_blt I hg hm boot_enumerate (PyProof.Rows.callWith_type1 (thn (ha.run pos pins s σ H _ I h) fun us s1 ⟨vs, H1, I1, r1, a, xs, ex, hq⟩ => ?_) hs rfl))⟩
  subst ex
  cases r1 with
  | cons r rr =>
    cases rr
    cases r
    have fp : ∀ b ∈ [s1.heap.objs.size + 1, s1.heap.objs.size], FpOk X pins H1 b := fun b hb => by
      have hle : s1.heap.objs.size ≤ b := by
        rcases (show b = s1.heap.objs.size + 1 ∨ b = s1.heap.objs.size by simpa using hb) with z | z
        · exact z ▸ Nat.le_add_right _ _
        · exact z ▸ Nat.le_refl _
      exact I1.fpOk hle (I1.hok.fresh hle)
    rcases hq with ⟨hq, q⟩ | ⟨hq, q⟩
    · obtain ⟨its, rv, p', hz⟩ := I1.list hq
      refine call_enumerate_list p'.isList fun h' he hit hsz hk => wpAny_pyIter_enum he ?_
      exact ⟨s1.heap.objs.size + 1, _, _, _, H1, rfl, I1.kept (t' := s1.toks) hk, turn_enum a (s1.heap.objs.size + 1) s1.heap.objs.size, ⟨⟨.none, he⟩, hit, Nat.succ_ne_self _⟩, fp, q⟩
    · obtain ⟨its, rv, p', hz⟩ := I1.tuple hq
      refine zEnumCall (show s1.heap.IsTuple a its.toArray from p') fun h' he hit hsz hk => wpAny_pyIter_enum he ?_
      exact ⟨s1.heap.objs.size + 1, _, _, _, H1, rfl, I1.kept (t' := s1.toks) hk, turn_enumT a (s1.heap.objs.size + 1) s1.heap.objs.size, ⟨⟨.none, he⟩, hit, Nat.succ_ne_self _⟩, fp, q⟩
theorem walk_enumT {K : PySem.W.Frag} {a : Addr} {xs : List V} : Walk (IteT K a) xs.length (fun H => SqT K H a xs) (YPair (fun i => some (.int (i : Nat))) (fun i => xs[i]?)) :=
  ⟨fun i H hi g => ⟨xs, xs[i], g, by simp [hi]⟩, fun H g => ⟨xs, g, Nat.le_refl _⟩, fun i H x H' hi g y => by
    obtain ⟨T, z, e1, e2, e3, e4⟩ := y
    exact ⟨T, _, z, e1, e2, e3, rfl, e4 xs g⟩⟩
section
variable {K : PySem.W.Frag} {σ : L2.St} {H G : Hp} {W : Wl} {nx : L2.St → Hp → Prop} {rt : VK} {tb : TS} {a : Addr} {xs : List V} {ta : TA} {R : It → Hp → Prop}
theorem st_iEnumA (h : ta σ H fun vs H1 => ∃ a xs, vs = [.ref a] ∧ ((SqL K H1 a xs ∧ R (Ite K a) H1) ∨ (SqT K H1 a xs ∧ R (IteT K a) H1))) : iEnumA K ta σ H R := h
/-- for i, x in enumerate(a list or tuple) -/
theorem for_enumA (hx : SqL K G a xs ∨ SqT K G a xs) {i1 i2 : Nat} (I : Nat → L2.St → Hp → Wl → Prop) (w : Wd G W H) (h0 : I 0 σ G W)
    (hs : ∀ (i : Nat) x σ' G' G'' W' H', xs[i]? = some x → Same G G' → I i σ' G' W' → Same G' G'' → Wd G'' W' H' → tb ⟨Btw I G (i + 1), rt, nx, Btw I G (i + 1)⟩ ((σ'.set i1 (some (.int (i : Int)))).set i2 (some x)) H')
    (hd : ∀ σ' G' W' H', Same G G' → Wd G' W' H' → I xs.length σ' G' W' → nx σ' H') :
    ∃ a' ys, [V.ref a] = [.ref a'] ∧ ((SqL K H a' ys ∧ LoopQ (Ite K a') (gTup K 2 (gCons (gName i1) (gCons (gName i2) gNil))) tb nx rt σ H) ∨ (SqT K H a' ys ∧ LoopQ (IteT K a') (gTup K 2 (gCons (gName i1) (gCons (gName i2) gNil))) tb nx rt σ H)) := by
  have step : ∀ (i : Nat) (x : V) (σ' : L2.St) (G' : Hp) (W' : Wl) (H' H'' : Hp), i < xs.length → Same G G' → Wd G' W' H' → I i σ' G' W' → YPair (fun i => some (.int (i : Nat))) (fun i => xs[i]?) i H' x H'' →
      gTup K 2 (gCons (gName i1) (gCons (gName i2) gNil)) x σ' H'' fun σ2 H2 => tb ⟨Btw I G (i + 1), rt, nx, Btw I G (i + 1)⟩ σ2 H2 := fun i x σ' G' W' H' H'' _ e w' h y => by
    obtain ⟨T, x1, x2, rfl, hn, rfl, e1, e2⟩ := y
    cases e1
    refine ⟨T, _, rfl, SqT.of upd_same, rfl, _, _, rfl, ?_⟩
    refine ⟨_, _, rfl, ?_⟩
    exact ⟨rfl, hs i x2 σ' G' _ W' _ e2 e h (same_upd (w'.free hn)) (w'.new hn)⟩
  rcases hx with hx | hx
  · exact ⟨a, xs, rfl, .inl ⟨seq_up w hx, loop_go walk_enum I w (fun _ _ _ e w' => seq_up w' (e.seq hx)) h0 step hd⟩⟩
  · exact ⟨a, xs, rfl, .inr ⟨tup_up w hx, loop_go walk_enumT I w (fun _ _ _ e w' => tup_up w' (seqT e hx)) h0 step hd⟩⟩
end

/-! ### a list or a tuple -/
def iSeqA (K : PySem.W.Frag) (tl : TE) : TI := fun σ H R => iList K tl σ H R ∨ iTup K tl σ H R
theorem pi_seqA {X : Cx} {tg l : Expr} {tl : TE} (h : PE X l tl) : PI X tg l (iSeqA X.K tl) := ⟨fun pins s σ H R I q => q.elim (fun q => (pi_list h).run pins s σ H R I q) fun q => (pi_tup h).run pins s σ H R I q⟩
section
variable {K : PySem.W.Frag} {σ : L2.St} {H G : Hp} {W : Wl} {nx : L2.St → Hp → Prop} {rt : VK} {g : TG} {tb : TS} {a : Addr} {xs : List V} {tl : TE} {tt : TT} {te : TE} {vs : List Nat} {Q : VK} {j : Nat}
theorem for_seq (ht : ∀ Q : VK, Q (.ref a) H → tl σ H Q) (hx : SqL K G a xs ∨ SqT K G a xs) (I : Nat → L2.St → Hp → Wl → Prop) (w : Wd G W H) (h0 : I 0 σ G W)
    (hs : ∀ i x σ' G' W' H', xs[i]? = some x → Same G G' → Wd G' W' H' → I i σ' G' W' → g x σ' H' fun σ2 H2 => tb ⟨Btw I G (i + 1), rt, nx, Btw I G (i + 1)⟩ σ2 H2)
    (hd : ∀ σ' G' W' H', Same G G' → Wd G' W' H' → I xs.length σ' G' W' → nx σ' H') : iSeqA K tl σ H fun J H1 => LoopQ J g tb nx rt σ H1 := by
  rcases hx with hx | hx
  · exact .inl (st_iList (ht _ (for_l hx I w h0 hs hd)))
  · exact .inr (st_iTup (ht _ (for_t hx I w h0 hs hd)))
theorem lc_t (hx : SqT K G a xs) (I : Nat → List V → Hp → Prop) (w : Wd G W H) (h0 : I 0 [] G) (hw : ∀ x, wipe ((wipe σ vs).set j x) vs = wipe σ vs)
    (hs : ∀ (i : Nat) x D G' H' acc, xs[i]? = some x → Same G G' → Wd G' ((D, Is (.lst acc)) :: W) H' → I i acc G' → tt ((wipe σ vs).set j (some x)) H' fun b H3 =>
      if b = true then te ((wipe σ vs).set j (some x)) H3 fun y H4 => ∃ acc, H4 D = some (.lst acc) ∧ acc.length < sizeLine ∧ LcB I G W D (i + 1) (upd H4 D (.lst (acc ++ [y]))) else LcB I G W D (i + 1) H3)
    (hd : ∀ D G' H' acc, Same G G' → Wd G' ((D, Is (.lst acc)) :: W) H' → I xs.length acc G' → Q (.ref D) H') : ∃ a', V.ref a = .ref a' ∧ (∃ xs, SqT K H a' xs) ∧ LcQ (Itt K a') (gName j) tt te vs σ H Q :=
  ⟨a, rfl, ⟨xs, tup_up w hx⟩, lc_go walk_tup I w (fun _ _ _ e w' => tup_up w' (seqT e hx)) h0 (fun i x D G' H' H'' acc _ e w' h y => by
    obtain ⟨rfl, y⟩ := y
    exact ⟨hw _, hs i x D G' H'' acc y e w' h⟩) hd⟩
theorem lc_seq (ht : ∀ Q : VK, Q (.ref a) H → tl σ H Q) (hx : SqL K G a xs ∨ SqT K G a xs) (I : Nat → List V → Hp → Prop) (w : Wd G W H) (h0 : I 0 [] G) (hw : ∀ x, wipe ((wipe σ vs).set j x) vs = wipe σ vs)
    (hs : ∀ (i : Nat) x D G' H' acc, xs[i]? = some x → Same G G' → Wd G' ((D, Is (.lst acc)) :: W) H' → I i acc G' → tt ((wipe σ vs).set j (some x)) H' fun b H3 =>
      if b = true then te ((wipe σ vs).set j (some x)) H3 fun y H4 => ∃ acc, H4 D = some (.lst acc) ∧ acc.length < sizeLine ∧ LcB I G W D (i + 1) (upd H4 D (.lst (acc ++ [y]))) else LcB I G W D (i + 1) H3)
    (hd : ∀ D G' H' acc, Same G G' → Wd G' ((D, Is (.lst acc)) :: W) H' → I xs.length acc G' → Q (.ref D) H') : iSeqA K tl σ H fun J H1 => LcQ J (gName j) tt te vs σ H1 Q := by
  rcases hx with hx | hx
  · exact .inl (st_iList (ht _ (lc_l hx I w h0 hw hs hd)))
  · exact .inr (st_iTup (ht _ (lc_t hx I w h0 hw hs hd)))
end
end Z

/-! defs that ask what guards stand around them (repr of data) -/
namespace Z
open PySem PySem.Spec PyProof.Rows L2
/-- a promise kept where no guard stands around -/
structure FnG (P : Program) (w : World) (K : PySem.W.Frag) (mg : Str → Option Value) (base : Heap) (k : Nat) (f : Addr) (fd : FuncData) (ps : List Str) (sp : Sp) : Prop where
  len : ∀ vs H Q E, sp vs H Q E → vs.length = ps.length
  run : ∀ (A : Around) (outer : List Env) (s : Shared) (H : Hp) (args : Args) (us : List Value) (vs : List V) (Q : VK) (E : XK), Room k A → A.guards = some [] → Env0 P w K mg base A outer s H → BindsTo s fd args (ps.zip us) → Vals vs us → sp vs H Q E →
    codeAny (model P w) A (.call (.ref f) args) (CR CX0 outer P w H s Q E) s
theorem FnG.of {P : Program} {w : World} {K : PySem.W.Frag} {mg : Str → Option Value} {base : Heap} {k : Nat} {f : Addr} {fd : FuncData} {ps : List Str} {sp : Sp} (F : FnOk P w K mg base CX0 k f fd ps sp) : FnG P w K mg base k f fd ps sp :=
  ⟨F.len, fun A outer s H args us vs Q E hr _ e0 hb r h => F.run A outer s H args us vs Q E hr e0 hb r h⟩
section
variable {P : Program} {w : World} {K : PySem.W.Frag} {mg : Str → Option Value} {base : Heap} {x qual : Str} {params : Arguments} {body : List Stmt} {scope : Scope} {dvs : List V} {kws : List (Str × V)} {f : Addr} {fd : FuncData}
theorem okG {N ps : List Str} {k : Nat} {sp : Sp} (F : FunD K x qual params body scope dvs kws f fd) (S : FnScope N ps scope) (len : ∀ vs H Q E, sp vs H Q E → vs.length = ps.length)
    (hbody : ∀ (cdv : Value) (A : Around) (outer : List Env) (s : Shared) (H : Hp) (vs : List V) (Q : VK) (E : XK), A.guards = some [] → Room k (A.deeper (envOfC qual scope s.heap.objs.size f cdv)) → sp vs H Q E →
      ∃ t, PSs (cxOf CX0 P w K mg base N qual scope f cdv A outer s H E).nox body t ∧ t { nx := fun _ H' => Q .non H', rt := Q } (start N vs) H) : FnG P w K mg base (k + 1) f fd ps sp := by
  obtain ⟨oc, od, dV, kV, doc, pm, an, cdv, ct, osl, rfl, lk, hcd, _, _⟩ := F.ex
  refine ⟨len, fun A outer s H args us vs Q E hr hgd e0 hb r hsp => ?_⟩
  have KX : K.In s.heap := e0.mod.kin.keeps fun b o e => (e0.bs b o e).1
  have kd : ∀ y ∈ ps.zip us, scope.names.lookup y.1 = some .local ∨ (scope.names.lookup y.1 = some .cell ∧ ((cellsFrom (s.heap.objs.size + 1) scope.names []).lookup y.1).isSome = true) := fun y hy =>
    (S.par y.1 (List.of_mem_zip (a := y.1) (b := y.2) hy).1).imp (fun q => q) fun q => ⟨q, PySem.W.cellsFrom_some _ _ _ (.inl q)⟩
  refine codeAny_call_function hr.depth (KX _ _ lk) rfl S.co S.gen rfl (PySem.W.codeRec_of KX hcd) (hb _ _ _ _ (wpAny_newFunctionEnv_cells S.kind kd fun env he s1 y => ?_))
  cases he
  obtain ⟨t, ht, hq⟩ := hbody cdv A outer s H vs Q E hgd (hr.deeper _) hsp
  refine ⟨(e0.mod.nolimit.keeps fun b o e => (e0.bs b o e).1).keeps y.toInCall.keep, codeAny_func (wpAny_mono (ht.nox.run [] s1 (start N vs) H _ (inv_start S hr.hd e0 (len _ _ _ _ hsp) r y) hq) (fun fl s' hs => ?_) fun e s' hs => hs)⟩
  cases fl with
  | ret u => exact let ⟨v, _, H', J, rv, q⟩ := hs; ⟨v, H', J.os, J.bare, J.base, J.hok, rv, q⟩
  | next => exact let ⟨_, H', J, q⟩ := hs; ⟨.non, H', J.os, J.bare, J.base, J.hok, rfl, q⟩
  | brk => exact let ⟨_, _, _, q⟩ := hs; False.elim q
  | cont => exact let ⟨_, _, _, q⟩ := hs; False.elim q
end
section
variable {X : Cx} {k n : Nat} {f : Addr} {fd : FuncData} {ps ks : List Str} {ds : List Value} {dvs : List V} {sp : Sp} {E : XK} {x : Str} {p pos : Pos} {e : Expr} {es : List Expr} {kws : List Keyword} {t tk : TA} {g : List Value → List Value → List Value} {gV : List V → List V → List V}
theorem run_fnG {pins : List (Addr × Obj)} {σ : L2.St} {H : Hp} {s : Shared} {Q : VK} {us : List Value} {vs : List V} (F : FnG X.prog X.w X.K X.mg X.base k f fd ps sp) (hr : Room k X.A) (hgd : X.A.guards = some []) (hb : Binds X.K fd ps ds) (hd : Vals dvs ds)
    (I : Inv X pins σ H s) (r : Vals vs us) (h : sp (vs ++ dvs) H Q E) : wpAny (model X.prog X.w) X.A (call (.ref f) us) (EP X pins σ Q) X.xe s := by
  have r2 := r.append hd
  refine wpAny_call (codeAny_mono (F.run X.A X.stack s H ⟨us, []⟩ _ _ Q E hr hgd I.env0 (hb s us I.kIn (r2.length.symm.trans (F.len _ _ _ _ h))) r2 h) fun r s' hq => ?_)
  cases r with
  | error e => exact False.elim hq
  | ok fl => cases fl with
    | ret u => exact I.after hq
    | _ => exact False.elim hq
theorem pe_callG (F : FnG X.prog X.w X.K X.mg X.base k f fd ps sp) (hr : Room k X.A) (hgd : X.A.guards = some []) (hg : Gl X x) (hm : X.mg x = some (.ref f)) (hk : PySem.W.keepIn X.K (.ref f) = true) (hb : Binds X.K fd ps ds) (hd : Vals dvs ds)
    (ha : PA X (e :: es) t) (hdb : (x == ("__debug__" : Str)) = false := by decide) (he : starEach (e :: es) X.env = (false, eval e X.env) :: starEach es X.env := by rfl) (hpl : (backTo pos (starEach es X.env)).any (·.1) = false := by rfl) :
    PE X (.Call (.Name x p) (e :: es) [] pos) (tCall sp dvs E0 t) :=
  ⟨fun pins s σ H Q I h => wpAny_Call_Name_kw (ld_glob I hg hm (PySem.W.callWith_K (h₀ := X.base) I.ok.mod.kin hk (thn (ha.run pos pins _ σ H _ (I.tok _) h) fun us s1 ⟨vs, H1, I1, r, q⟩ => ⟨I1.kIn, run_fnG (E := E0) F hr hgd hb hd I1 r q⟩) he hpl) hdb)⟩
/-- repr of data -/
def rRepr (K : PySem.W.Frag) : List V → Hp → VK → Prop := fun xs H Q => ∃ x d, xs = [x] ∧ Dp K H x d ∧ d.showable = true ∧ d.canLay0 = true ∧ d.depth ≤ 60 ∧ d.shown.length ≤ sizeLine ∧ Q (.str d.shown) H
theorem call_reprD (hgd : X.A.guards = some []) (hu : X.A.units + 64 < cLine) : CallR X (.builtin "repr") (rRepr X.K) := by
  intro pins s σ H xs us Q I r h
  obtain ⟨x, d, rfl, hd, hs, hc, hp, hz, q⟩ := h
  obtain ⟨u, rfl, rx⟩ := vals1 r
  obtain ⟨as, rd⟩ := Dp.reads I d x u hd rx
  cases hd with
  | non =>
    cases rx
    exact PySem.P.repr_of_none ⟨.str _, H, I.tok _, ⟨_, rfl⟩, q⟩
  | bl b =>
    cases rx
    refine PySem.P.repr_of_bool ⟨.str _, H, I.tok _, ⟨_, rfl⟩, ?_⟩
    simpa [PyData.shown] using q
  | int i =>
    obtain ⟨t, rfl⟩ := rx
    refine PySem.P.repr_of_int (by simpa [PyData.showable] using hs) ⟨.str _, H, I.tok _, ⟨_, rfl⟩, ?_⟩
    simpa [PyData.shown] using q
  | str z =>
    obtain ⟨t, rfl⟩ := rx
    refine PySem.P.repr_of_str ⟨.str _, H, I.tok _, ⟨_, rfl⟩, ?_⟩ (by simpa [PyData.shown] using hz)
    simpa [PyData.shown] using q
  | lst _ _ =>
    cases rx
    exact repr_of_reads' rd hs (PyData.noDict_hsm (PyData.hasDict_of_canLay _ hc)) hgd (by omega) (fun _ _ e => e) (fun h' u tk hk => ⟨.str _, H, I.kept (t' := tk) hk, ⟨_, rfl⟩, q⟩) hz
  | tup _ _ =>
    cases rx
    exact repr_of_reads' rd hs (PyData.noDict_hsm (PyData.hasDict_of_canLay _ hc)) hgd (by omega) (fun _ _ e => e) (fun h' u tk hk => ⟨.str _, H, I.kept (t' := tk) hk, ⟨_, rfl⟩, q⟩) hz
end

/-! ### lists of ints put together -/
section
variable {K : PySem.W.Frag} {G H : Hp} {W : Wl} {Q : VK} {a b : Addr}
/-- a list of ints that stands whole -/
def HL (G : Hp) (a : Addr) (ns : List Int) : Prop := G a = some (.lst (ns.map V.int))
theorem HL.seq {ns : List Int} (h : HL G a ns) : SqL K G a (ns.map V.int) := SqL.of h
theorem HL.up {G' : Hp} {ns : List Int} (h : HL G a ns) (e : Same G G') : HL G' a ns := e _ _ h
theorem st_catI {xs ys : List Int} (ha : H a = some (.lst (xs.map V.int))) (hb : H b = some (.lst (ys.map V.int))) (hz : xs.length + ys.length ≤ 1000000) (w : Wd G W H) (k : ∀ p G' H', Same G G' → Wd G' W H' → HL G' p (xs ++ ys) → Q (.ref p) H') : rCat (.ref a) (.ref b) H Q := by
  refine ⟨a, b, _, _, rfl, rfl, ha, hb, small (by rw [List.length_map, List.length_map]; exact hz), fun p hp => ?_⟩
  rw [← List.map_append]
  exact k p _ _ (same_upd (w.free hp)) (w.new hp) upd_same
theorem st_catV {xs ys : List V} (ha : H a = some (.lst xs)) (hb : H b = some (.lst ys)) (hz : xs.length + ys.length ≤ 1000000) (w : Wd G W H) (k : ∀ p G' H', Same G G' → Wd G' W H' → G' p = some (.lst (xs ++ ys)) → Q (.ref p) H') : rCat (.ref a) (.ref b) H Q :=
  ⟨a, b, _, _, rfl, rfl, ha, hb, small hz, fun p hp => k p _ _ (same_upd (w.free hp)) (w.new hp) upd_same⟩
theorem flat_rep {α : Type} (n : Nat) (x : α) : (List.replicate n [x]).flatten = List.replicate n x := by
  induction n with
  | zero => rfl
  | succ n ih => rw [List.replicate_succ, List.flatten_cons, ih]; rfl
theorem st_repI {x k : Int} (ha : H a = some (.lst [.int x])) (h0 : 0 ≤ k) (h1 : k ≤ 1000000) (w : Wd G W H) (q : ∀ p G' H', Same G G' → Wd G' W H' → HL G' p (List.replicate k.toNat x) → Q (.ref p) H') : rRep (.ref a) (.int k) H Q := by
  refine ⟨a, k, _, rfl, rfl, ha, by omega, by omega, small (by simp; omega), fun p hp => ?_⟩
  rw [flat_rep]
  exact q p _ _ (same_upd (w.free hp)) (w.new hp) (by unfold HL; rw [upd_same, List.map_replicate])
theorem st_repI2 {xs : List Int} {k : Int} (ha : H a = some (.lst (xs.map V.int))) (h0 : 0 ≤ k) (h1 : xs.length * k.toNat ≤ 1000000) (h2 : k ≤ 1000000) (w : Wd G W H) (q : ∀ p G' H', Same G G' → Wd G' W H' → HL G' p (List.replicate k.toNat xs).flatten → Q (.ref p) H') : rRep (.ref a) (.int k) H Q := by
  refine ⟨a, k, _, rfl, rfl, ha, by omega, by omega, small (by rw [List.length_map]; exact h1), fun p hp => ?_⟩
  exact q p _ _ (same_upd (w.free hp)) (w.new hp) (by unfold HL; rw [upd_same, List.map_flatten, List.map_replicate])
theorem iteBT {c : Bool} {a b : Prop} (h : c = true) (q : a) : if c = true then a else b := by rw [if_pos h]; exact q
theorem iteBF {c : Bool} {a b : Prop} (h : c = false) (q : b) : if c = true then a else b := by rw [h]; exact L2.iteF q
theorem iteNT {a b : Prop} (h : a) : if (!false) = true then a else b := L2.iteT h
theorem iteNF {a b : Prop} (h : b) : if (!true) = true then a else b := L2.iteF h
theorem mem_two {v x y : V} {P : V → Prop} (h : v ∈ [x, y]) (h1 : P x) (h2 : P y) : P v := by
  rcases List.mem_cons.mp h with rfl | h
  · exact h1
  · rcases List.mem_cons.mp h with rfl | h
    · exact h2
    · exact nomatch h
end
section
variable {K : PySem.W.Frag} {H : Hp}
def dT (ns : List Int) : PyData := .tuple (ns.map .int)
theorem dp_tints {a : Addr} {ns : List Int} (h : SqT K H a (ns.map V.int)) : Dp K H (.ref a) (dT ns) := .tup h (dpInts ns)
theorem sh_tints (ns : List Int) : Sh 1 (dT ns) := Sh.tuple fun d hd => by
  obtain ⟨n, _, rfl⟩ := List.mem_map.mp hd
  exact .int n
theorem eqv_dT (a b : List Int) : PyData.eqv (dT a) (dT b) = decide (a = b) := by
  unfold dT PyData.eqv
  exact eqvAll_map _ eqv_int a b
/-- tuples of ints -/
theorem st_eqT {Q : VK} {a b : Addr} (xs ys : List Int) (hx : SqT K H a (xs.map V.int)) (hy : SqT K H b (ys.map V.int)) (q : Q (.bl (decide (xs = ys))) H) : rEqD K (.ref a) (.ref b) H Q :=
  st_eqD (dp_tints hx) (dp_tints hy) ((sh_tints xs).ok (by decide)) ((sh_tints ys).ok (by decide)) (eqv_dT xs ys) q
theorem st_neT {Q : VK} {a b : Addr} (xs ys : List Int) (hx : SqT K H a (xs.map V.int)) (hy : SqT K H b (ys.map V.int)) (q : Q (.bl (!decide (xs = ys))) H) : rNeD K (.ref a) (.ref b) H Q :=
  st_neD (dp_tints hx) (dp_tints hy) ((sh_tints xs).ok (by decide)) ((sh_tints ys).ok (by decide)) (eqv_dT xs ys) q
end
/-- all of a list -/
def AllP {α : Type} (P : α → Prop) : List α → Prop
  | [] => True
  | x :: xs => P x ∧ AllP P xs
theorem AllP.app {α : Type} {P : α → Prop} : ∀ {xs ys : List α}, AllP P xs → AllP P ys → AllP P (xs ++ ys)
  | [], _, _, h => h
  | _ :: _, _, h, h2 => ⟨h.1, AllP.app h.2 h2⟩
theorem AllP.of {α : Type} {P : α → Prop} : ∀ {xs : List α}, AllP P xs → ∀ x ∈ xs, P x
  | _ :: _, h, _, hx => by
    rcases List.mem_cons.mp hx with rfl | hx
    · exact h.1
    · exact AllP.of h.2 _ hx
/-! ### comprehensions whose elements change what may change -/
section
variable {K : PySem.W.Frag} {σ : L2.St} {H G : Hp} {D : Addr} {g : TG} {tt : TT} {te : TE} {vs : List Nat} {Q : VK} {a b : Addr} {xs ys : List V} {n : Nat}
theorem lc_goW {J : It} {Gp : Hp → Prop} {Y : Nat → Hp → V → Hp → Prop} (wk : Walk J n Gp Y) (Wf : Nat → Wl) (I : Nat → List V → Hp → Prop) (w : Wd G (Wf 0) H) (hG : ∀ G' W' H', Same G G' → Wd G' W' H' → Gp H') (h0 : I 0 [] G)
    (hs : ∀ i x D G' H' H'' acc, i < n → Same G G' → Wd G' ((D, Is (.lst acc)) :: Wf i) H' → I i acc G' → Y i H' x H'' → g x (wipe σ vs) H'' fun σ2 H2 => wipe σ2 vs = wipe σ vs ∧ tt σ2 H2 fun b H3 =>
      if b = true then te σ2 H3 fun y H4 => ∃ acc, H4 D = some (.lst acc) ∧ acc.length < sizeLine ∧ LcB I G (Wf (i + 1)) D (i + 1) (upd H4 D (.lst (acc ++ [y]))) else LcB I G (Wf (i + 1)) D (i + 1) H3)
    (hd : ∀ D G' H' acc, Same G G' → Wd G' ((D, Is (.lst acc)) :: Wf n) H' → I n acc G' → Q (.ref D) H') : LcQ J g tt te vs σ H Q := fun D hD =>
  lc_it wk (fun i => LcB I G (Wf i) D i) ⟨G, [], Same.refl _, w.newM hD rfl, h0⟩ (fun _ _ _ ⟨_, _, e, w', _⟩ => hG _ _ _ e w') (fun i x H' H'' hi ⟨G', acc, e, w', h⟩ y => hs i x D G' H' H'' acc hi e w' h y) fun H' ⟨G', acc, e, w', h⟩ => hd D G' H' acc e w' h
theorem lc_r1W {z : Int} {j : Nat} (hz : -(2 ^ 62) ≤ z ∧ z < 2 ^ 62) (Wf : Nat → Wl) (I : Nat → List V → Hp → Prop) (w : Wd G (Wf 0) H) (h0 : I 0 [] G) (hw : ∀ x, wipe ((wipe σ vs).set j x) vs = wipe σ vs)
    (hs : ∀ (i : Nat) D G' H' acc, (i : Int) < z → Same G G' → Wd G' ((D, Is (.lst acc)) :: Wf i) H' → I i acc G' → tt ((wipe σ vs).set j (some (.int (i : Int)))) H' fun b H3 =>
      if b = true then te ((wipe σ vs).set j (some (.int (i : Int)))) H3 fun y H4 => ∃ acc, H4 D = some (.lst acc) ∧ acc.length < sizeLine ∧ LcB I G (Wf (i + 1)) D (i + 1) (upd H4 D (.lst (acc ++ [y]))) else LcB I G (Wf (i + 1)) D (i + 1) H3)
    (hd : ∀ D G' H' acc, Same G G' → Wd G' ((D, Is (.lst acc)) :: Wf z.toNat) H' → I z.toNat acc G' → Q (.ref D) H') : ∃ j' : Int, [V.int z] = [.int j'] ∧ -(2 ^ 62) ≤ j' ∧ j' < 2 ^ 62 ∧ LcQ (Itr 0 j'.toNat) (gName j) tt te vs σ H Q :=
  ⟨z, rfl, hz.1, hz.2, lc_goW walk_range Wf I w (fun _ _ _ _ _ => trivial) h0 (fun i x D G' H' H'' acc hi e w' h y => by
    obtain ⟨rfl, rfl⟩ := y
    have e0 : (0 : Int) + (i : Int) = (i : Int) := Int.zero_add _
    dsimp only
    rw [e0]
    exact ⟨hw _, hs i D G' H'' acc (by omega) e w' h⟩) hd⟩
end
section
variable {K : PySem.W.Frag} {σ : L2.St} {H G : Hp} {W : Wl} {Q : VK} {a b : Addr} {xs ys : List V}
theorem st_chain {r r' : R2} {ta tb tc : TE} (h : ta σ H fun x H1 => tb σ H1 fun y H2 => r x y H2 fun z H3 => ∃ k, z = .bl k ∧ (if k = true then tc σ H3 fun w' H4 => r' y w' H4 Q else Q (.bl false) H3)) : tChain r r' ta tb tc σ H Q := h
theorem st_gtup {n : Nat} {t : TGs} {QS : L2.St → Hp → Prop} (hx : SqT K H a xs) (hl : xs.length = n) (h : t xs σ H QS) : gTup K n t (.ref a) σ H QS := ⟨a, xs, rfl, hx, hl, h⟩
theorem st_gcons {v : V} {r : List V} {t : TG} {u : TGs} {QS : L2.St → Hp → Prop} (h : t v σ H fun σ' H' => u r σ' H' QS) : gCons t u (v :: r) σ H QS := ⟨v, r, rfl, h⟩
theorem st_gnil {QS : L2.St → Hp → Prop} (h : QS σ H) : gNil [] σ H QS := ⟨rfl, h⟩
theorem Wd.is1 {o : HO} (w : Wd G ((a, Is o) :: W) H) : H a = some o := by
  obtain ⟨o', h, rfl⟩ := w.get List.mem_cons_self
  exact h
theorem st_appL {y : V} (h : H a = some (.lst xs)) (hl : xs.length < 1000000) (q : Q .non (upd H a (.lst (xs ++ [y])))) : rAppend (.ref a) [y] H Q := ⟨a, xs, y, rfl, rfl, h, small' (Nat.le_of_lt hl), q⟩
theorem st_sl {r : V → Option Int → Option Int → Hp → VK → Prop} {te : TE} {tl th : TO} (h : te σ H fun x H1 => tl σ H1 fun l H2 => th σ H2 fun u H3 => r x l u H3 Q) : tSl r te tl th σ H Q := h
theorem st_noPart {Q : Option Int → Hp → Prop} (q : Q none H) : tNoPart σ H Q := q
theorem st_part {Q : Option Int → Hp → Prop} {t : TE} (h : t σ H fun x H1 => ∃ i, x = .int i ∧ Q (some i) H1) : tPart t σ H Q := h
theorem cut_lo {xs : List V} {i : Int} (h0 : 0 ≤ i) (h1 : i ≤ xs.length) : cutV xs none (some i) = xs.take i.toNat := by
  unfold cutV
  simp only [HT.sIx, if_neg (show ¬ i < 0 by omega)]
  rw [List.drop_zero, Nat.sub_zero, Nat.min_eq_left (by omega)]
theorem cut_hi {xs : List V} {i : Int} (h0 : 0 ≤ i) (h1 : i ≤ xs.length) : cutV xs (some i) none = xs.drop i.toNat := by
  unfold cutV
  simp only [HT.sIx, if_neg (show ¬ i < 0 by omega)]
  rw [Nat.min_eq_left (by omega), List.take_of_length_le]
  rw [List.length_drop]
  omega
theorem st_slL {lo hi : Option Int} (h : SqL K H a xs) (w : Wd G W H) (q : ∀ p G' H', Same G G' → Wd G' W H' → G' p = some (.lst (cutV xs lo hi)) → Q (.ref p) H') : rSlL K (.ref a) lo hi H Q := ⟨a, xs, rfl, h, NewO.good w q⟩
theorem dw_ok {i j : Int} (h0 : 0 < j) (h1 : j < 2 ^ 250) : CDivW i j := by
  have h2 : j.natAbs.log2 < 250 := (Nat.log2_lt (by omega)).mpr (by omega)
  exact ⟨h0, by omega⟩
theorem pw_ok {i j : Int} (h0 : 0 ≤ i) (h1 : i < 2 ^ 100) (h2 : 0 ≤ j) (h3 : j ≤ 1000) : CPowW i j := by
  refine ⟨h2, ?_⟩
  have h4 : Builtin.Int.intBits i ≤ 100 := PyProof.Rows.intBits_le (by omega)
  have h5 : (Builtin.Int.intBits i : Int) ≤ 100 := by omega
  have h6 := Int.mul_le_mul h5 h3 h2 (by decide)
  omega
end
/-! ### the law itself -/
section
variable {P : Program} {w : World} {K : PySem.W.Frag} {mg mb : Str → Option Value} {k : Nat} {fa a : Addr} {fd : FuncData} {x : Str} {sp : Sp} {s₁ : Shared} {vs : List Value} {ns : List Int}
/-- the heap behind the top without what H tells -/
theorem hid_ns {h : Heap} {H : Hp} {b : Addr} {m : Str → Option Value} {va : Array Value} (hA : ∀ b, H b ≠ none → b = a) (ha : h.get? a = some { cls := .type "list", data := .seq va }) (n : h.Ns b m) : (hidT h H).Ns b m := by
  obtain ⟨o, es, ep, e, d, r⟩ := n
  refine ⟨o, es, ep, hidT_get e ?_, d, r⟩
  cases q : H b with
  | none => rfl
  | some u =>
    rw [hA b (by rw [q]; exact fun z => nomatch z), ha] at e
    have e2 := Option.some.inj e
    rw [← e2] at d
    exact nomatch d
theorem law_core (KX : K.In s₁.heap) (hns : s₁.heap.Ns mainGlobals mg) (hb : s₁.heap.Ns builtinsNs mb) (hbb : ∀ x : Str, x ≠ "__name__" → mb x = bootBuiltins x) (hlim : s₁.heap.NoLimit) (hg : s₁.gens = #[])
    (ha : s₁.heap.get? a = some { cls := .type "list", data := .seq vs.toArray }) (hr : Room k callerA) (F : ∀ base : Heap, K.In base → base.Ns mainGlobals mg → FnG P w K mg base k fa fd [x] sp) (hbind : ∀ (s : Shared) (u : Value), BindsTo s fd ⟨[u], []⟩ [(x, u)])
    {H : Hp} (hO : Only H) (hsp : sp [.ref a] H (fun v _ => v = .bl true) fun _ _ _ => False) (hok : HOk P w H s₁.heap) (hA : ∀ b, H b ≠ none → b = a) (hK : H a ≠ none → K.lookup a = none) :
    codeAny (model P w) callerA (.call (.ref fa) ⟨[.ref a], []⟩) (fun r s' => r = .ok (.ret (.bool true)) ∧ OldK s₁.heap s'.heap ∧ s'.os = s₁.os ∧ AllBare s'.gens) s₁ := by
  have hKb : K.In (hidT s₁.heap H) := fun b o e => hidT_get (KX b o e) (by
    cases q : H b with
    | none => rfl
    | some u =>
      have n : H b ≠ none := by rw [q]; exact fun z => nomatch z
      have eb := hA b n
      rw [eb] at n e
      rw [hK n] at e
      exact nomatch e)
  have M : Mod K mg (hidT s₁.heap H) := ⟨hKb, hid_ns hA ha hns, ⟨mb, hid_ns hA ha hb, hbb⟩, let ⟨mc, h1, h2⟩ := hlim; ⟨mc, hid_ns hA ha h1, h2⟩⟩
  have e0 : Env0 P w K mg (hidT s₁.heap H) callerA [] s₁ H := ⟨rfl, M, fun b o e => of_hidT e, Nat.le_of_eq (hidT_size _ _), trivial, fun b z => (List.not_mem_nil z).elim, hok, .of_eq hg⟩
  refine codeAny_mono ((F _ hKb (hid_ns hA ha hns)).run callerA [] s₁ H ⟨[.ref a], []⟩ [.ref a] [.ref a] _ _ hr rfl e0 (hbind s₁ (.ref a)) (.cons rfl .nil) hsp) fun r s' h => ?_
  cases r with
  | error e => exact False.elim h
  | ok fl => cases fl with
    | ret u =>
      obtain ⟨v, H', os, bare, un, hok', r', q⟩ := h
      cases (show v = .bl true from q)
      cases (show u = Value.bool true from r')
      refine ⟨rfl, OldK.of_keep fun b o e => ?_, os, bare⟩
      cases z : H b with
      | none => exact un.keep b o e z (List.not_mem_nil) (List.not_mem_nil)
      | some u =>
        rcases hO b with y | ⟨ob, xs, y⟩
        · rw [z] at y
          cases y
        · have e1 := (hok b _ y).1
          have e2 := (hok' b _ (un.frzs b ob _ y)).1
          rw [e] at e1
          cases e1
          exact e2
    | _ => exact False.elim h
theorem law_callG (KX : K.In s₁.heap) (hns : s₁.heap.Ns mainGlobals mg) (hb : s₁.heap.Ns builtinsNs mb) (hbb : ∀ x : Str, x ≠ "__name__" → mb x = bootBuiltins x) (hlim : s₁.heap.NoLimit) (hg : s₁.gens = #[])
    (ha : s₁.heap.get? a = some { cls := .type "list", data := .seq vs.toArray }) (hi : IntsAre vs ns) (hl : ns.length ≤ sizeLine) (hr : Room k callerA) (F : ∀ base : Heap, K.In base → base.Ns mainGlobals mg → FnG P w K mg base k fa fd [x] sp)
    (hbind : ∀ (s : Shared) (u : Value), BindsTo s fd ⟨[u], []⟩ [(x, u)]) (hsp : ∀ H : Hp, Only H → SqL K H a (ns.map V.int) → sp [.ref a] H (fun v _ => v = .bl true) fun _ _ _ => False) :
    codeAny (model P w) callerA (.call (.ref fa) ⟨[.ref a], []⟩) (fun r s' => r = .ok (.ret (.bool true)) ∧ OldK s₁.heap s'.heap ∧ s'.os = s₁.os ∧ AllBare s'.gens) s₁ := by
  have rv := vals_ints hi
  cases hk : K.lookup a with
  | some o =>
    have e := KX a o hk
    rw [ha] at e
    cases e
    have hO : Only fun _ => none := fun _ => .inl rfl
    exact law_core KX hns hb hbb hlim hg ha hr F hbind hO (hsp _ hO (.inr ⟨_, vs.toArray, _, hk, rfl, rfl, rfl, by rw [List.size_toArray, hi.length]; exact hl, by simpa using rv⟩)) (fun b u z => nomatch z) (fun b z => (z rfl).elim) fun z => (z rfl).elim
  | none =>
    have hO : Only fun b => if b = a then some (.frz { cls := .type "list", data := .seq vs.toArray } (.lst (ns.map V.int))) else none := fun b => by
      by_cases z : b = a
      · exact .inr ⟨_, _, if_pos z⟩
      · exact .inl (if_neg z)
    refine law_core KX hns hb hbb hlim hg ha hr F hbind hO (hsp _ hO (.inl (.inr ⟨_, if_pos rfl⟩))) (fun b u z => ?_) (fun b z => ?_) fun _ => hk
    · by_cases y : b = a
      · have z2 := (if_pos y).symm.trans z
        cases z2
        cases y
        exact ⟨ha, by rw [List.length_map]; exact hl, vs, _, rv, ha⟩
      · exact nomatch (if_neg y).symm.trans z
    · exact Decidable.byContradiction fun y => z (if_neg y)
end
theorem walk_G {l : PySem.W.OpenLaw} {n k : Nat} {q : Program} {loose : List Str} {XP : (Str → Option Value) → Heap → Prop} {YP : World → Heap → Prop} {d : DefRec} {K : Params → PySem.W.Frag} {sp : World → Sp} {x : Str} (hn : l.most = some n) (hn2 : n ≤ sizeLine) (hdf : d.params.defaults = [])
    (hr : Room k callerA) (hY : ∀ (w : World) (h : Heap), YP w h → (K w.params).In h)
    (F : ∀ (w : World) (mg : Str → Option Value) (fa : Addr) (h : Heap), (K w.params).In h → h.Ns mainGlobals mg → mg d.name = some (.ref fa) →
      ∃ fd : FuncData, (∀ (s : Shared) (u : Value), BindsTo s fd ⟨[u], []⟩ [(x, u)]) ∧ ∀ base : Heap, (K w.params).In base → base.Ns mainGlobals mg → FnG l.prog w (K w.params) mg base k fa fd [x] (sp w))
    (hsp : ∀ (w : World) (H : Hp) (a : Addr) (ns : List Int), ns.length ≤ n → Only H → SqL (K w.params) H a (ns.map V.int) → sp w [.ref a] H (fun v _ => v = .bl true) fun _ _ _ => False) :
    PySem.W.WalkO q loose XP YP l.row.toRowW d [] (fun f vs => PySem.call f vs) := by
  refine Att.attach_call hn hdf fun w s₀ s₁ mg mb fa o pm cd doc a vs ns G Y ho hd hcd hmg hobj hints hlen hg => ?_
  obtain ⟨fd, hb, hF⟩ := F w mg fa _ (hY w _ Y) G.T.g hmg
  exact law_callG (hY w _ Y) G.T.g G.T.b G.T.builtins G.T.nolimit hg hobj hints (Nat.le_trans hlen hn2) hr hF hb fun H hO hS => hsp w H a ns hlen hO hS
end Z

/-! data of a small size: kinds, repr, places in lists -/
namespace Z
open PySem PySem.Spec PyProof.Rows L2
/-- data whose repr may be asked: n deep -/
def Od (n : Nat) (d : PyData) : Prop := (d.canLay0 && d.showable && d.intsShort 60) = true ∧ d.depth ≤ n ∧ d.weight ≤ 200 * 10 ^ n
instance (n : Nat) (d : PyData) : Decidable (Od n d) := by unfold Od; infer_instance
theorem Od.mono {m n : Nat} {d : PyData} (h : Od m d) (e : m ≤ n) : Od n d := ⟨h.1, Nat.le_trans h.2.1 e, Nat.le_trans h.2.2 (Nat.mul_le_mul_left _ (Nat.pow_le_pow_right (by decide) e))⟩
theorem od_all {n : Nat} : ∀ {ds : List PyData}, (∀ d ∈ ds, Od n d) → (PyData.canLayAll0 ds && PyData.showableAll ds && PyData.intsShortAll 60 ds) = true ∧ PyData.depthAll ds ≤ n ∧ PyData.weightAll ds ≤ ds.length * (200 * 10 ^ n + 1)
  | [], _ => ⟨rfl, Nat.zero_le _, Nat.zero_le _⟩
  | d :: ds, h => by
    obtain ⟨a1, a2, a3⟩ := h d List.mem_cons_self
    obtain ⟨b1, b2, b3⟩ := od_all (ds := ds) fun x hx => h x (List.mem_cons_of_mem _ hx)
    simp only [Bool.and_eq_true] at a1 b1
    refine ⟨?_, ?_, ?_⟩
    · unfold PyData.canLayAll0 PyData.showableAll PyData.intsShortAll
      rw [a1.1.1, a1.1.2, a1.2, b1.1.1, b1.1.2, b1.2]
      rfl
    · unfold PyData.depthAll
      exact Nat.max_le.mpr ⟨a2, b2⟩
    · unfold PyData.weightAll
      rw [List.length_cons, Nat.add_mul]
      omega
theorem od_weight {n k : Nat} (h : k ≤ 9) : k * (200 * 10 ^ n + 1) ≤ 200 * 10 ^ (n + 1) := by
  have h1 : 1 ≤ 10 ^ n := Nat.pow_pos (by decide)
  have h2 : k * (200 * 10 ^ n + 1) ≤ 9 * (200 * 10 ^ n + 1) := Nat.mul_le_mul_right _ h
  rw [Nat.pow_succ]
  omega
theorem Od.list {n : Nat} {ds : List PyData} (h : ∀ d ∈ ds, Od n d) (hl : ds.length ≤ 9) : Od (n + 1) (.list ds) := by
  obtain ⟨a, b, c⟩ := od_all h
  refine ⟨?_, ?_, ?_⟩
  · unfold PyData.canLay0 PyData.showable PyData.intsShort
    exact a
  · unfold PyData.depth
    exact Nat.succ_le_succ b
  · unfold PyData.weight
    exact Nat.le_trans c (od_weight hl)
theorem Od.tuple {n : Nat} {ds : List PyData} (h : ∀ d ∈ ds, Od n d) (hl : ds.length ≤ 9) : Od (n + 1) (.tuple ds) := by
  obtain ⟨a, b, c⟩ := od_all h
  refine ⟨?_, ?_, ?_⟩
  · unfold PyData.canLay0 PyData.showable PyData.intsShort
    exact a
  · unfold PyData.depth
    exact Nat.succ_le_succ b
  · unfold PyData.weight
    exact Nat.le_trans c (od_weight hl)
theorem log_lt {i : Int} {k : Nat} (h : i.natAbs < 2 ^ k) (h0 : 0 < k) : i.natAbs.log2 < k := by
  by_cases e : i.natAbs = 0
  · rw [e]
    exact h0
  · exact (Nat.log2_lt e).mpr h
theorem short13 {i : Int} (h : -999999999999 < i ∧ i < 999999999999) : (PyData.shown (.int i)).length ≤ 13 := by
  have h2 := intsShort_of_noneOrIn (lo := -999999999999) (hi := 999999999999) (by decide) (by decide) (.int i) (by simp [noneOrIn, h])
  unfold PyData.intsShort at h2
  exact of_decide_eq_true h2
theorem Od.int {n : Nat} {i : Int} (h : -999999999999 < i ∧ i < 999999999999) : Od n (.int i) := by
  have hl : i.natAbs.log2 < 64 := log_lt (by omega) (by decide)
  refine ⟨?_, ?_, ?_⟩
  · unfold PyData.canLay0 PyData.showable PyData.intsShort
    rw [decide_eq_true (show i.natAbs.log2 < 1920 by omega), decide_eq_true (Nat.le_trans (short13 h) (by decide))]
    rfl
  · unfold PyData.depth
    exact Nat.zero_le _
  · have h1 : 1 ≤ 10 ^ n := Nat.pow_pos (by decide)
    unfold PyData.weight
    split <;> omega
theorem Od.bool {n : Nat} (b : Bool) : Od n (.bool b) := (show Od 0 (.bool b) by cases b <;> decide).mono (Nat.zero_le _)
theorem strOk_of (s : String) : PyData.strOk (Str.ofString s) = true := by
  rw [Str.ofString_eq_toList]
  unfold PyData.strOk
  rw [List.all_toArray, List.all_eq_true]
  intro n hn
  obtain ⟨c, _, rfl⟩ := List.mem_map.mp hn
  refine decide_eq_true ?_
  rcases c.valid with h | h
  · exact Nat.lt_trans (show c.toNat < 55296 from h) (by decide)
  · exact h.2
theorem Od.strInt {n : Nat} {i : Int} (h : -999999999999 < i ∧ i < 999999999999) : Od n (.str (toString i)) := by
  have h2 : ((toString i : Str)).length ≤ 13 := by
    have := short13 h
    unfold PyData.shown at this
    exact this
  refine ⟨?_, ?_, ?_⟩
  · unfold PyData.canLay0 PyData.showable PyData.intsShort
    rw [strOk_of]
    rfl
  · unfold PyData.depth
    exact Nat.zero_le _
  · have h1 : 1 ≤ 10 ^ n := Nat.pow_pos (by decide)
    unfold PyData.weight
    have h3 : (toString i : Str).cps.size = (toString i : Str).length := rfl
    omega
theorem Od.rep {n : Nat} {d : PyData} (h : Od n d) (hn : n ≤ 3) : d.showable = true ∧ d.canLay0 = true ∧ d.depth ≤ 60 ∧ d.shown.length ≤ sizeLine := by
  obtain ⟨a, b, c⟩ := h
  simp only [Bool.and_eq_true] at a
  refine ⟨a.1.2, a.1.1, by omega, ?_⟩
  have h1 := PyData.shown_le 60 (by decide) d (PyData.leavesShort_of_canLay0 60 d a.1.1 a.2)
  have h2 : 10 ^ n ≤ 10 ^ 3 := Nat.pow_le_pow_right (by decide) hn
  have h3 : sizeLine = 16777216 := by decide
  omega
section
variable {X : Cx} {K : PySem.W.Frag} {G H : Hp} {x : V} {d : PyData} {Q : VK}
theorem st_repr {n : Nat} (h : Dp K H x d) (o : Od n d) (hn : n ≤ 3) (q : Q (.str d.shown) H) : rRepr K [x] H Q := let ⟨h1, h2, h3, h4⟩ := o.rep hn; ⟨x, d, rfl, h, h1, h2, h3, h4, q⟩
def nm : PyData → String
  | .none => "NoneType"
  | .bool _ => "bool"
  | .int _ => "int"
  | .str _ => "str"
  | .list _ => "list"
  | .tuple _ => "tuple"
  | .dict _ => "dict"
theorem dp_ty (h : Dp K H x d) : TyX K H x (.type (nm d)) := by
  cases h with
  | non => exact .base .non
  | bl b => exact .base (.bl b)
  | int i => exact .base (.int i)
  | str s => exact .base (.str s)
  | lst h _ => exact tyL h
  | tup h _ => exact tyT h
theorem dp_knd (h : Dp K H x d) : Knd K H x := by
  cases h with
  | non => exact .non
  | bl b => exact .bl b
  | int i => exact .int i
  | str s => exact .str s
  | lst h _ => exact .lst h
  | tup h _ => exact .tup h
def isTup : PyData → Bool
  | .tuple _ => true
  | _ => false
def isLst : PyData → Bool
  | .list _ => true
  | _ => false
def isI : PyData → Bool
  | .int _ => true
  | _ => false
def inR (lo hi : Int) : PyData → Bool
  | .int i => decide (lo ≤ i) && decide (i ≤ hi)
  | _ => false
theorem isInt_d (h : Dp K H x d) : isInt x = isI d := by cases h <;> rfl
theorem inRange_d {lo hi : Int} (h : Dp K H x d) : inRange lo hi x = inR lo hi d := by cases h <;> rfl
theorem isiD {T : String} {b : Bool} (h : Dp K H x d) (e : kitB (nm d) T = some b) (q : Q (.bl b) H) : rIsi K [x, .ty T] H Q := ⟨_, _, _, _, b, rfl, .ty _, dp_ty h, kit_ty e, q⟩
theorem kit_tup : kitB (nm d) "tuple" = some (isTup d) := by
  cases d with
  | none => exact (show kitB "NoneType" "tuple" = some false by decide +kernel)
  | bool b => exact (show kitB "bool" "tuple" = some false by decide +kernel)
  | int b => exact (show kitB "int" "tuple" = some false by decide +kernel)
  | str b => exact (show kitB "str" "tuple" = some false by decide +kernel)
  | list b => exact (show kitB "list" "tuple" = some false by decide +kernel)
  | tuple b => exact (show kitB "tuple" "tuple" = some true by decide +kernel)
  | dict b => exact (show kitB "dict" "tuple" = some false by decide +kernel)
theorem kit_lst : kitB (nm d) "list" = some (isLst d) := by
  cases d with
  | none => exact (show kitB "NoneType" "list" = some false by decide +kernel)
  | bool b => exact (show kitB "bool" "list" = some false by decide +kernel)
  | int b => exact (show kitB "int" "list" = some false by decide +kernel)
  | str b => exact (show kitB "str" "list" = some false by decide +kernel)
  | list b => exact (show kitB "list" "list" = some true by decide +kernel)
  | tuple b => exact (show kitB "tuple" "list" = some false by decide +kernel)
  | dict b => exact (show kitB "dict" "list" = some false by decide +kernel)
theorem isiLT {p : Addr} (hp : H p = some (.tup [.ty "list", .ty "tuple"])) (h : Dp K H x d) (q : Q (.bl (isLst d || isTup d)) H) : rIsiT K [x, .ref p] H Q := by
  refine ⟨_, p, _, _, _, isLst d || isTup d, rfl, hp, .cons (.ty _) (.cons (.ty _) .nil), dp_ty h, ?_, q⟩
  refine kB (r := isLst d) kit_lst (fun e => ?_) (fun e => by rw [e]; rfl)
  refine kB (r := isTup d) kit_tup (fun e2 => ?_) (fun e2 => by rw [e, e2]; rfl)
  rw [e, e2]
  rfl
end
section
variable {K : PySem.W.Frag} {G G' H : Hp} {W : Wl} {Q : VK} {v : V} {xs : List V} {n : Nat}
def SomeN (n : Nat) (K : PySem.W.Frag) (G : Hp) (v : V) : Prop := ∃ d, Dp K G v d ∧ Od n d
theorem SomeN.up (e : Same G G') (h : SomeN n K G v) : SomeN n K G' v := let ⟨d, h1, h2⟩ := h; ⟨d, dmono e h1, h2⟩
theorem SomeN.mono {m : Nat} (h : SomeN n K G v) (e : n ≤ m) : SomeN m K G v := let ⟨d, h1, h2⟩ := h; ⟨d, h1, h2.mono e⟩
theorem AllP.mk {α : Type} {P : α → Prop} : ∀ {xs : List α}, (∀ x ∈ xs, P x) → AllP P xs
  | [], _ => trivial
  | x :: _, h => ⟨h x List.mem_cons_self, AllP.mk fun y hy => h y (List.mem_cons_of_mem _ hy)⟩
theorem allN {n : Nat} : ∀ {xs : List V}, AllP (SomeN n K G) xs → ∃ ds, DpAll K G xs ds ∧ (∀ d ∈ ds, Od n d) ∧ ds.length = xs.length
  | [], _ => ⟨[], .nil, (fun _ h => nomatch h), rfl⟩
  | x :: xs, h => by
    obtain ⟨d, h1, h2⟩ := h.1
    obtain ⟨ds, h3, h4, h5⟩ := allN h.2
    refine ⟨d :: ds, .cons h1 h3, fun y hy => ?_, by rw [List.length_cons, List.length_cons, h5]⟩
    rcases List.mem_cons.mp hy with rfl | hy
    · exact h2
    · exact h4 y hy
theorem SomeN.lst {a : Addr} (hs : SqL K G a xs) (h : AllP (SomeN n K G) xs) (hl : xs.length ≤ 9) : SomeN (n + 1) K G (.ref a) := by
  obtain ⟨ds, h1, h2, h3⟩ := allN h
  exact ⟨.list ds, .lst hs h1, Od.list h2 (by omega)⟩
theorem SomeN.tup {a : Addr} (hs : SqT K G a xs) (h : AllP (SomeN n K G) xs) (hl : xs.length ≤ 9) : SomeN (n + 1) K G (.ref a) := by
  obtain ⟨ds, h1, h2, h3⟩ := allN h
  exact ⟨.tuple ds, .tup hs h1, Od.tuple h2 (by omega)⟩
theorem AllP.up (e : Same G G') (h : AllP (SomeN n K G) xs) : AllP (SomeN n K G') xs := AllP.mk fun x hx => (AllP.of h x hx).up e
theorem at_some {i : Int} (h0 : 0 ≤ i) (h1 : i < xs.length) : ∃ v, atI xs i = some v ∧ v ∈ xs := by
  obtain ⟨v, hv⟩ : ∃ v, xs[i.toNat]? = some v := ⟨_, List.getElem?_eq_getElem (by omega)⟩
  exact ⟨v, by rw [show i = (i.toNat : Int) by omega]; exact atI_nat hv, List.mem_of_getElem? hv⟩
end
end Z

/-! own exceptions with a field, over ghost heaps -/
namespace Z
open PySem PySem.Spec PyProof.Rows L2
section
variable {P : Program} {w : World} {K : PySem.W.Frag} {mg : Str → Option Value} {base : Heap} {x qual : Str} {params : Arguments} {body : List Stmt} {scope : Scope} {dvs : List V} {kws : List (Str × V)} {f : Addr} {fd : FuncData}
/-- the rule for a def that may raise -/
theorem okX {N ps : List Str} {k : Nat} {sp : Sp} (F : FunD K x qual params body scope dvs kws f fd) (S : FnScope N ps scope) (len : ∀ vs H Q E, sp vs H Q E → vs.length = ps.length)
    (hb : ∀ (cdv : Value) (A : Around) (outer : List Env) (s : Shared) (H : Hp) (vs : List V) (Q : VK) (E : XK), Room k (A.deeper (envOfC qual scope s.heap.objs.size f cdv)) → sp vs H Q E →
      ∃ t, PSs (cxOf (L2.CX P w) P w K mg base N qual scope f cdv A outer s H E) body t ∧ t { nx := fun _ H' => Q .non H', rt := Q } (start N vs) H) : FnOk P w K mg base (L2.CX P w) (k + 1) f fd ps sp :=
  F.ok S len hb
end
section
variable {X : Cx} {CX : CXT} {k : Nat} {f : Addr} {fd : FuncData} {ps : List Str} {ds : List Value} {dvs : List V} {sp : Sp} {E : L2.St → XK} {x : Str} {p pos : Pos} {e : Expr} {es : List Expr} {t : TA}
/-- a call whose exceptions go where the try says; defaults filled in -/
def tCallSD (sp : Sp) (dvs : List V) (E : L2.St → XK) (t : TA) : TE := fun σ H Q => t σ H fun vs H1 => sp (vs ++ dvs) H1 Q (E σ)
theorem pe_callSD (F : FnOk X.prog X.w X.K X.mg X.base CX k f fd ps sp) (hr : Room k X.A) (hg : Gl X x) (hm : X.mg x = some (.ref f)) (hk : PySem.W.keepIn X.K (.ref f) = true) (hb : Binds X.K fd ps ds) (hd : Vals dvs ds) (hx : ∀ σ, PassesAt CX X σ (E σ))
    (ha : PA X (e :: es) t) (hdb : (x == ("__debug__" : Str)) = false := by decide) (he : starEach (e :: es) X.env = (false, eval e X.env) :: starEach es X.env := by rfl) (hpl : (backTo pos (starEach es X.env)).any (·.1) = false := by rfl) :
    PE X (.Call (.Name x p) (e :: es) [] pos) (tCallSD sp dvs E t) := by
  refine ⟨fun pins s σ H Q I h => wpAny_Call_Name_kw (ld_glob I hg hm (PySem.W.callWith_K (h₀ := X.base) I.ok.mod.kin hk (thn (ha.run pos pins s σ H _ I h) fun us s1 ⟨vs, H1, I1, r, q⟩ => ⟨I1.kIn, ?_⟩) he hpl) hdb)⟩
  have r2 := r.append hd
  refine wpAny_call (codeAny_mono (F.run X.A X.stack s1 H1 ⟨us, []⟩ _ _ Q (E σ) hr I1.env0 (hb s1 us I1.kIn (r2.length.symm.trans (F.len _ _ _ _ q))) r2 q) fun r s' hq => ?_)
  cases r with
  | error e => exact hx σ pins H1 s1 e s' I1 hq
  | ok fl => cases fl with
    | ret u => exact I1.after hq
    | _ => exact False.elim hq
theorem st_callSD {σ : L2.St} {H : Hp} {Q : VK} (h : t σ H fun vs H1 => sp (vs ++ dvs) H1 Q (E σ)) : tCallSD sp dvs E t σ H Q := h
end
theorem passX0 {X : Cx} : Passes (L2.CX X.prog X.w) X E0 := fun _ _ _ _ _ _ _ h => by
  obtain ⟨_, _, _, _, _, _, _, _, _, _, _, _, z⟩ := h
  exact z.elim
/-- an own exception class x at C, its __init__ at fI, its one field n -/
structure ExT (K : PySem.W.Frag) (mg : Str → Option Value) (x n : Str) (C fI : Addr) : Prop where
  gC : mg x = some (.ref C)
  oex : OexC K C
  xf : XfC K C
  xc : ExcC K C
  no : PySem.W.findIn K (.ref C) n = some none
  iC : PySem.W.findIn K (.ref C) "__init__" = some (some (.ref fI))
  tI : PySem.W.typeIn K (.ref fI) = some (.type "function")
  te : PySem.W.exmOne K (.ref C) (.ref C) = some true
  kv : PySem.W.kitOne K (.ref C) (.type "ValueError") = some true
theorem kv_of {K : PySem.W.Frag} {C : Addr} (h : PySem.W.subIn K (.ref C) (.type "ValueError") = some true) : PySem.W.kitOne K (.ref C) (.type "ValueError") = some true := by
  unfold PySem.W.kitOne
  rw [show ((Value.ref C) == (Value.type "ValueError")) = false from rfl]
  show PySem.W.kitCls K (.ref C) (.type "ValueError") = some true
  unfold PySem.W.kitCls
  show (if PySem.W.kitMeta "ValueError" = true then _ else none) = some true
  rw [if_pos (by decide +kernel)]
  exact h
/-- what its __init__ does -/
def sp_init (K : PySem.W.Frag) (C : Addr) (n : Str) : Sp := fun vs H Q _ => ∃ (a : Addr) (v : V), vs = [.ref a, v] ∧ H a = some (exo a C none) ∧ ∀ d, H d = none → d ≠ a → Q .non (upd (upd H d (exd d [(n, v)])) a (exo a C (some d)))
section
variable {K : PySem.W.Frag} {mg : Str → Option Value} {σ : L2.St} {H G : Hp} {W : Wl} {C : Addr} {n : Str} {v : V}
theorem st_mkO {dvs : List V} {ta : TA} {Q : XK} {sp : Sp} (h : ta σ H fun vs H1 => vs.length ≤ 1000 ∧ ∀ a, H1 a = none → sp (.ref a :: (vs ++ dvs)) (upd H1 a (exo a C none))
  (fun v H2 => v = .non ∧ ∃ (d : Addr) (fs : List (Str × V)), H2 a = some (exo a C (some d)) ∧ H2 d = some (exd d fs) ∧ H1 d = none ∧ Q (.ref C) (some d) (upd (del H2 a) d (.xd fs))) (fun _ _ _ => False)) : tMkO C sp dvs ta σ H Q := h
theorem mk_done {Q : XK} (w : Wd G W H) (k : ∀ d G' H', Same G G' → Wd G' W H' → G' d = some (.xd [(n, v)]) → Q (.ref C) (some d) H') (a : Addr) (ha : H a = none) :
    sp_init K C n [.ref a, v] (upd H a (exo a C none)) (fun v H2 => v = .non ∧ ∃ (d : Addr) (fs : List (Str × V)), H2 a = some (exo a C (some d)) ∧ H2 d = some (exd d fs) ∧ H d = none ∧ Q (.ref C) (some d) (upd (del H2 a) d (.xd fs))) (fun _ _ _ => False) := by
  refine ⟨a, v, rfl, upd_same, fun d hd hda => ⟨rfl, d, [(n, v)], upd_same, ?_, ?_, ?_⟩⟩
  · rw [upd_ne hda, upd_same]
  · rw [upd_ne hda] at hd
    exact hd
  · rw [upd_ne hda] at hd
    have e : upd (del (upd (upd (upd H a (exo a C none)) d (exd d [(n, v)])) a (exo a C (some d))) a) d (.xd [(n, v)]) = upd H d (.xd [(n, v)]) := by
      funext b
      by_cases hb : b = d
      · rw [hb, upd_same, upd_same]
      · rw [upd_ne hb, upd_ne hb]
        by_cases hb2 : b = a
        · rw [hb2, del_same, ha]
        · rw [del_ne hb2, upd_ne hb2, upd_ne hb, upd_ne hb2]
    rw [e]
    exact k d _ _ (same_upd (w.free hd)) (w.new hd) upd_same
theorem st_ost {f : Str} {to te : TE} {D : Ends} (h : te σ H fun y H1 => to σ H1 fun x H2 => ∃ a C : Addr, x = .ref a ∧ OexC K C ∧ PySem.W.findIn K (.ref C) f = some none ∧
    ((H2 a = some (exo a C none) ∧ ∀ dx, H2 dx = none → dx ≠ a → D.nx σ (upd (upd H2 dx (exd dx [(f, y)])) a (exo a C (some dx)))) ∨ ∃ (dx : Addr) (fs : List (Str × V)), H2 a = some (exo a C (some dx)) ∧ H2 dx = some (exd dx fs) ∧ fs.length ≤ 900 ∧ D.nx σ (upd H2 dx (exd dx ((f, y) :: fs))))) : tOst K f to te D σ H := h
theorem st_dnew {Q : VK} (h : NewO (.dK []) H Q) : tDNewK σ H Q := h
theorem st_vei {ta : TA} {Q : VK} (h : ta σ H fun vs H1 => ∃ (a C : Addr) (ws : List V), vs = .ref a :: ws ∧ ws.length ≤ 1000 ∧ OexC K C ∧ H1 a = some (exo a C none) ∧ Q .non H1) : tVeI K ta σ H Q := h
theorem st_xf {a : Addr} {cls : Value} {d : Option Addr} {f : Str} {te : TE} {Q : VK} (h : te σ H fun x H1 => x = .ref a ∧ cls = .ref C ∧ ∃ (dd : Addr) (fs : List (Str × V)) (v : V), d = some dd ∧ H1 dd = some (.xd fs) ∧ fs.lookup f = some v ∧ Q v H1) : tXf a cls d C f te σ H Q := h
end
end Z
namespace PySem.W
open PySem PySem.Spec PySem.Calls PyProof.Rows
section
variable {prog : Program} {w : World} {A : Around} {E : Value → Shared → Prop} {s : Shared} {K : Frag} {x D : Addr} {ox od : Obj}
theorem z_found {C : Addr} {name : Str} {a g : Value} (hc : (clsIn K C).isSome = true) (ha : findIn K (.ref C) name = some (some a)) (hg : specialIn K a "__get__" = some (some g)) (ht : takesIn K a = some true) (o : Option Obj) : findObj K C o name = some (.bind g a) := by
  obtain ⟨cd, hcd⟩ := Option.isSome_iff_exists.mp hc
  unfold findObj
  rw [hcd, Option.bind_some, ha, Option.bind_some]
  simp [hg, ht]
theorem z_classE {Q : Option Value → Shared → Prop} (C : L2.ExcC K D) (X : K.In s.heap) (I : InstAt s.heap x ox D (some od)) (h : Q (some (.ref D)) { s with toks := s.toks + 1 }) : wpAny (model prog w) A (getAttr? (.ref x) "__class__") Q E s := by
  have hf : findObj K D (some od) "__class__" = some (.bind (.builtin "getset_descriptor.__get__") (.builtin "object.__class__")) :=
    z_found (by obtain ⟨cd, hc, _⟩ := any_some C.hd; rw [hc]; rfl) C.ha C.hn C.ht (some od)
  obtain ⟨hp, g, d, t, os⟩ := s
  have l0 := I.type (M := model prog w)
  have l1 := looks_findIn (M := model prog w) X C.hg
  have l2 := looks_findIn (M := model prog w) X C.hk
  have l3 := looks_find (M := model prog w) X I hf
  have ls : Looks (model prog w) hp (isInstance (.ref x) (.type "BaseException")) true := l0.andThen (looks_subIn X C.hs)
  have z2 : (Value.builtin "BaseException.__getattribute__" == Value.builtin "object.__getattribute__") = false := by decide +kernel
  have z1 : (onTheHeap (Value.ref D) && Value.builtin "BaseException.__getattribute__" == Value.builtin "object.__getattribute__") = false := by rw [z2]; rfl
  unfold getAttr? getAttrBy? getAttrBy
  refine wpAny_bind (wpAny_mkText (wpAny_bind (wpAny_attempt (wpAny_holding (wpAny_bind (l0.at (wpAny_bind (l1.at ?_))))))))
  show wpAny _ _ (if (onTheHeap (Value.ref D) && Value.builtin "BaseException.__getattribute__" == Value.builtin "object.__getattribute__") = true then _ else _) _ _ _
  rw [z1, if_neg Bool.false_ne_true]
  unfold getAttrByItsOwn hookBefore
  refine wpAny_bind ?_
  rw [if_pos (show onTheHeap (Value.ref D) = true from rfl)]
  refine l2.at (wpAny_bind (wpAny_attempt (wpAny_holding ?_)))
  unfold callGetattribute
  rw [show (false && onTheHeap (Value.builtin "BaseException.__getattribute__")) = false from rfl, if_neg Bool.false_ne_true]
  unfold boundAndCalled
  rw [PySem.F.excAttr_ValueError.ga.bind (.ref x)]
  refine wpAny_bind (wpAny_pure ?_)
  refine wpAny_call (pos := [.ref x, .str "__class__" t]) (codeAny_call_builtin PySem.F.excAttr_ValueError.ga.plain PySem.F.entry_bexc_ga (@check_slot (model prog w) _ _ ⟨hp, g, d, t + 1, os⟩ "BaseException.__getattribute__" "BaseException" "__getattribute__" (.ref x) [.str "__class__" t] [] _ (by decide +kernel) (by decide +kernel) ls (PySem.F.args_bexc_ga (.ref x) (.str "__class__" t)) ?_))
  unfold Builtin.«object.__getattribute__»
  refine wpAny_bind (wpAny_of_eq (a := ((Value.ref x : Value), [Value.str "__class__" t])) (by first | rfl | (simp only [slotArgs]; rfl)) (wpAny_bind (wpAny_pure (wpAny_bind (l0.at (wpAny_bind (l3.at ?_)))))))
  show wpAny _ _ (holding [Value.builtin "object.__class__"] (call (.builtin "getset_descriptor.__get__") [.builtin "object.__class__", .ref x, .ref D]) >>= ret) _ _ _
  refine wpAny_bind (wpAny_holding (wpAny_call (class_get (s := ⟨hp, g, d, t + 1, os⟩) (ox := ox) (od := some od) X I C.hm (wpAny_pure ?_))))
  show wpAny _ _ (handedOut (.ref D)) _ _ _
  rw [handedOut_of (v := .ref D) rfl]
  first
    | exact wpAny_pure (wpAny_pure h)
    | exact wpAny_pure h
    | exact wpAny_pure (wpAny_bind (wpAny_pure (wpAny_pure h)))
theorem z_kit (C : L2.ExcC K D) : KitX K (.ref x) (.ref D) (fun h => ∃ od, InstAt h x ox D (some od)) where
  ty := fun _ _ _ ⟨_, I⟩ => I.type
  it := fun _ _ X _ => by
    obtain ⟨cd, hc, _⟩ := any_some C.hd
    unfold clsIn at hc
    split at hc
    · rename_i ho
      intro A' Q' E' s' k q
      unfold isType loadHead
      exact wpAny_bind (wpAny_loadPart (k _ _ (X _ _ ho)) (wpAny_pure q))
    · cases hc
  ne := fun h tp dd its n sl X htp => by
    obtain ⟨cd, hc, _⟩ := any_some C.hd
    refine Bool.eq_false_iff.mpr fun q => ?_
    obtain rfl : D = tp := Value.ref.inj (beq_iff_eq.mp q)
    unfold clsIn at hc
    split at hc
    · rename_i ho
      exact nomatch (X _ _ ho).symm.trans htp
    · cases hc
  ca := fun X ⟨_, I⟩ k => z_classE C X I k
end
end PySem.W
namespace Z
open PySem PySem.Spec PyProof.Rows L2
/-- isinstance(e, c), e the exception that the suite holds, with its dict -/
def rIsEd (K : PySem.W.Frag) (D a : Addr) (cls : Value) (d : Option Addr) : List V → Hp → VK → Prop := fun xs H Q => ∃ (c : V) (cv : Value) (b : Bool) (dd : Addr) (fs : List (Str × V)), xs = [.ref a, c] ∧ cls = .ref D ∧ d = some dd ∧ H dd = some (.xd fs) ∧ (∀ u, RelV c u → u = cv) ∧ PySem.W.kitOne K (.ref D) cv = some b ∧ Q (.bl b) H
theorem call_isEd {X : Cx} {a D : Addr} {oe : Obj} {cls : Value} {d : Option Addr} {pn : List (Addr × Obj)} (C : ExcC X.K D) (hz : Zc cls d oe) (hf : ∃ vs, oe.data = .fields vs) : CallR (X.suite a ((a, oe) :: pn)) (.builtin "isinstance") (rIsEd X.K D a cls d) := by
  intro pins s σ H xs us Q I r h
  obtain ⟨c, cv, b, dd, fs, rfl, rfl, rfl, ea, hcv, e, q⟩ := h
  obtain ⟨u1, u2, rfl, r1, r2⟩ := vals2 r
  cases r1
  obtain rfl := hcv _ r2
  obtain ⟨hget, _⟩ := I.pin (a, oe) (List.mem_append.mpr (.inl List.mem_cons_self))
  obtain ⟨vs, hv⟩ := hf
  obtain ⟨mA, hns, _⟩ : ObjOk _ _ _ _ dd (.xd fs) := I.hok dd _ ea
  obtain ⟨od, ho, _⟩ := lookIn_ns hns
  have J : PySem.W.InstAt s.heap a oe D (some od) := ⟨hget, hz.1, by unfold PySem.W.notCls; rw [hv] <;> rfl, by rw [hz.2]; exact ho⟩
  exact PySem.W.kia_one (PySem.W.z_kit C) I.kIn ⟨_, J⟩ e (fun z => nomatch z) fun tk => ⟨.bl b, H, I.kept (t' := tk) fun _ _ z => z, rfl, q⟩
end Z

local macro_rules | `(tactic| walk_at "cond") => `(tactic| first
  | (show (0 : Int) < _; first | decide | omega) | (show (0 : Int) ≤ _; first | decide | omega) | ((refine (show L2.CDiv _ _ from ⟨?_, ?_⟩)) <;> omega) | ((refine (show L2.CMul _ _ from Or.inl ⟨?_, ?_⟩)) <;> omega) | ((refine (show L2.CMul _ _ from Or.inr ⟨?_, ?_⟩)) <;> omega)
  | (refine (show Z.CPowW _ _ from ⟨?_, ?_⟩) <;> decide) | (refine (show L2.CPow _ _ from ⟨?_, ?_, ?_⟩); omega; omega; decide))
local macro_rules | `(tactic| walk_at "z") => `(tactic| first
  | with_reducible refine Z.st_seq ?_ | with_reducible refine Z.st_asg ?_ | with_reducible refine Z.st_if ?_ | with_reducible refine Z.st_ret ?_ | with_reducible refine Z.st_drop ?_ | with_reducible refine Z.st_next ?_ | with_reducible refine Z.st_retN ?_ | with_reducible refine Z.st_brk ?_ | with_reducible refine Z.st_cont ?_
  | with_reducible refine Z.st_gname ?_ | with_reducible refine Z.st_par ?_ | with_reducible refine Z.st_two ?_
  | ((with_reducible refine' Z.st_var ?hv ?hq); (case hv => exact rfl)) | with_reducible refine Z.st_c ?_ | with_reducible refine Z.st_op ?_ | with_reducible refine Z.st_un ?_ | with_reducible refine Z.st_i0 ?_ | with_reducible refine Z.st_u ?_
  | with_reducible refine Z.st_test ?_ | with_reducible refine Z.st_tB ?_ | with_reducible refine Z.st_bl ?_ | with_reducible refine Z.st_not ?_ | with_reducible refine Z.st_and ?_ | with_reducible refine Z.st_or ?_
  | with_reducible refine Z.st_andV ?_ | with_reducible refine Z.st_orV ?_ | with_reducible refine Z.st_notV ?_
  | with_reducible refine Z.st_nil ?_ | with_reducible refine Z.st_cons ?_ | with_reducible refine Z.st_cb ?_ | with_reducible refine Z.st_call ?_ | with_reducible refine Z.st_callN ?_
  | with_reducible refine Z.st_lst ?_ | with_reducible refine Z.st_tup ?_
  | ((with_reducible refine Z.st_eq ?_ ?_); exact rfl) | ((with_reducible refine Z.st_ne ?_ ?_); exact rfl)
  | with_reducible refine Z.st_for ?_ | with_reducible refine Z.st_iEnumA ?_ | with_reducible refine Z.st_iList ?_ | with_reducible refine Z.st_iTup ?_ | with_reducible refine Z.st_iR1 ?_ | with_reducible refine Z.st_iR2 ?_
  | ((with_reducible refine' Z.st_i ?hc ?hq); (case hc => walk_at "cond"))
  | with_reducible refine Z.st_gsub ?_ | with_reducible refine Z.st_bm ?_ | with_reducible refine Z.st_bm0 ?_
  | with_reducible refine Z.st_lc ?_ | with_reducible refine Z.st_yes ?_ | with_reducible refine Z.st_sl ?_ | with_reducible refine Z.st_chain ?_ | with_reducible refine Z.st_gcons ?_ | with_reducible refine Z.st_gnil ?_ | with_reducible refine Z.st_noPart ?_ | with_reducible refine Z.st_part ?_
  | with_reducible refine L2.iteT ?_ | with_reducible refine L2.iteF ?_ | with_reducible refine Z.iteNT ?_ | with_reducible refine Z.iteNF ?_)
local macro_rules | `(tactic| walk_at "zz") => `(tactic| repeat walk_at "z")
local macro_rules | `(tactic| walk_at "sm") => `(tactic| first | exact L2.Same.refl _ | assumption | (refine' L2.Same.trans ?ha ?hb; (case hb => assumption); (case ha => walk_at "sm")))
local macro_rules | `(tactic| walk_at "up") => `(tactic| first
  | assumption
  | (refine' Z.seq_up ?w ?h; (case w => assumption); (case h => walk_at "up")) | (refine' Z.tup_up ?w ?h; (case w => assumption); (case h => walk_at "up")) | (refine' Z.dUp ?w ?h; (case w => assumption); (case h => walk_at "up")) | (refine' Z.hUp ?w ?h; (case w => assumption); (case h => walk_at "up"))
  | (refine' L2.Same.seq ?e ?h; (case e => assumption); (case h => walk_at "up")) | (refine' Z.seqT ?e ?h; (case e => assumption); (case h => walk_at "up")) | (refine' Z.dmono ?e ?h; (case e => assumption); (case h => walk_at "up")) | (refine' Z.atUp ?e ?h; (case e => assumption); (case h => walk_at "up")))
local macro_rules | `(tactic| walk_at "zi") => `(tactic| with_reducible refine Z.st_ifE ?_)
local macro_rules | `(tactic| walk_at "nw") => `(tactic| first
  | refine ⟨by first | decide | exact Z.small (by simp), Z.NewO.good (by assumption) fun p G1 H1 e1 w1 h1 => ?_⟩
  | refine Z.st_catV (by walk_at "up") (by walk_at "up") (by first | decide | (simp; done) | (simp; omega)) (by assumption) fun p G1 H1 e1 w1 h1 => ?_)
local macro_rules | `(tactic| walk_at "zn") => `(tactic| repeat first
  | walk_at "z"
  | walk_at "nw")
local macro_rules | `(tactic| walk_at "dp") => `(tactic| first
  | exact L2.Dp.non
  | exact L2.Dp.bl _
  | exact L2.Dp.int _
  | exact L2.Dp.str _
  | assumption
  | (refine' L2.Dp.lst (L2.SqL.of ?h) ?t; (case h => walk_at "up"); (case t => walk_at "dps"))
  | (refine' L2.Dp.tup (L2.SqT.of ?h) ?t; (case h => walk_at "up"); (case t => walk_at "dps"))
  | walk_at "up")
local macro_rules | `(tactic| walk_at "dps") => `(tactic| first
  | exact L2.DpAll.nil
  | (refine' L2.DpAll.cons ?a ?b; (case a => walk_at "dp"); (case b => walk_at "dps")))
local macro_rules | `(tactic| walk_at "od") => `(tactic| first
  | decide +kernel
  | (refine Z.Od.int ?_; omega)
  | exact Z.Od.strInt (by omega)
  | exact Z.Od.bool _
  | assumption
  | (refine Z.Od.mono ?_ ?_ <;> first | assumption | decide))
local macro_rules | `(tactic| walk_at "al") => `(tactic| first
  | exact trivial
  | (refine' Z.AllP.app ?a ?b; (case a => walk_at "al"); (case b => walk_at "al"))
  | (refine' And.intro (Exists.intro _ (And.intro ?a ?b)) ?c; (case a => walk_at "dp"); (case b => walk_at "od"); (case c => walk_at "al")))
local macro_rules | `(tactic| walk_at "ib") => `(tactic| first
  | refine Z.iteBT (by rfl) ?_
  | refine Z.iteBF (by rfl) ?_)

namespace Z
open PySem PySem.Spec PyProof.Rows L2

local macro_rules | `(tactic| walk_at "zx") => `(tactic| repeat first
  | walk_at "z"
  | with_reducible refine Z.st_mkO ?_ | with_reducible refine Z.st_vei ?_ | with_reducible refine Z.st_ost ?_ | with_reducible refine Z.st_xf ?_ | with_reducible refine Z.st_callSD ?_)

def top (i : Nat) : Stmt := PySem.Challenge.pw_deflatehall_k47_checks.main.body.getD i (.Pass ⟨0, 0, 0, 0⟩)
abbrev s_BadData___init__ : Stmt := inClass (top 1) 0
abbrev s_is_integer : Stmt := top 4
abbrev s_in_range : Stmt := top 5
abbrev s_is_byte : Stmt := top 6
abbrev s_checked_data : Stmt := top 7
abbrev s_check_sum : Stmt := top 12
abbrev s_check : Stmt := top 14
abbrev s__law_bag : Stmt := top 16
abbrev s__law_take : Stmt := top 17
abbrev s__law_sum : Stmt := top 18
abbrev s__law_data : Stmt := top 19
abbrev s__law_refused : Stmt := top 20
abbrev s_law : Stmt := top 21
abbrev sN_BadData___init__ : List Str := ["self", "position"]
abbrev sP_BadData___init__ : List Str := ["self", "position"]
theorem sc_BadData___init__ : FnScope sN_BadData___init__ sP_BadData___init__ (defScope s_BadData___init__) := ⟨rfl, rfl, rfl, by decide +kernel, rfl, by decide +kernel, by decide +kernel⟩
abbrev sN_is_integer : List Str := ["value"]
abbrev sP_is_integer : List Str := ["value"]
theorem sc_is_integer : FnScope sN_is_integer sP_is_integer (defScope s_is_integer) := ⟨rfl, rfl, rfl, by decide +kernel, rfl, by decide +kernel, by decide +kernel⟩
abbrev sN_in_range : List Str := ["value", "least", "most"]
abbrev sP_in_range : List Str := ["value", "least", "most"]
theorem sc_in_range : FnScope sN_in_range sP_in_range (defScope s_in_range) := ⟨rfl, rfl, rfl, by decide +kernel, rfl, by decide +kernel, by decide +kernel⟩
abbrev sN_is_byte : List Str := ["value"]
abbrev sP_is_byte : List Str := ["value"]
theorem sc_is_byte : FnScope sN_is_byte sP_is_byte (defScope s_is_byte) := ⟨rfl, rfl, rfl, by decide +kernel, rfl, by decide +kernel, by decide +kernel⟩
abbrev sN_checked_data : List Str := ["value", "position", "item"]
abbrev sP_checked_data : List Str := ["value"]
theorem sc_checked_data : FnScope sN_checked_data sP_checked_data (defScope s_checked_data) := ⟨rfl, rfl, rfl, by decide +kernel, rfl, by decide +kernel, by decide +kernel⟩
abbrev sN_check_sum : List Str := ["row", "start", "one", "other", "byte"]
abbrev sP_check_sum : List Str := ["row", "start"]
theorem sc_check_sum : FnScope sN_check_sum sP_check_sum (defScope s_check_sum) := ⟨rfl, rfl, rfl, by decide +kernel, rfl, by decide +kernel, by decide +kernel⟩
abbrev sN_check : List Str := ["data", "start"]
abbrev sP_check : List Str := ["data", "start"]
theorem sc_check : FnScope sN_check sP_check (defScope s_check) := ⟨rfl, rfl, rfl, by decide +kernel, rfl, by decide +kernel, by decide +kernel⟩
abbrev sN__law_bag : List Str := ["_law_script", "_law_at", "_law_cell", "_law_far"]
abbrev sP__law_bag : List Str := ["_law_script", "_law_at"]
theorem sc__law_bag : FnScope sN__law_bag sP__law_bag (defScope s__law_bag) := ⟨rfl, rfl, rfl, by decide +kernel, rfl, by decide +kernel, by decide +kernel⟩
abbrev sN__law_take : List Str := ["_law_bag_here", "_law_many", "_law_digit", "_law_mixed"]
abbrev sP__law_take : List Str := ["_law_bag_here", "_law_many"]
theorem sc__law_take : FnScope sN__law_take sP__law_take (defScope s__law_take) := ⟨rfl, rfl, rfl, by decide +kernel, rfl, by decide +kernel, by decide +kernel⟩
abbrev sN__law_sum : List Str := ["_law_data_here", "_law_first", "_law_one", "_law_other", "_law_byte"]
abbrev sP__law_sum : List Str := ["_law_data_here", "_law_first"]
theorem sc__law_sum : FnScope sN__law_sum sP__law_sum (defScope s__law_sum) := ⟨rfl, rfl, rfl, by decide +kernel, rfl, by decide +kernel, by decide +kernel⟩
abbrev sN__law_data : List Str := ["_law_bag_here", "_law_turn"]
abbrev sP__law_data : List Str := ["_law_bag_here"]
theorem sc__law_data : FnScope sN__law_data sP__law_data (defScope s__law_data) := ⟨rfl, rfl, rfl, by decide +kernel, rfl, by decide +kernel, by decide +kernel⟩
abbrev sN__law_refused : List Str := ["_law_thing", "e"]
abbrev sP__law_refused : List Str := ["_law_thing"]
theorem sc__law_refused : FnScope sN__law_refused sP__law_refused (defScope s__law_refused) := ⟨rfl, rfl, rfl, by decide +kernel, rfl, by decide +kernel, by decide +kernel⟩
abbrev sN_law : List Str := ["_law_script", "_law_at", "_law_bag_here", "_law_kept", "_law_first", "_law_odd", "_law_data_here", "_law_more", "_law_wide"]
abbrev sP_law : List Str := ["_law_script"]
theorem sc_law : FnScope sN_law sP_law (defScope s_law) := ⟨rfl, rfl, rfl, by decide +kernel, rfl, by decide +kernel, by decide +kernel⟩
structure Adr where
  f_BadData___init__ : Addr
  fd_BadData___init__ : FuncData
  f_is_integer : Addr
  fd_is_integer : FuncData
  f_in_range : Addr
  fd_in_range : FuncData
  f_is_byte : Addr
  fd_is_byte : FuncData
  f_checked_data : Addr
  fd_checked_data : FuncData
  f_check_sum : Addr
  fd_check_sum : FuncData
  f_check : Addr
  fd_check : FuncData
  f__law_bag : Addr
  fd__law_bag : FuncData
  f__law_take : Addr
  fd__law_take : FuncData
  f__law_sum : Addr
  fd__law_sum : FuncData
  f__law_data : Addr
  fd__law_data : FuncData
  f__law_refused : Addr
  fd__law_refused : FuncData
  f_law : Addr
  fd_law : FuncData
  x_BadData : Addr
  t_MOST_DATA : Tok
  t_FIRST_SUM : Tok
  t_HALF : Tok
  t_MODULUS : Tok
structure Txt (K : PySem.W.Frag) (mg : Str → Option Value) (A : Adr) : Prop where
  F_BadData___init__ : FunD K "__init__" "BadData.__init__" (defArgs s_BadData___init__) (defBody s_BadData___init__) (defScope s_BadData___init__) [] [] A.f_BadData___init__ A.fd_BadData___init__
  b_BadData___init__ : Binds K A.fd_BadData___init__ sP_BadData___init__ []
  F_is_integer : FunD K "is_integer" "is_integer" (defArgs s_is_integer) (defBody s_is_integer) (defScope s_is_integer) [] [] A.f_is_integer A.fd_is_integer
  b_is_integer : Binds K A.fd_is_integer sP_is_integer []
  m_is_integer : mg "is_integer" = some (.ref A.f_is_integer)
  F_in_range : FunD K "in_range" "in_range" (defArgs s_in_range) (defBody s_in_range) (defScope s_in_range) [] [] A.f_in_range A.fd_in_range
  b_in_range : Binds K A.fd_in_range sP_in_range []
  m_in_range : mg "in_range" = some (.ref A.f_in_range)
  F_is_byte : FunD K "is_byte" "is_byte" (defArgs s_is_byte) (defBody s_is_byte) (defScope s_is_byte) [] [] A.f_is_byte A.fd_is_byte
  b_is_byte : Binds K A.fd_is_byte sP_is_byte []
  m_is_byte : mg "is_byte" = some (.ref A.f_is_byte)
  F_checked_data : FunD K "checked_data" "checked_data" (defArgs s_checked_data) (defBody s_checked_data) (defScope s_checked_data) [] [] A.f_checked_data A.fd_checked_data
  b_checked_data : Binds K A.fd_checked_data sP_checked_data []
  m_checked_data : mg "checked_data" = some (.ref A.f_checked_data)
  F_check_sum : FunD K "check_sum" "check_sum" (defArgs s_check_sum) (defBody s_check_sum) (defScope s_check_sum) [.int 1] [] A.f_check_sum A.fd_check_sum
  b_check_sum : Binds K A.fd_check_sum sP_check_sum []
  m_check_sum : mg "check_sum" = some (.ref A.f_check_sum)
  F_check : FunD K "check" "check" (defArgs s_check) (defBody s_check) (defScope s_check) [.int 1] [] A.f_check A.fd_check
  b_check : Binds K A.fd_check sP_check []
  m_check : mg "check" = some (.ref A.f_check)
  F__law_bag : FunD K "_law_bag" "_law_bag" (defArgs s__law_bag) (defBody s__law_bag) (defScope s__law_bag) [] [] A.f__law_bag A.fd__law_bag
  b__law_bag : Binds K A.fd__law_bag sP__law_bag []
  m__law_bag : mg "_law_bag" = some (.ref A.f__law_bag)
  F__law_take : FunD K "_law_take" "_law_take" (defArgs s__law_take) (defBody s__law_take) (defScope s__law_take) [] [] A.f__law_take A.fd__law_take
  b__law_take : Binds K A.fd__law_take sP__law_take []
  m__law_take : mg "_law_take" = some (.ref A.f__law_take)
  F__law_sum : FunD K "_law_sum" "_law_sum" (defArgs s__law_sum) (defBody s__law_sum) (defScope s__law_sum) [] [] A.f__law_sum A.fd__law_sum
  b__law_sum : Binds K A.fd__law_sum sP__law_sum []
  m__law_sum : mg "_law_sum" = some (.ref A.f__law_sum)
  F__law_data : FunD K "_law_data" "_law_data" (defArgs s__law_data) (defBody s__law_data) (defScope s__law_data) [] [] A.f__law_data A.fd__law_data
  b__law_data : Binds K A.fd__law_data sP__law_data []
  m__law_data : mg "_law_data" = some (.ref A.f__law_data)
  F__law_refused : FunD K "_law_refused" "_law_refused" (defArgs s__law_refused) (defBody s__law_refused) (defScope s__law_refused) [] [] A.f__law_refused A.fd__law_refused
  b__law_refused : Binds K A.fd__law_refused sP__law_refused []
  m__law_refused : mg "_law_refused" = some (.ref A.f__law_refused)
  F_law : FunD K "law" "law" (defArgs s_law) (defBody s_law) (defScope s_law) [] [] A.f_law A.fd_law
  b_law : Binds K A.fd_law sP_law []
  m_law : mg "law" = some (.ref A.f_law)
  b1_check : ∃ ds, Vals [.int 1] ds ∧ Binds K A.fd_check sP_check ds
  kb_check_1_start : ∃ g, KBn K A.fd_check sP_check 1 ["start"] g (fun us ws => [us.getD 0 .non, ws.getD 0 .non])
  m_MOST_DATA : mg "MOST_DATA" = some (.int 70000 A.t_MOST_DATA)
  m_FIRST_SUM : mg "FIRST_SUM" = some (.int 1 A.t_FIRST_SUM)
  m_HALF : mg "HALF" = some (.int 65536 A.t_HALF)
  m_MODULUS : mg "MODULUS" = some (.int 65521 A.t_MODULUS)
  z_ValueError : mg "ValueError" = none
  z_isinstance : mg "isinstance" = none
  z_int : mg "int" = none
  z_bool : mg "bool" = none
  z_enumerate : mg "enumerate" = none
  z_list : mg "list" = none
  z_len : mg "len" = none
  z_tuple : mg "tuple" = none
  z_abs : mg "abs" = none
  z_range : mg "range" = none
  z_max : mg "max" = none
  z_min : mg "min" = none
  x_BadData : ExT K mg "BadData" "position" A.x_BadData A.f_BadData___init__
  vV : PySem.W.findCls K (.type "ValueError") (.type "type") "__init__" = some (.val (.builtin "ValueError.__init__"))
section
variable {P : Program} {w : World} {K : PySem.W.Frag} {mg : Str → Option Value} {base : Heap} {A : Adr}
/-! ### integers, bytes -/
def sp_is_integer (K : PySem.W.Frag) : Sp := fun vs H Q _ => ∃ x, vs = [x] ∧ Knd K H x ∧ Q (.bl (isInt x)) H
theorem ok_is_integer (T : Txt K mg A) : FnOk P w K mg base CX0 1 A.f_is_integer A.fd_is_integer sP_is_integer (sp_is_integer K) := by
  refine okD T.F_is_integer sc_is_integer (fun vs H Q E h => ?_) (fun cdv Ar outer s H vs Q E hr h => ⟨_, (pss_one (ps_ret ((pe_and (pe_callB call_isi (by rfl) T.z_isinstance (by decide +kernel) (pa_cons (pv 0) (pa_cons (pe_bltn (v := .ty "int") (u := .type "int") (by rfl) T.z_int (by decide +kernel) rfl) pa_nil))) (pe_one (pe_not (pe_callB call_isi (by rfl) T.z_isinstance (by decide +kernel) (pa_cons (pv 0) (pa_cons (pe_bltn (v := .ty "bool") (u := .type "bool") (by rfl) T.z_bool (by decide +kernel) rfl) pa_nil))))))))), ?_⟩)
  · obtain ⟨x, rfl, _⟩ := h
    rfl
  · obtain ⟨x, rfl, hk, k⟩ := h
    obtain ⟨n, b1, b2, ty, e1, e2, e⟩ := hk.ty
    rw [e] at k
    repeat walk_at "z"
    refine ⟨_, _, _, _, b1, rfl, .ty _, ty, kit_ty e1, _, rfl, ?_⟩
    cases b1 with
    | false => exact k
    | true =>
      refine iteT ?_
      repeat walk_at "z"
      exact ⟨_, _, _, _, b2, rfl, .ty _, ty, kit_ty e2, _, rfl, k⟩

def sp_in_range (K : PySem.W.Frag) : Sp := fun vs H Q _ => ∃ x lo hi, vs = [x, .int lo, .int hi] ∧ Knd K H x ∧ Q (.bl (inRange lo hi x)) H
theorem ok_in_range (T : Txt K mg A) : FnOk P w K mg base CX0 2 A.f_in_range A.fd_in_range sP_in_range (sp_in_range K) := by
  refine okD T.F_in_range sc_in_range (fun vs H Q E h => ?_) (fun cdv Ar outer s H vs Q E hr h => ⟨_, (pss_one (ps_ret ((pe_and (pe_call (ok_is_integer T) (hr.mono (by decide)) rfl T.m_is_integer T.F_is_integer.kp T.b_is_integer .nil pass0 (pa_cons (pv 0) pa_nil)) (pe_one (pe_chain op_le op_le (pv 1) (pv 0) (pv 2))))))), ?_⟩)
  · obtain ⟨x, lo, hi, rfl, _⟩ := h
    rfl
  · obtain ⟨x, lo, hi, rfl, hk, k⟩ := h
    repeat walk_at "z"
    refine ⟨_, rfl, hk, _, rfl, ?_⟩
    cases hk with
    | int i =>
      refine iteT ?_
      refine ⟨_, rfl, _, rfl, _, _, rfl, rfl, _, rfl, ?_⟩
      by_cases h1 : lo ≤ i
      · rw [decide_eq_true h1] 
        refine iteT ⟨_, rfl, _, _, rfl, rfl, ?_⟩
        have e : inRange lo hi (.int i) = decide (i ≤ hi) := by simp [inRange, h1]
        rw [e] at k
        exact k
      · rw [decide_eq_false h1]
        have e : inRange lo hi (.int i) = false := by simp [inRange, h1]
        rw [e] at k
        exact iteF k
    | _ => exact iteF k
def sp_is_byte (K : PySem.W.Frag) : Sp := fun vs H Q _ => ∃ x, vs = [x] ∧ Knd K H x ∧ Q (.bl (inRange 0 255 x)) H
theorem ok_is_byte (T : Txt K mg A) : FnOk P w K mg base CX0 3 A.f_is_byte A.fd_is_byte sP_is_byte (sp_is_byte K) := by
  refine okD T.F_is_byte sc_is_byte (fun vs H Q E h => ?_) (fun cdv Ar outer s H vs Q E hr h => ⟨_, (pss_one (ps_ret (pe_call (ok_in_range T) (hr.mono (by decide)) rfl T.m_in_range T.F_in_range.kp T.b_in_range .nil pass0 (pa_cons (pv 0) (pa_cons (pe_int) (pa_cons (pe_int) pa_nil)))))), ?_⟩)
  · obtain ⟨x, rfl, _⟩ := h
    rfl
  · obtain ⟨x, rfl, hk, k⟩ := h
    repeat walk_at "z"
    exact ⟨_, _, _, rfl, hk, k⟩

/-! ### BadData is made -/
theorem ok_BadData___init__ (T : Txt K mg A) : FnOk P w K mg base CX0 1 A.f_BadData___init__ A.fd_BadData___init__ sP_BadData___init__ (sp_init K A.x_BadData "position") := by
  refine okD T.F_BadData___init__ sc_BadData___init__ (fun vs H Q E h => ?_) (fun cdv Ar outer s H vs Q E hr h => ⟨_, (pss_cons (ps_expr (pe_veinit rfl T.z_ValueError T.vV (pa_cons (pv 0) (pa_cons (pe_str) pa_nil))))
      (pss_one (ps_ost (pv 0) (pv 1)))), ?_⟩)
  · obtain ⟨a, v, rfl, _⟩ := h
    rfl
  · obtain ⟨a, v, rfl, ha, k⟩ := h
    walk_at "zz"
    refine st_vei ?_
    walk_at "zz"
    refine ⟨a, A.x_BadData, _, rfl, by simp, T.x_BadData.oex, ha, ?_⟩
    walk_at "zz"
    refine st_ost ?_
    walk_at "zz"
    exact ⟨a, A.x_BadData, rfl, T.x_BadData.oex, T.x_BadData.no, .inl ⟨ha, fun d h1 h2 => k d h1 h2⟩⟩

/-! ### data that may be refused -/
def Byt (ns : List Int) : Prop := ∀ n ∈ ns, 0 ≤ n ∧ n ≤ 255
def NoSeq (G : Hp) (x : V) : Prop := x = .non ∨ (∃ s, x = .str s) ∨ ∃ a kvs, x = .ref a ∧ G a = some (.dK kvs)
theorem isiNo {p : Addr} {G H : Hp} {W : Wl} {x : V} {Q : VK} (w : Wd G W H) (hp : H p = some (.tup [.ty "list", .ty "tuple"])) (h : NoSeq G x) (q : Q (.bl false) H) : rIsiT K [x, .ref p] H Q := by
  rcases h with rfl | ⟨s, rfl⟩ | ⟨a, kvs, rfl, ha⟩
  · exact ⟨_, p, _, _, _, false, rfl, hp, .cons (.ty _) (.cons (.ty _) .nil), .base .non, kB (r := false) (by decide +kernel) (fun _ => kB (r := false) (by decide +kernel) (fun _ => rfl) (fun h => nomatch h)) (fun h => nomatch h), q⟩
  · exact ⟨_, p, _, _, _, false, rfl, hp, .cons (.ty _) (.cons (.ty _) .nil), .base (.str s), kB (r := false) (by decide +kernel) (fun _ => kB (r := false) (by decide +kernel) (fun _ => rfl) (fun h => nomatch h)) (fun h => nomatch h), q⟩
  · exact ⟨_, p, _, _, _, false, rfl, hp, .cons (.ty _) (.cons (.ty _) .nil), .base (.dK (w.at ha)), kB (r := false) (by decide +kernel) (fun _ => kB (r := false) (by decide +kernel) (fun _ => rfl) (fun h => nomatch h)) (fun h => nomatch h), q⟩
/-- the way out: a BadData whose position is i -/
def Out (C : Addr) (G : Hp) (W : Wl) (i : Int) (E : XK) : Prop := ∀ d G' H', Same G G' → Wd G' W H' → G' d = some (.xd [("position", .int i)]) → E (.ref C) (some d) H'
def OkD (K : PySem.W.Frag) (G : Hp) (x : V) (ns : List Int) : Prop := ∃ a, x = .ref a ∧ (SqL K G a (ns.map V.int) ∨ SqT K G a (ns.map V.int)) ∧ Byt ns ∧ ns.length ≤ 70000
def BadAt (K : PySem.W.Frag) (G : Hp) (x : V) (i : Nat) : Prop := ∃ a xs y, x = .ref a ∧ SqL K G a xs ∧ xs.length ≤ 70000 ∧ xs[i]? = some y ∧ (∀ G' H' W, Same G G' → Wd G' W H' → Knd K H' y) ∧ inRange 0 255 y = false ∧ ∀ j z, j < i → xs[j]? = some z → ∃ n : Int, z = .int n ∧ 0 ≤ n ∧ n ≤ 255
def sp_checked_data (K : PySem.W.Frag) (C : Addr) : Sp := fun vs H Q E => ∃ (G : Hp) (W : Wl) (x : V), Wd G W H ∧ vs = [x] ∧
  ((∃ ns, OkD K G x ns ∧ ∀ p G' H', Same G G' → Wd G' ((p, Is (.lst (ns.map V.int))) :: W) H' → Q (.ref p) H') ∨ (NoSeq G x ∧ Out C G W (-1) E) ∨ ∃ i : Nat, BadAt K G x i ∧ Out C G W i E)
theorem ok_checked_data (T : Txt K mg A) : FnOk P w K mg base (L2.CX P w) 4 A.f_checked_data A.fd_checked_data sP_checked_data (sp_checked_data K A.x_BadData) := by
  refine okX T.F_checked_data sc_checked_data (fun vs H Q E h => ?_) (fun cdv Ar outer s H vs Q E hr h => ⟨_, (pss_cons (ps_if (PW.pt (pw_or (pt_not (pt_val (pe_callB call_isiT (by rfl) T.z_isinstance (by decide +kernel) (pa_cons (pv 0) (pa_cons (pe_tup (pa_cons (pe_bltn (v := .ty "list") (u := .type "list") (by rfl) T.z_list (by decide +kernel) rfl) (pa_cons (pe_bltn (v := .ty "tuple") (u := .type "tuple") (by rfl) T.z_tuple (by decide +kernel) rfl) pa_nil))) pa_nil))))) (pw_or1 (pt_cmpR op_gt (pe_callB call_len_seq (by rfl) T.z_len PySem.boot_len (pa_cons (pv 0) pa_nil)) (pe_glob (v := .int 70000) rfl T.m_MOST_DATA ⟨_, rfl⟩) (nomark _))))) (pss_one (ps_raise rfl (takes_of rfl rfl rfl rfl) (pmk_oex T.x_BadData.oex T.x_BadData.iC T.x_BadData.tI (ok_BadData___init__ T) (hr.mono (by decide)) T.b_BadData___init__ .nil pass0 rfl T.x_BadData.gC (pa_cons (pe_un un_neg (pe_int)) pa_nil)))) pss_nil)
      (pss_cons (ps_for (passes_of rfl) rfl (pi_enumA (by rfl) T.z_enumerate (pa_cons (pv 0) pa_nil)) (pg_tup rfl (pgs_cons (pg_name (i := 1) sc_checked_data.nd rfl (Or.inl rfl)) (pgs_cons (pg_name (i := 2) sc_checked_data.nd rfl (Or.inl rfl)) pgs_nil))) (pss_one (ps_if (pt_not (pt_val (pe_call (ok_is_byte T) (hr.mono (by decide)) rfl T.m_is_byte T.F_is_byte.kp T.b_is_byte .nil pass0 (pa_cons (pv 2) pa_nil)))) (pss_one (ps_raise rfl (takes_of rfl rfl rfl rfl) (pmk_oex T.x_BadData.oex T.x_BadData.iC T.x_BadData.tI (ok_BadData___init__ T) (hr.mono (by decide)) T.b_BadData___init__ .nil pass0 rfl T.x_BadData.gC (pa_cons (pv 1) pa_nil)))) pss_nil)))
      (pss_one (ps_ret (pe_callTy call_list_of (by rfl) T.z_list (by decide +kernel) (pa_cons (pv 0) pa_nil)))))), ?_⟩)
  · obtain ⟨G, W, x, _, rfl, _⟩ := h
    rfl
  · obtain ⟨G, W, x, w, rfl, h⟩ := h
    walk_at "zz"
    refine ⟨by decide, NewO.good w fun p G1 H1 e1 w1 hp => ?_⟩
    walk_at "zz"
    rcases h with ⟨ns, ⟨a, rfl, ha, hb, hl⟩, k⟩ | ⟨hx, k⟩ | ⟨i, ⟨a, xs, y, rfl, ha, hl, hy, hk, hyb, hj⟩, k⟩
    · refine isiSeq (w1.at hp) (ha.elim (fun h => .inl (by walk_at "up")) fun h => .inr (by walk_at "up")) ?_
      walk_at "zz"
      refine ⟨_, _, rfl, ha.elim (fun h => .inl (by walk_at "up")) (fun h => .inr (by walk_at "up")), ?_⟩
      walk_at "zz"
      rw [decide_eq_false (show ¬ (70000 < ((ns.map V.int).length : Int)) by rw [List.length_map]; omega)]
      walk_at "zz"
      refine for_enumA (i1 := 1) (i2 := 2) (ha.elim (fun h => .inl (e1.seq h)) fun h => .inr (seqT e1 h)) (fun i σ G' W' => W' = W ∧ ∃ x y, σ = [some (.ref a), x, y]) w1 ⟨rfl, _, _, rfl⟩ ?_ ?_
      · rintro i x σ' G2 G3 W' H3 hx e2 ⟨rfl, x1, x2, rfl⟩ e3 w3
        obtain ⟨n, _, rfl, hn⟩ := getI hx
        walk_at "zz"
        refine ⟨_, rfl, .int n, ?_⟩
        rw [show inRange 0 255 (.int n) = true by have := hb n hn; simp [inRange, this]]
        walk_at "zz"
        exact st_btw (by walk_at "sm") w3 ⟨rfl, _, _, rfl⟩
      · rintro σ' G2 W' H3 e2 w2 ⟨rfl, x1, x2, rfl⟩
        walk_at "zz"
        exact ⟨_, _, rfl, ha.elim (fun h => .inl (by walk_at "up")) (fun h => .inr (by walk_at "up")), fun l hn => k l G2 _ (by walk_at "sm") (w2.newM hn rfl)⟩
    · have hx1 : NoSeq G1 x := hx.imp id (Or.imp id fun ⟨a, kvs, h1, h2⟩ => ⟨a, kvs, h1, e1 _ _ h2⟩)
      refine isiNo w1 (w1.at hp) hx1 ?_
      walk_at "zz"
      walk_at "zx"
      exact ⟨by simp, fun b hb => mk_done w1 (fun d G' H' e w hd => k d G' H' (e1.trans e) w hd) b hb⟩
    · refine isiSeq (w1.at hp) (.inl (by walk_at "up")) ?_
      walk_at "zz"
      refine ⟨_, _, rfl, .inl (by walk_at "up"), ?_⟩
      walk_at "zz"
      rw [decide_eq_false (show ¬ (70000 < (xs.length : Int)) by omega)]
      walk_at "zz"
      have hil : i < xs.length := by
        rcases Nat.lt_or_ge i xs.length with h | h
        · exact h
        · rw [List.getElem?_eq_none h] at hy
          exact nomatch hy
      refine for_enumA (i1 := 1) (i2 := 2) (.inl (e1.seq ha)) (fun j σ G' W' => j ≤ i ∧ W' = W ∧ ∃ x y, σ = [some (.ref a), x, y]) w1 ⟨Nat.zero_le _, rfl, _, _, rfl⟩ ?_ ?_
      · rintro j z σ' G2 G3 W' H3 hz e2 ⟨hji, rfl, x1, x2, rfl⟩ e3 w3
        walk_at "zz"
        by_cases hlt : j < i
        · obtain ⟨n, rfl, hn⟩ := hj j z hlt hz
          refine ⟨_, rfl, .int n, ?_⟩
          rw [show inRange 0 255 (.int n) = true by simp [inRange, hn]]
          walk_at "zz"
          exact st_btw (by walk_at "sm") w3 ⟨hlt, rfl, _, _, rfl⟩
        · obtain rfl : j = i := by omega
          rw [hy] at hz
          cases hz
          refine ⟨_, rfl, hk G3 _ _ ((e1.trans e2).trans e3) w3, ?_⟩
          rw [hyb]
          walk_at "zx"
          exact ⟨by simp, fun b hb => mk_done w3 (fun d G' H' e w hd => k d G' H' (((e1.trans e2).trans e3).trans e) w hd) b hb⟩
      · rintro σ' G2 W' H3 e2 w2 ⟨hji, rfl, x1, x2, rfl⟩
        omega

/-! ### checks -/
def ckStep (s : Int × Int) (n : Int) : Int × Int := ((s.1 + n) % 65521, (s.2 + (s.1 + n) % 65521) % 65521)
def ckRun (ns : List Int) (s : Int × Int) : Int × Int := ns.foldl ckStep s
def ckSum (ns : List Int) (st : Int) : Int := (ckRun ns (st % 65536, st / 65536)).2 * 65536 + (ckRun ns (st % 65536, st / 65536)).1
theorem ckRun_bd (ns : List Int) (s : Int × Int) (h : -(2 ^ 63) < s.2 ∧ s.2 < 2 ^ 63) : -(2 ^ 63) < (ckRun ns s).2 ∧ (ckRun ns s).2 < 2 ^ 63 := by
  induction ns generalizing s with
  | nil => exact h
  | cons n ns ih =>
    refine ih _ ?_
    unfold ckStep
    dsimp only
    omega
def sp_check_sum (K : PySem.W.Frag) : Sp := fun vs H Q _ => ∃ (G : Hp) (W : Wl) (a : Addr) (ns : List Int) (st : Int), Wd G W H ∧ vs = [.ref a, .int st] ∧ SqL K G a (ns.map V.int) ∧ ∀ G' H', Same G G' → Wd G' W H' → Q (.int (ckSum ns st)) H'
theorem ok_check_sum (T : Txt K mg A) : FnOk P w K mg base CX0 1 A.f_check_sum A.fd_check_sum sP_check_sum (sp_check_sum K) := by
  refine okD T.F_check_sum sc_check_sum (fun vs H Q E h => ?_) (fun cdv Ar outer s H vs Q E hr h => ⟨_, (pss_cons (ps_par (i := 2) (j := 3) (by rfl) sc_check_sum.nd rfl rfl (by decide) rfl rfl (pa_cons (pe_op op_mod (pv 1) (pe_glob (v := .int 65536) rfl T.m_HALF ⟨_, rfl⟩)) (pa_cons (pe_op op_fdiv (pv 1) (pe_glob (v := .int 65536) rfl T.m_HALF ⟨_, rfl⟩)) pa_nil)) (by rfl))
      (pss_cons (ps_for PassesOwn.never rfl (pi_list (pv 0)) (pg_name (i := 4) sc_check_sum.nd rfl (Or.inl rfl)) (pss_cons (ps_set (i := 2) sc_check_sum.nd rfl (Or.inl rfl) (pe_op op_mod (pe_op op_add (pv 2) (pv 4)) (pe_glob (v := .int 65521) rfl T.m_MODULUS ⟨_, rfl⟩)))
      (pss_one (ps_set (i := 3) sc_check_sum.nd rfl (Or.inl rfl) (pe_op op_mod (pe_op op_add (pv 3) (pv 2)) (pe_glob (v := .int 65521) rfl T.m_MODULUS ⟨_, rfl⟩))))))
      (pss_one (ps_ret (pe_op op_add (pe_op op_mul (pv 3) (pe_glob (v := .int 65536) rfl T.m_HALF ⟨_, rfl⟩)) (pv 2)))))), ?_⟩)
  · obtain ⟨G, W, a, ns, st, _, rfl, _⟩ := h
    rfl
  · obtain ⟨G, W, a, ns, st, w, rfl, ha, k⟩ := h
    walk_at "zz"
    refine for_l ha (fun i σ G' W' => W' = W ∧ ∃ x, σ = [some (.ref a), some (.int st), some (.int (ckRun (ns.take i) (st % 65536, st / 65536)).1), some (.int (ckRun (ns.take i) (st % 65536, st / 65536)).2), x]) w ⟨rfl, _, rfl⟩ ?_ ?_
    · rintro i x σ' G2 W' H3 hx e2 w3 ⟨rfl, x1, rfl⟩
      obtain ⟨n, hn, rfl, _⟩ := getI hx
      walk_at "zz"
      refine st_btw (by walk_at "sm") w3 ⟨rfl, some (.int n), ?_⟩
      have e : ns.take (i + 1) = ns.take i ++ [n] := by rw [List.take_add_one, hn]; rfl
      rw [e]
      simp only [ckRun, List.foldl_append, List.foldl_cons, List.foldl_nil]
      rfl
    · rintro σ' G2 W' H3 e2 w2 ⟨rfl, x1, rfl⟩
      rw [List.length_map, List.take_length]
      walk_at "zz"
      exact k _ H3 (by walk_at "sm") w2
def sp_check (K : PySem.W.Frag) (C : Addr) : Sp := fun vs H Q E => ∃ (G : Hp) (W : Wl) (x : V) (st : Int), Wd G W H ∧ vs = [x, .int st] ∧
  ((∃ ns, OkD K G x ns ∧ ∀ G' H', Same G G' → Wd G' W H' → Q (.int (ckSum ns st)) H') ∨ (NoSeq G x ∧ Out C G W (-1) E) ∨ ∃ i : Nat, BadAt K G x i ∧ Out C G W i E)
theorem ok_check (T : Txt K mg A) : FnOk P w K mg base (L2.CX P w) 5 A.f_check A.fd_check sP_check (sp_check K A.x_BadData) := by
  refine okX T.F_check sc_check (fun vs H Q E h => ?_) (fun cdv Ar outer s H vs Q E hr h => ⟨_, (pss_one (ps_ret (pe_call (ok_check_sum T) (hr.mono (by decide)) rfl T.m_check_sum T.F_check_sum.kp T.b_check_sum .nil pass0 (pa_cons (pe_call (ok_checked_data T) (hr.mono (by decide)) rfl T.m_checked_data T.F_checked_data.kp T.b_checked_data .nil (passes_call (takes_of rfl rfl rfl rfl) (fun _ _ _ _ h => h)) (pa_cons (pv 0) pa_nil)) (pa_cons (pv 1) pa_nil))))), ?_⟩)
  · obtain ⟨G, W, x, st, _, rfl, _⟩ := h
    rfl
  · obtain ⟨G, W, x, st, w, rfl, h⟩ := h
    walk_at "zz"
    refine ⟨G, W, x, w, rfl, ?_⟩
    rcases h with ⟨ns, hx, k⟩ | ⟨hx, k⟩ | ⟨i, hx, k⟩
    · refine .inl ⟨ns, hx, fun p G1 H1 e1 w1 => ?_⟩
      obtain ⟨o, rfl, _, e2, w2⟩ := w1.freeze1
      walk_at "zz"
      exact ⟨_, W, p, ns, st, w2, rfl, SqL.of upd_same, fun G3 H3 e3 w3 => k G3 H3 ((e1.trans e2).trans e3) w3⟩
    · exact .inr (.inl ⟨hx, k⟩)
    · exact .inr (.inr ⟨i, hx, k⟩)
/-! the algebra of checks -/
def tri : Int → List Int → Int
  | _, [] => 0
  | a, n :: ns => (a + n) + tri (a + n) ns
theorem tri_cons (a n : Int) (ns : List Int) : tri a (n :: ns) = (a + n) + tri (a + n) ns := rfl
theorem ckRun_eq : ∀ (ns : List Int) (a b : Int), ckRun ns (a % 65521, b % 65521) = ((a + ns.sum) % 65521, (b + tri a ns) % 65521)
  | [], a, b => by simp [ckRun, tri]
  | n :: ns, a, b => by
    have h := ckRun_eq ns (a + n) (b + (a + n))
    have e : ckRun (n :: ns) (a % 65521, b % 65521) = ckRun ns ((a + n) % 65521, (b + (a + n)) % 65521) := by
      show ckRun ns (ckStep (a % 65521, b % 65521) n) = _
      unfold ckStep
      dsimp only
      rw [show (a % 65521 + n) % 65521 = (a + n) % 65521 by omega, show (b % 65521 + (a + n) % 65521) % 65521 = (b + (a + n)) % 65521 by omega]
    rw [e, h, List.sum_cons]
    rw [tri_cons]
    rw [Int.add_assoc a n, Int.add_assoc b]
theorem split16 (x y : Int) (hx : 0 ≤ x) (hx2 : x < 65521) : (y * 65536 + x) % 65536 = x ∧ (y * 65536 + x) / 65536 = y := by omega

/-! ### draws with powers: the bag counts them -/
def BagN (N : Nat) : HO → Prop := fun o => ∃ x y z : Int, o = .lst [.int x, .int y, .int z] ∧ 0 ≤ x ∧ 0 ≤ y ∧ y < 2 ^ 90 ∧ 0 ≤ z ∧ z ≤ N
theorem BagN.mono {m n : Nat} (h : m ≤ n) (o : HO) (b : BagN m o) : BagN n o := by
  obtain ⟨x, y, z, rfl, h1, h2, h3, h4, h5⟩ := b
  exact ⟨x, y, z, rfl, h1, h2, h3, h4, by omega⟩
def sp_take : Sp := fun vs H Q _ => ∃ G W1 W2 b n m, Wd G (W1 ++ (b, BagN n) :: W2) H ∧ vs = [.ref b, .int m] ∧ n ≤ 1000000000 ∧ 0 < m ∧ m < 2 ^ 200 ∧ ∀ r H', 0 ≤ r → r < m → Wd G (W1 ++ (b, BagN (n + 1)) :: W2) H' → Q (.int r) H'
theorem ok__law_take (T : Txt K mg A) : FnOk P w K mg base CX0 1 A.f__law_take A.fd__law_take sP__law_take sp_take := by
  refine okD T.F__law_take sc__law_take (fun vs H Q E h => ?_) (fun cdv Ar outer s H vs Q E hr h => ⟨_, (pss_cons (ps_if (pt_cmpR op_gt (pe_ix ix_list (pv 0) (pe_int) (fun _ _ => rfl)) (pe_int) (nomark _)) (pss_cons (ps_set (i := 2) sc__law_take.nd rfl (Or.inl rfl) (pe_op op_mod (pe_ix ix_list (pv 0) (pe_int) (fun _ _ => rfl)) (pv 1)))
      (pss_cons (ps_asg (pe_op op_fdivW (pe_ix ix_list (pv 0) (pe_int) (fun _ _ => rfl)) (pv 1)) (pg_sub (pv 0) (pe_int) set_list))
      (pss_one (ps_ret (pv 2))))) pss_nil)
      (pss_cons (ps_asg (pe_op op_add (pe_ix ix_list (pv 0) (pe_int) (fun _ _ => rfl)) (pe_int)) (pg_sub (pv 0) (pe_int) set_list))
      (pss_cons (ps_set (i := 3) sc__law_take.nd rfl (Or.inl rfl) (pe_op op_mod (pe_op op_powW (pe_op op_add (pe_ix ix_list (pv 0) (pe_int) (fun _ _ => rfl)) (pe_op op_mul (pe_int) (pe_ix ix_list (pv 0) (pe_int) (fun _ _ => rfl)))) (pe_int)) (pe_int)))
      (pss_cons (ps_set (i := 3) sc__law_take.nd rfl (Or.inl rfl) (pe_op op_mod (pe_op op_powW (pe_op op_add (pv 3) (pe_op op_mul (pe_int) (pe_ix ix_list (pv 0) (pe_int) (fun _ _ => rfl)))) (pe_int)) (pe_int)))
      (pss_one (ps_ret (pe_op op_mod (pe_op op_fdivW (pv 3) (pe_int)) (pv 1)))))))), ?_⟩)
  · obtain ⟨G, W1, W2, b, n, m, _, rfl, _⟩ := h
    rfl
  · obtain ⟨G, W1, W2, b, n, m, w, rfl, hn, h0, hm, k⟩ := h
    obtain ⟨o, hb, x, y, z, rfl, hx, hy, hy2, hz, hz2⟩ := w.get (List.mem_append_right _ List.mem_cons_self)
    walk_at "zz"
    refine st_ixL (SqL.of hb) rfl ?_
    walk_at "zz"
    by_cases hx0 : 0 < x
    · rw [decide_eq_true hx0]
      refine iteT ?_
      walk_at "zz"
      refine st_ixL (SqL.of hb) rfl ?_
      walk_at "zz"
      refine st_ixL (SqL.of hb) rfl ?_
      walk_at "zz"
      refine st_i (dw_ok h0 (by omega)) ?_
      walk_at "zz"
      refine st_setL hb rfl ?_
      walk_at "zz"
      exact k _ _ (Int.emod_nonneg _ (by omega)) (Int.emod_lt_of_pos _ h0) (w.put ⟨_, _, _, rfl, Int.ediv_nonneg hx (by omega), hy, hy2, hz, by omega⟩)
    · rw [decide_eq_false hx0]
      refine iteF ?_
      walk_at "zz"
      refine st_ixL (SqL.of hb) rfl ?_
      walk_at "zz"
      refine st_setL hb rfl ?_
      walk_at "zz"
      refine st_ixL (SqL.of upd_same) rfl ?_
      walk_at "zz"
      refine st_ixL (SqL.of upd_same) rfl ?_
      walk_at "zz"
      refine st_i (pw_ok (by omega) (by omega) (by decide) (by decide)) ?_
      walk_at "zz"
      refine st_ixL (SqL.of upd_same) rfl ?_
      walk_at "zz"
      have hw := Int.emod_nonneg ((y + 1000211 * (z + 1)) ^ (3 : Int).toNat) (show (2305843009213693921 : Int) ≠ 0 by decide)
      have hw2 := Int.emod_lt_of_pos ((y + 1000211 * (z + 1)) ^ (3 : Int).toNat) (show (0 : Int) < 2305843009213693921 by decide)
      generalize (y + 1000211 * (z + 1)) ^ (3 : Int).toNat % 2305843009213693921 = u at hw hw2
      refine st_i (pw_ok (by omega) (by omega) (by decide) (by decide)) ?_
      walk_at "zz"
      refine st_i (dw_ok (by decide) (by decide)) ?_
      walk_at "zz"
      exact k _ _ (Int.emod_nonneg _ (by omega)) (Int.emod_lt_of_pos _ h0) (w.put ⟨_, _, _, rfl, hx, hy, hy2, by omega, by omega⟩)
def sp_bag (K : PySem.W.Frag) : Sp := fun vs H Q _ => ∃ (G : Hp) (W : Wl) (a : Addr) (ns : List Int) (i : Int), Wd G W H ∧ vs = [.ref a, .int i] ∧ SqL K G a (ns.map V.int) ∧ 0 ≤ i ∧ i < 1000000 ∧ ∀ p H', Wd G ((p, BagN 0) :: W) H' → Q (.ref p) H'
theorem ok__law_bag (T : Txt K mg A) : FnOk P w K mg base CX0 1 A.f__law_bag A.fd__law_bag sP__law_bag (sp_bag K) := by
  refine okD T.F__law_bag sc__law_bag (fun vs H Q E h => ?_) (fun cdv Ar outer s H vs Q E hr h => ⟨_, (pss_cons (ps_set (i := 2) sc__law_bag.nd rfl (Or.inl rfl) (pe_ifExp (pt_cmpR op_lt (pv 1) (pe_callB call_len_seq (by rfl) T.z_len PySem.boot_len (pa_cons (pv 0) pa_nil)) (nomark _)) (pe_ix ix_list (pv 0) (pv 1) (fun _ _ => rfl)) (pe_int)))
      (pss_cons (ps_set (i := 3) sc__law_bag.nd rfl (Or.inl rfl) (pe_ifExp (pt_cmpR op_ge (pe_callB call_abs (by rfl) T.z_abs (by decide +kernel) (pa_cons (pv 2) pa_nil)) (pe_op op_powW (pe_int) (pe_int)) (nomark _)) (pe_callB call_abs (by rfl) T.z_abs (by decide +kernel) (pa_cons (pv 2) pa_nil)) (pe_int)))
      (pss_one (ps_ret (pe_lst (pa_cons (pv 3) (pa_cons (pe_op op_add (pe_op op_add (pe_op op_mul (pe_op op_mod (pv 2) (pe_int)) (pe_int)) (pe_op op_mul (pe_int) (pv 1))) (pe_int)) (pa_cons (pe_int) pa_nil)))))))), ?_⟩)
  · obtain ⟨G, W, a, ns, i, _, rfl, _⟩ := h
    rfl
  · obtain ⟨G, W, a, ns, i, w, rfl, ha, h0, h1, k⟩ := h
    walk_at "zz"
    walk_at "zi"
    walk_at "zz"
    refine ⟨_, _, rfl, .inl (by walk_at "up"), ?_⟩
    walk_at "zz"
    by_cases hi : i < ((ns.map V.int).length : Int)
    case' pos =>
      rw [decide_eq_true hi]
      refine iteT ?_
      obtain ⟨n, hn⟩ : ∃ n, ns[i.toNat]? = some n := ⟨_, List.getElem?_eq_getElem (by rw [List.length_map] at hi; omega)⟩
      walk_at "zz"
      refine st_ixL (v := .int n) (by walk_at "up") (by rw [show i = (i.toNat : Int) by omega]; exact atI_nat (by rw [List.getElem?_map, hn]; rfl)) ?_
    case' neg =>
      rw [decide_eq_false hi]
      refine iteF ?_
    all_goals
      walk_at "zz"
      walk_at "zi"
      walk_at "zz"
      refine ⟨_, rfl, ?_⟩
      walk_at "zz"
      refine ite2 (fun hf => ?_) (fun hf => ?_)
      case' refine_1 =>
        walk_at "zz"
        refine ⟨_, rfl, ?_⟩
      all_goals
        walk_at "zz"
        refine ⟨small (by simp), fun p hp => k p _ (w.newM hp ⟨_, _, _, rfl, ?_, ?_, ?_, ?_, ?_⟩)⟩
        · first | omega | (split <;> omega)
        all_goals omega

/-! ### the law's parts -/
theorem split_run (xs : List Int) : ckSum xs 1 % 65536 = (ckRun xs (1, 0)).1 ∧ ckSum xs 1 / 65536 = (ckRun xs (1, 0)).2 := by
  have h := ckRun_eq xs 1 0
  rw [show ((1 : Int) % 65521, (0 : Int) % 65521) = (1, 0) by decide] at h
  unfold ckSum
  rw [show ((1 : Int) % 65536, (1 : Int) / 65536) = (1, 0) by decide, h]
  exact split16 _ _ (by omega) (by omega)
theorem ck_more (xs ys : List Int) : ckSum ys (ckSum xs 1) = ckSum (xs ++ ys) 1 := by
  obtain ⟨h1, h2⟩ := split_run xs
  show (ckRun ys (ckSum xs 1 % 65536, ckSum xs 1 / 65536)).2 * 65536 + (ckRun ys (ckSum xs 1 % 65536, ckSum xs 1 / 65536)).1 = _
  rw [h1, h2]
  unfold ckSum
  rw [show ((1 : Int) % 65536, (1 : Int) / 65536) = (1, 0) by decide]
  unfold ckRun
  rw [List.foldl_append]
theorem ck_nil (s : Int) : ckSum [] s = s := by
  show s / 65536 * 65536 + s % 65536 = s
  omega
def sp_sum (K : PySem.W.Frag) : Sp := fun vs H Q _ => ∃ (G : Hp) (W : Wl) (a : Addr) (ns : List Int) (st : Int), Wd G W H ∧ vs = [.ref a, .int st] ∧ SqL K G a (ns.map V.int) ∧ ∀ G' H', Same G G' → Wd G' W H' → Q (.int (ckSum ns st)) H'
theorem ok__law_sum (T : Txt K mg A) : FnOk P w K mg base CX0 1 A.f__law_sum A.fd__law_sum sP__law_sum (sp_sum K) := by
  refine okD T.F__law_sum sc__law_sum (fun vs H Q E h => ?_) (fun cdv Ar outer s H vs Q E hr h => ⟨_, (pss_cons (ps_par (i := 2) (j := 3) (by rfl) sc__law_sum.nd rfl rfl (by decide) rfl rfl (pa_cons (pe_op op_mod (pv 1) (pe_int)) (pa_cons (pe_op op_fdiv (pv 1) (pe_int)) pa_nil)) (by rfl))
      (pss_cons (ps_for PassesOwn.never rfl (pi_list (pv 0)) (pg_name (i := 4) sc__law_sum.nd rfl (Or.inl rfl)) (pss_cons (ps_set (i := 2) sc__law_sum.nd rfl (Or.inl rfl) (pe_op op_mod (pe_op op_add (pv 2) (pv 4)) (pe_int)))
      (pss_one (ps_set (i := 3) sc__law_sum.nd rfl (Or.inl rfl) (pe_op op_mod (pe_op op_add (pv 3) (pv 2)) (pe_int))))))
      (pss_one (ps_ret (pe_op op_add (pe_op op_mul (pe_int) (pv 3)) (pv 2)))))), ?_⟩)
  · obtain ⟨G, W, a, ns, st, _, rfl, _⟩ := h
    rfl
  · obtain ⟨G, W, a, ns, st, w, rfl, ha, k⟩ := h
    walk_at "zz"
    refine for_l ha (fun i σ G' W' => W' = W ∧ ∃ x, σ = [some (.ref a), some (.int st), some (.int (ckRun (ns.take i) (st % 65536, st / 65536)).1), some (.int (ckRun (ns.take i) (st % 65536, st / 65536)).2), x]) w ⟨rfl, _, rfl⟩ ?_ ?_
    · rintro i x σ' G2 W' H3 hx e2 w3 ⟨rfl, x1, rfl⟩
      obtain ⟨n, hn, rfl, _⟩ := getI hx
      walk_at "zz"
      refine st_btw (by walk_at "sm") w3 ⟨rfl, some (.int n), ?_⟩
      have e : ns.take (i + 1) = ns.take i ++ [n] := by rw [List.take_add_one, hn]; rfl
      rw [e]
      simp only [ckRun, List.foldl_append, List.foldl_cons, List.foldl_nil]
      rfl
    · rintro σ' G2 W' H3 e2 w2 ⟨rfl, x1, rfl⟩
      rw [List.length_map, List.take_length]
      walk_at "zz"
      rw [Int.mul_comm]
      exact k _ H3 (by walk_at "sm") w2
def sp_data (K : PySem.W.Frag) : Sp := fun vs H Q _ => ∃ (G : Hp) (W : Wl) (b : Addr) (n : Nat), Wd G ((b, BagN n) :: W) H ∧ vs = [.ref b] ∧ n ≤ 1000000 ∧
  ∀ p ns G' H', Same G G' → Wd G' ((b, BagN (n + 70)) :: W) H' → HL G' p ns → Byt ns → ns.length ≤ 60 → Q (.ref p) H'
theorem byt_app {xs : List Int} {n : Int} (h : Byt xs) (h1 : 0 ≤ n ∧ n ≤ 255) : Byt (xs ++ [n]) := fun x hx => by
  rcases List.mem_append.mp hx with hx | hx
  · exact h x hx
  · rw [List.mem_singleton.mp hx]
    exact h1
theorem Wd.more {G : Hp} {W : Wl} {H : Hp} {b : Addr} {m n : Nat} (w : Wd G ((b, BagN m) :: W) H) (h : m ≤ n) : Wd G ((b, BagN n) :: W) H := Wd.imp (W1 := []) w (BagN.mono h)
theorem ok__law_data (T : Txt K mg A) : FnOk P w K mg base CX0 2 A.f__law_data A.fd__law_data sP__law_data (sp_data K) := by
  refine okD T.F__law_data sc__law_data (fun vs H Q E h => ?_) (fun cdv Ar outer s H vs Q E hr h => ⟨_, (pss_cons (ps_if (pt_cmpR op_eq (pe_call (ok__law_take T) (hr.mono (by decide)) rfl T.m__law_take T.F__law_take.kp T.b__law_take .nil pass0 (pa_cons (pv 0) (pa_cons (pe_int) pa_nil))) (pe_int) (nomark _)) (pss_one (ps_ret (pe_op op_rep (pe_lst (pa_cons (pe_ix ix_list (pe_lst (pa_cons (pe_int) (pa_cons (pe_int) (pa_cons (pe_int) (pa_cons (pe_int) pa_nil))))) (pe_call (ok__law_take T) (hr.mono (by decide)) rfl T.m__law_take T.F__law_take.kp T.b__law_take .nil pass0 (pa_cons (pv 0) (pa_cons (pe_int) pa_nil))) (fun _ _ => rfl)) pa_nil)) (pe_call (ok__law_take T) (hr.mono (by decide)) rfl T.m__law_take T.F__law_take.kp T.b__law_take .nil pass0 (pa_cons (pv 0) (pa_cons (pe_int) pa_nil)))))) pss_nil)
      (pss_one (ps_ret (pe_lc (own := [("_law_turn", 1)]) (g := gName 1) (tt := tYes) rfl sc__law_data.nd (pi_range1 (by rfl) T.z_range (pa_cons (pe_call (ok__law_take T) (hr.mono (by decide)) rfl T.m__law_take T.F__law_take.kp T.b__law_take .nil pass0 (pa_cons (pv 0) (pa_cons (pe_int) pa_nil))) pa_nil)) (blkOk_by (own := [("_law_turn", 1)]) (N := sN__law_data) (sc := defScope s__law_data) (by decide +kernel)) (fun _ _ _ _ _ => pg_name (i := 1) sc__law_data.nd rfl (Or.inl rfl)) (fun _ _ _ _ _ => pts_nil) (fun _ _ _ _ _ => (pe_call (ok__law_take T) (hr.mono (by decide)) rfl T.m__law_take T.F__law_take.kp T.b__law_take .nil pass0 (pa_cons (pv 0) (pa_cons (pe_int) pa_nil)))))))), ?_⟩)
  · obtain ⟨G, W, b, n, _, rfl, _⟩ := h
    rfl
  · obtain ⟨G, W, b, n, w, rfl, hn, k⟩ := h
    walk_at "zz"
    refine ⟨G, [], W, b, n, 3, w, rfl, by omega, by decide, by decide, fun r H1 hr0 hr1 w1 => ?_⟩
    have w1' : Wd G ((b, BagN (n + 1)) :: W) H1 := w1
    walk_at "zz"
    refine ite2 (fun _ => ?_) (fun _ => ?_)
    · walk_at "zz"
      refine ⟨by decide, NewO.good w1' fun p2 G2 H2 e2 w2 h2 => ?_⟩
      walk_at "zz"
      refine ⟨G2, [], W, b, _, 4, w2, rfl, by omega, by decide, by decide, fun r3 H3 hr2 hr3 w3 => ?_⟩
      have w3' : Wd G2 ((b, BagN (n + 1 + 1)) :: W) H3 := w3
      have hv : ∃ z : Int, atI [V.int 0, .int 1, .int 255, .int 128] r3 = some (.int z) ∧ 0 ≤ z ∧ z ≤ 255 := by
        rcases (show r3 = 0 ∨ r3 = 1 ∨ r3 = 2 ∨ r3 = 3 by omega) with rfl | rfl | rfl | rfl
        · exact ⟨_, rfl, by decide, by decide⟩
        · exact ⟨_, rfl, by decide, by decide⟩
        · exact ⟨_, rfl, by decide, by decide⟩
        · exact ⟨_, rfl, by decide, by decide⟩
      obtain ⟨z, hz, hz0⟩ := hv
      refine st_ixL (v := .int z) (SqL.of (hUp w3' h2)) hz ?_
      walk_at "zz"
      refine ⟨small (by simp), NewO.good w3' fun p4 G4 H4 e4 w4 h4 => ?_⟩
      walk_at "zz"
      refine ⟨G4, [], W, b, _, 60, w4, rfl, by omega, by decide, by decide, fun r5 H5 hr4 hr5 w5 => ?_⟩
      have w5' : Wd G4 ((b, BagN (n + 1 + 1 + 1)) :: W) H5 := w5
      refine st_repI (hUp w5' h4) hr4 (by omega) w5' fun p6 G6 H6 e6 w6 h6 => ?_
      exact k p6 _ G6 H6 (by walk_at "sm") (w6.more (by omega)) h6 (fun y hy => by rw [(List.mem_replicate.mp hy).2]; exact hz0) (by simp; omega)
    · walk_at "zz"
      refine ⟨G, [], W, b, _, 60, w1', rfl, by omega, by decide, by decide, fun r6 H6 hr6 hr7 w6 => ?_⟩
      refine lc_r1W (by omega) (fun j => (b, BagN (n + 1 + 1 + j)) :: W) (fun j acc _ => ∃ ns : List Int, acc = ns.map V.int ∧ Byt ns ∧ ns.length = j) w6 ⟨[], rfl, (fun _ h => nomatch h), rfl⟩ (fun _ => rfl) ?_ ?_
      · rintro j D G' H' acc hj e w' ⟨ns, rfl, hB, hl2⟩
        walk_at "zz"
        refine ⟨G', [_], W, b, _, 256, w', rfl, by omega, by decide, by decide, fun r7 H7 hr8 hr9 w7 => ?_⟩
        refine lc_put w7 (by walk_at "sm") (by rw [List.length_map]; omega) ⟨ns ++ [r7], by simp, byt_app hB (by omega), by simp [hl2]⟩
      · rintro D G' H' acc e w' ⟨ns, rfl, hB, hl2⟩
        obtain ⟨o, rfl, ho, e2, w7⟩ := w'.freeze1
        exact k D ns _ _ (by walk_at "sm") (w7.more (by omega)) upd_same hB (by omega)
def sp_refused (K : PySem.W.Frag) : Sp := fun vs H Q _ => ∃ (G : Hp) (W : Wl) (x : V) (i : Int), Wd G W H ∧ vs = [x] ∧ ((NoSeq G x ∧ i = -1) ∨ ∃ j : Nat, BadAt K G x j ∧ i = j) ∧
  ∀ p G' H', Same G G' → Wd G' W H' → G' p = some (.lst [.int i, .bl true]) → Q (.ref p) H'
theorem ok__law_refused (T : Txt K mg A) : FnOk P w K mg base CX0 6 A.f__law_refused A.fd__law_refused sP__law_refused (sp_refused K) := by
  refine okD T.F__law_refused sc__law_refused (fun vs H Q E h => ?_) (fun cdv Ar outer s H vs Q E hr h => ⟨_, (pss_cons (ps_try_as (i := 1) (Wout := fun _ _ _ _ => False) rfl rfl sc__law_refused.nd rfl rfl ⟨rfl, by decide, Or.inl T.x_BadData.gC⟩ takes0 (fun W pn xe tk po => (pss_one (ps_expr (pe_callSD (ok_check T) (hr.mono (by decide)) rfl T.m_check T.F_check.kp T.b1_check.choose_spec.2 T.b1_check.choose_spec.1 (fun σ => passAt tk σ) (pa_cons (pv 0) pa_nil))))) (fun a oe cls d pn hz hf => (pss_one (ps_ret (pe_lst (pa_cons (pe_xf T.x_BadData.xf T.x_BadData.no hz hf (pv 1)) (pa_cons (pe_callB (call_isEd T.x_BadData.xc hz hf) (by rfl) T.z_isinstance (by decide +kernel) (pa_cons (pv 1) (pa_cons (pe_bltn (v := .ty "ValueError") (u := .type "ValueError") (by rfl) T.z_ValueError (by decide +kernel) rfl) pa_nil))) pa_nil)))))))
      (pss_one (ps_ret (pe_non)))), ?_⟩)
  · obtain ⟨G, W, x, i, _, rfl, _⟩ := h
    rfl
  · obtain ⟨G, W, x, i, w, rfl, h, k⟩ := h
    walk_at "zx"
    refine ⟨G, W, x, 1, w, rfl, ?_⟩
    rcases h with ⟨hx, rfl⟩ | ⟨j, hx, rfl⟩
    case' inl => refine .inr (.inl ⟨hx, fun d G1 H1 e1 w1 hd => ?_⟩)
    case' inr => refine .inr (.inr ⟨j, hx, fun d G1 H1 e1 w1 hd => ?_⟩)
    all_goals
      refine ⟨true, T.x_BadData.te, fun _ a ha => ?_, fun h => nomatch h⟩
      walk_at "zx"
      refine ⟨rfl, rfl, d, _, _, rfl, w1.at hd, rfl, ?_⟩
      walk_at "zx"
      refine ⟨_, .type "ValueError", true, d, _, rfl, rfl, rfl, w1.at hd, fun u r => r, T.x_BadData.kv, ?_⟩
      walk_at "zx"
      exact ⟨small (by simp), NewO.good w1 fun p G2 H2 e2 w2 h2 => k p G2 H2 (by walk_at "sm") w2 h2⟩
theorem eqv_ib (i : Int) : PyData.eqv (.list [.int i, .bool true]) (.list [.int i, .bool true]) = true := by simp [PyData.eqv, PyData.eqvAll]
theorem sh_ib (i : Int) : SeqAt.shaped (.list [.int i, .bool true]) = true := (Sh.list (n := 0) fun d hd => by
  rcases List.mem_cons.mp hd with rfl | hd
  · exact .int i
  · rw [List.mem_singleton.mp hd]
    exact .bool true).ok (by decide)
theorem st_neIB {H : Hp} {Q : VK} {a b : Addr} {i : Int} (hx : SqL K H a [.int i, .bl true]) (hy : SqL K H b [.int i, .bl true]) (q : Q (.bl false) H) : rNeD K (.ref a) (.ref b) H Q :=
  st_neD (.lst hx (.cons (.int _) (.cons (.bl _) .nil))) (.lst hy (.cons (.int _) (.cons (.bl _) .nil))) (sh_ib i) (sh_ib i) (eqv_ib i) q
def Odd (K : PySem.W.Frag) (G : Hp) (y : V) : Prop := (∀ G' H' W, Same G G' → Wd G' W H' → Knd K H' y) ∧ inRange 0 255 y = false
def spLaw (K : PySem.W.Frag) : Sp := fun vs H Q _ => ∃ (a : Addr) (ns : List Int), vs = [.ref a] ∧ SqL K H a (ns.map V.int) ∧ ns.length ≤ 63 ∧ ∀ H', Q (.bl true) H'
theorem ok_law (T : Txt K mg A) : FnOk P w K mg base CX0 7 A.f_law A.fd_law sP_law (spLaw K) := by
  refine okD T.F_law sc_law (fun vs H Q E h => ?_) (fun cdv Ar outer s H vs Q E hr h => ⟨_, (pss_cons (ps_for PassesOwn.never rfl (pi_range1 (by rfl) T.z_range (pa_cons (pe_callB (call_max2 rfl) (by rfl) T.z_max (by decide +kernel) (pa_cons (pe_int) (pa_cons (pe_callB (call_min2 rfl) (by rfl) T.z_min (by decide +kernel) (pa_cons (pe_int) (pa_cons (pe_callB call_len_seq (by rfl) T.z_len PySem.boot_len (pa_cons (pv 0) pa_nil)) pa_nil))) pa_nil))) pa_nil)) (pg_name (i := 1) sc_law.nd rfl (Or.inl rfl)) (pss_cons (ps_set (i := 2) sc_law.nd rfl (Or.inl rfl) (pe_call (ok__law_bag T) (hr.mono (by decide)) rfl T.m__law_bag T.F__law_bag.kp T.b__law_bag .nil pass0 (pa_cons (pv 0) (pa_cons (pv 1) pa_nil))))
      (pss_cons (ps_par (i := 6) (j := 7) (by rfl) sc_law.nd rfl rfl (by decide) rfl rfl (pa_cons (pe_call (ok__law_data T) (hr.mono (by decide)) rfl T.m__law_data T.F__law_data.kp T.b__law_data .nil pass0 (pa_cons (pv 2) pa_nil)) (pa_cons (pe_call (ok__law_data T) (hr.mono (by decide)) rfl T.m__law_data T.F__law_data.kp T.b__law_data .nil pass0 (pa_cons (pv 2) pa_nil)) pa_nil)) (by rfl))
      (pss_cons (ps_set (i := 3) sc_law.nd rfl (Or.inl rfl) (pe_callTy call_list_of (by rfl) T.z_list (by decide +kernel) (pa_cons (pv 6) pa_nil)))
      (pss_cons (ps_if (PW.pt (pw_or (pt_cmpR op_ne (pe_call (ok_check T) (hr.mono (by decide)) rfl T.m_check T.F_check.kp T.b1_check.choose_spec.2 T.b1_check.choose_spec.1 passX0 (pa_cons (pv 6) pa_nil)) (pe_call (ok__law_sum T) (hr.mono (by decide)) rfl T.m__law_sum T.F__law_sum.kp T.b__law_sum .nil pass0 (pa_cons (pv 6) (pa_cons (pe_int) pa_nil))) (nomark _)) (pw_or1 (pt_cmpR op_ne (pe_call (ok_check T) (hr.mono (by decide)) rfl T.m_check T.F_check.kp T.b1_check.choose_spec.2 T.b1_check.choose_spec.1 passX0 (pa_cons (pe_callTy call_tuple_of (by rfl) T.z_tuple (by decide +kernel) (pa_cons (pv 6) pa_nil)) pa_nil)) (pe_call (ok_check T) (hr.mono (by decide)) rfl T.m_check T.F_check.kp T.b1_check.choose_spec.2 T.b1_check.choose_spec.1 passX0 (pa_cons (pv 6) pa_nil)) (nomark _))))) (pss_one (ps_ret (pe_bl))) pss_nil)
      (pss_cons (ps_if (PW.pt (pw_or (pt_cmpR (op_neD hr.units) (pv 6) (pv 3) (nomark _)) (pw_or1 (pt_cmpR op_ne (pe_callN (ok_check T) (hr.mono (by decide)) rfl T.m_check T.F_check.kp T.kb_check_1_start.choose_spec passX0 (pa_cons (pv 7) pa_nil) (pk_cons (pe_call (ok_check T) (hr.mono (by decide)) rfl T.m_check T.F_check.kp T.b1_check.choose_spec.2 T.b1_check.choose_spec.1 passX0 (pa_cons (pv 6) pa_nil)) pk_nil)) (pe_call (ok_check T) (hr.mono (by decide)) rfl T.m_check T.F_check.kp T.b1_check.choose_spec.2 T.b1_check.choose_spec.1 passX0 (pa_cons (pe_op op_cat (pv 6) (pv 7)) pa_nil)) (nomark _))))) (pss_one (ps_ret (pe_bl))) pss_nil)
      (pss_cons (ps_if (pt_cmpR op_ne (pe_call (ok_check T) (hr.mono (by decide)) rfl T.m_check T.F_check.kp T.b_check .nil passX0 (pa_cons (pe_lst pa_nil) (pa_cons (pe_call (ok_check T) (hr.mono (by decide)) rfl T.m_check T.F_check.kp T.b1_check.choose_spec.2 T.b1_check.choose_spec.1 passX0 (pa_cons (pv 6) pa_nil)) pa_nil))) (pe_call (ok_check T) (hr.mono (by decide)) rfl T.m_check T.F_check.kp T.b1_check.choose_spec.2 T.b1_check.choose_spec.1 passX0 (pa_cons (pv 6) pa_nil)) (nomark _)) (pss_one (ps_ret (pe_bl))) pss_nil)
      (pss_cons (ps_set (i := 4) sc_law.nd rfl (Or.inl rfl) (pe_op op_add (pe_call (ok__law_take T) (hr.mono (by decide)) rfl T.m__law_take T.F__law_take.kp T.b__law_take .nil pass0 (pa_cons (pv 2) (pa_cons (pe_int) pa_nil))) (pe_op op_mul (pe_int) (pe_call (ok__law_take T) (hr.mono (by decide)) rfl T.m__law_take T.F__law_take.kp T.b__law_take .nil pass0 (pa_cons (pv 2) (pa_cons (pe_int) pa_nil))))))
      (pss_cons (ps_if (pt_cmpR op_ne (pe_call (ok_check T) (hr.mono (by decide)) rfl T.m_check T.F_check.kp T.b_check .nil passX0 (pa_cons (pv 6) (pa_cons (pv 4) pa_nil))) (pe_call (ok__law_sum T) (hr.mono (by decide)) rfl T.m__law_sum T.F__law_sum.kp T.b__law_sum .nil pass0 (pa_cons (pv 6) (pa_cons (pv 4) pa_nil))) (nomark _)) (pss_one (ps_ret (pe_bl))) pss_nil)
      (pss_cons (ps_set (i := 5) sc_law.nd rfl (Or.inl rfl) (pe_ix ix_list (pe_lst (pa_cons (pe_int) (pa_cons (pe_un un_neg (pe_int)) (pa_cons (pe_bl) (pa_cons (pe_non) (pa_cons (pe_str) (pa_cons (pe_tup (pa_cons (pe_int) pa_nil)) (pa_cons (pe_op op_powW (pe_int) (pe_int)) pa_nil)))))))) (pe_call (ok__law_take T) (hr.mono (by decide)) rfl T.m__law_take T.F__law_take.kp T.b__law_take .nil pass0 (pa_cons (pv 2) (pa_cons (pe_int) pa_nil))) (fun _ _ => rfl)))
      (pss_one (ps_if (pt_cmpR (op_neD hr.units) (pe_call (ok__law_refused T) (hr.mono (by decide)) rfl T.m__law_refused T.F__law_refused.kp T.b__law_refused .nil pass0 (pa_cons (pe_op op_cat (pe_op op_cat (pe_op op_cat (pv 6) (pe_lst (pa_cons (pv 5) pa_nil))) (pv 7)) (pe_lst (pa_cons (pe_non) pa_nil))) pa_nil)) (pe_lst (pa_cons (pe_callB call_len_seq (by rfl) T.z_len PySem.boot_len (pa_cons (pv 6) pa_nil)) (pa_cons (pe_bl) pa_nil))) (nomark _)) (pss_one (ps_ret (pe_bl))) pss_nil))))))))))))
      (pss_cons (ps_if (PW.pt (pw_or (pt_cmpR (op_neD hr.units) (pe_call (ok__law_refused T) (hr.mono (by decide)) rfl T.m__law_refused T.F__law_refused.kp T.b__law_refused .nil pass0 (pa_cons (pe_non) pa_nil)) (pe_lst (pa_cons (pe_un un_neg (pe_int)) (pa_cons (pe_bl) pa_nil))) (nomark _)) (pw_or (pt_cmpR (op_neD hr.units) (pe_call (ok__law_refused T) (hr.mono (by decide)) rfl T.m__law_refused T.F__law_refused.kp T.b__law_refused .nil pass0 (pa_cons (pe_str) pa_nil)) (pe_lst (pa_cons (pe_un un_neg (pe_int)) (pa_cons (pe_bl) pa_nil))) (nomark _)) (pw_or1 (pt_cmpR (op_neD hr.units) (pe_call (ok__law_refused T) (hr.mono (by decide)) rfl T.m__law_refused T.F__law_refused.kp T.b__law_refused .nil pass0 (pa_cons (pe_dnewK) pa_nil)) (pe_lst (pa_cons (pe_un un_neg (pe_int)) (pa_cons (pe_bl) pa_nil))) (nomark _)))))) (pss_one (ps_ret (pe_bl))) pss_nil)
      (pss_cons (ps_set (i := 8) sc_law.nd rfl (Or.inl rfl) (pe_op op_rep (pe_lst (pa_cons (pe_int) pa_nil)) (pe_int)))
      (pss_one (ps_ret ((pe_and (pe_cmpR op_eq (pe_call (ok_check T) (hr.mono (by decide)) rfl T.m_check T.F_check.kp T.b1_check.choose_spec.2 T.b1_check.choose_spec.1 passX0 (pa_cons (pe_lst pa_nil) pa_nil)) (pe_int) (nomark _)) (pe_and (pe_cmpR op_eq (pe_call (ok_check T) (hr.mono (by decide)) rfl T.m_check T.F_check.kp T.b1_check.choose_spec.2 T.b1_check.choose_spec.1 passX0 (pa_cons (pe_lst (pa_cons (pe_int) pa_nil)) pa_nil)) (pe_int) (nomark _)) (pe_one (pe_cmpR op_eq (pe_call (ok_check T) (hr.mono (by decide)) rfl T.m_check T.F_check.kp T.b1_check.choose_spec.2 T.b1_check.choose_spec.1 passX0 (pa_cons (pv 8) pa_nil)) (pe_call (ok__law_sum T) (hr.mono (by decide)) rfl T.m__law_sum T.F__law_sum.kp T.b__law_sum .nil pass0 (pa_cons (pv 8) (pa_cons (pe_int) pa_nil))) (nomark _))))))))))), ?_⟩)
  · obtain ⟨a, ns, rfl, _⟩ := h
    rfl
  · obtain ⟨a, ns, rfl, hS, hn, k⟩ := h
    have w0 : Wd H [] H := ⟨Same.refl _, (fun _ h => nomatch h), List.nodup_nil⟩
    walk_at "zz"
    refine ⟨a, _, rfl, .inl hS, ?_⟩
    walk_at "zz"
    rw [List.length_map]
    refine ⟨_, _, rfl, ?_⟩
    walk_at "zz"
    refine ⟨_, _, rfl, ?_⟩
    walk_at "zz"
    refine for_r1 (by split <;> split <;> omega) (fun i σ G' W' => W' = [] ∧ ∃ x1 x2 x3 x4 x5 x6 x7 x8, σ = [some (.ref a), x1, x2, x3, x4, x5, x6, x7, x8]) w0 ⟨rfl, _, _, _, _, _, _, _, _, rfl⟩ ?_ ?_
    · rintro i σ' G1 W1 H1 hi e1 w1 ⟨rfl, x1, x2, x3, x4, x5, x6, x7, x8, rfl⟩
      have hi6 : (i : Int) < 6 := by split at hi <;> split at hi <;> omega
      walk_at "zz"
      refine ⟨G1, [], a, ns, _, w1, rfl, e1.seq hS, by omega, by omega, fun b H2 w2 => ?_⟩
      walk_at "zz"
      refine ⟨G1, [], b, 0, w2, rfl, by omega, fun p6 xs G3 H3 e3 w3 h6 hxb hxl => ?_⟩
      walk_at "zz"
      refine ⟨G3, [], b, _, w3, rfl, by omega, fun p7 ys G4 H4 e4 w4 h7 hyb hyl => ?_⟩
      walk_at "zz"
      refine ⟨p6, _, rfl, .inl (seq_up w4 (h6.up e4).seq), fun l hl => ?_⟩
      have e5 : Same G4 (upd G4 l (.lst (xs.map V.int))) := same_upd (w4.free hl)
      have w5 : Wd _ _ (upd H4 l (.lst (xs.map V.int))) := w4.new hl
      have hk5 : HL (upd G4 l (.lst (xs.map V.int))) l xs := upd_same
      generalize upd G4 l (.lst (xs.map V.int)) = G5 at e5 w5 hk5
      generalize upd H4 l (.lst (xs.map V.int)) = H5 at w5
      have h65 := (h6.up e4).up e5
      have h75 := h7.up e5
      have okd : ∀ G', Same G5 G' → OkD K G' (.ref p6) xs := fun G' e => ⟨p6, rfl, .inl (h65.up e).seq, hxb, by omega⟩
      walk_at "zz"
      refine ⟨G5, _, .ref p6, 1, w5, rfl, .inl ⟨xs, okd _ (Same.refl _), fun G6 H6 e6 w6 => ?_⟩⟩
      walk_at "zz"
      refine ⟨G6, _, p6, xs, 1, w6, rfl, (h65.up e6).seq, fun G7 H7 e7 w7 => ?_⟩
      walk_at "zz"
      rw [ne_self]
      walk_at "zz"
      refine ⟨p6, _, rfl, .inl ⟨seq_up w7 ((h65.up e6).up e7).seq, fun t ht => ?_⟩⟩
      have e8 : Same G7 (upd G7 t (.tup (xs.map V.int))) := same_upd (w7.free ht)
      have w8 : Wd _ _ (upd H7 t (.tup (xs.map V.int))) := w7.new ht
      have ht8 : SqT K (upd G7 t (.tup (xs.map V.int))) t (xs.map V.int) := SqT.of upd_same
      generalize upd G7 t (.tup (xs.map V.int)) = G8 at e8 w8 ht8
      generalize upd H7 t (.tup (xs.map V.int)) = H8 at w8
      have e58 : Same G5 G8 := (e6.trans e7).trans e8
      walk_at "zz"
      refine ⟨G8, _, .ref t, 1, w8, rfl, .inl ⟨xs, ⟨t, rfl, .inr ht8, hxb, by omega⟩, fun G9 H9 e9 w9 => ?_⟩⟩
      walk_at "zz"
      refine ⟨G9, _, .ref p6, 1, w9, rfl, .inl ⟨xs, okd _ (e58.trans e9), fun G10 H10 e10 w10 => ?_⟩⟩
      walk_at "zz"
      rw [ne_self]
      walk_at "zz"
      have e510 : Same G5 G10 := (e58.trans e9).trans e10
      refine st_neI (xs := xs) (ys := xs) (seq_up w10 (h65.up e510).seq) (seq_up w10 (hk5.up e510).seq) ?_
      rw [decide_eq_true rfl]
      walk_at "zz"
      refine ⟨G10, _, .ref p6, 1, w10, rfl, .inl ⟨xs, okd _ e510, fun G11 H11 e11 w11 => ?_⟩⟩
      have e511 := e510.trans e11
      walk_at "zz"
      refine ⟨rfl, rfl, G11, _, .ref p7, ckSum xs 1, w11, rfl, .inl ⟨ys, ⟨p7, rfl, .inl (h75.up e511).seq, hyb, by omega⟩, fun G12 H12 e12 w12 => ?_⟩⟩
      have e512 := e511.trans e12
      walk_at "zz"
      refine st_catI (hUp w12 (h65.up e512)) (hUp w12 (h75.up e512)) (by omega) w12 fun p13 G13 H13 e13 w13 h13 => ?_
      walk_at "zz"
      refine ⟨G13, _, .ref p13, 1, w13, rfl, .inl ⟨xs ++ ys, ⟨p13, rfl, .inl h13.seq, fun n hn => (List.mem_append.mp hn).elim (hxb n) (hyb n), by rw [List.length_append]; omega⟩, fun G14 H14 e14 w14 => ?_⟩⟩
      have e514 := (e512.trans e13).trans e14
      rw [ck_more]
      walk_at "zz"
      rw [ne_self]
      walk_at "zz"
      refine ⟨by decide, NewO.good w14 fun p15 G15 H15 e15 w15 h15 => ?_⟩
      have e515 := e514.trans e15
      walk_at "zz"
      refine ⟨G15, _, .ref p6, 1, w15, rfl, .inl ⟨xs, okd _ e515, fun G16 H16 e16 w16 => ?_⟩⟩
      have e516 := e515.trans e16
      walk_at "zz"
      refine ⟨G16, _, .ref p15, ckSum xs 1, w16, rfl, .inl ⟨[], ⟨p15, rfl, .inl (SqL.of (e16 _ _ h15)), (fun _ h => nomatch h), by decide⟩, fun G17 H17 e17 w17 => ?_⟩⟩
      have e517 := e516.trans e17
      rw [ck_nil]
      walk_at "zz"
      refine ⟨G17, _, .ref p6, 1, w17, rfl, .inl ⟨xs, okd _ e517, fun G18 H18 e18 w18 => ?_⟩⟩
      have e518 := e517.trans e18
      walk_at "zz"
      rw [ne_self]
      walk_at "zz"
      refine ⟨G18, [], [], b, _, 65521, w18, rfl, by omega, by decide, by decide, fun r1 H19 hr0 hr1 w19 => ?_⟩
      walk_at "zz"
      refine ⟨G18, [], [], b, _, 65521, w19, rfl, by omega, by decide, by decide, fun r2 H20 hr2 hr3 w20 => ?_⟩
      have w20' : Wd G18 [(b, BagN (0 + 70 + 70 + 1 + 1))] H20 := w20
      walk_at "zz"
      refine ⟨G18, _, .ref p6, r1 + 65536 * r2, w20', rfl, .inl ⟨xs, okd _ e518, fun G21 H21 e21 w21 => ?_⟩⟩
      have e521 := e518.trans e21
      walk_at "zz"
      refine ⟨G21, _, p6, xs, _, w21, rfl, (h65.up e521).seq, fun G22 H22 e22 w22 => ?_⟩
      have e522 := e521.trans e22
      walk_at "zz"
      rw [ne_self]
      walk_at "zz"
      refine ⟨by decide, NewO.good w22 fun p23 G23 H23 e23 w23 h23 => ?_⟩
      walk_at "zz"
      refine ⟨small (by simp), NewO.good w23 fun p24 G24 H24 e24 w24 h24 => ?_⟩
      have e524 := (e522.trans e23).trans e24
      walk_at "zz"
      refine ⟨G24, [], [], b, _, 7, w24, rfl, by omega, by decide, by decide, fun r3 H25 hr4 hr5 w25 => ?_⟩
      have w25' : Wd G24 [(b, BagN (0 + 70 + 70 + 1 + 1 + 1))] H25 := w25
      obtain ⟨y, hy, hyo⟩ : ∃ y, atI [V.int 256, .int (-1), .bl true, .non, .str "1", .ref p23, .int (10 ^ 39)] r3 = some y ∧ Odd K G24 y := by
        obtain ⟨y, hy, hm⟩ := at_some (xs := [V.int 256, .int (-1), .bl true, .non, .str "1", .ref p23, .int (10 ^ 39)]) hr4 (by simpa using hr5)
        refine ⟨y, hy, (show AllP (Odd K G24) [V.int 256, .int (-1), .bl true, .non, .str "1", .ref p23, .int (10 ^ 39)] from
          ⟨⟨fun _ _ _ _ _ => .int _, by decide⟩, ⟨fun _ _ _ _ _ => .int _, by decide⟩, ⟨fun _ _ _ _ _ => .bl _, rfl⟩, ⟨fun _ _ _ _ _ => .non, rfl⟩, ⟨fun _ _ _ _ _ => .str _, rfl⟩, ⟨fun G' H' W e w => .tup (SqT.of (hUp w ((e24.trans e) _ _ h23))), rfl⟩, ⟨fun _ _ _ _ _ => .int _, by decide⟩, trivial⟩).of y hm⟩
      refine st_ixL (SqL.of (hUp w25' h24)) hy ?_
      walk_at "zz"
      refine ⟨small (by simp), NewO.good w25' fun p26 G26 H26 e26 w26 h26 => ?_⟩
      have e526 := e524.trans e26
      refine st_catV (hUp w26 (h65.up e526)) (hUp w26 h26) (by simp; omega) w26 fun p27 G27 H27 e27 w27 h27 => ?_
      walk_at "zz"
      refine st_catV (hUp w27 h27) (hUp w27 ((h75.up e526).up e27)) (by simp; omega) w27 fun p28 G28 H28 e28 w28 h28 => ?_
      walk_at "zz"
      refine ⟨by decide, NewO.good w28 fun p29 G29 H29 e29 w29 h29 => ?_⟩
      refine st_catV (hUp w29 (e29 _ _ h28)) (hUp w29 h29) (by simp; omega) w29 fun p30 G30 H30 e30 w30 h30 => ?_
      have e2430 : Same G24 G30 := (((e26.trans e27).trans e28).trans e29).trans e30
      walk_at "zz"
      refine ⟨G30, _, .ref p30, xs.length, w30, rfl, .inr ⟨xs.length, ⟨p30, _, y, rfl, SqL.of h30, by simp; omega, ?_, fun G' H' W e w => hyo.1 G' H' W (e2430.trans e) w, hyo.2, ?_⟩, rfl⟩, fun p31 G31 H31 e31 w31 h31 => ?_⟩
      · rw [List.append_assoc, List.append_assoc, List.getElem?_append_right (by simp)]
        simp
      · intro j z hj hz
        rw [List.append_assoc, List.append_assoc, List.getElem?_append_left (by simpa using hj)] at hz
        obtain ⟨n, _, rfl, hn⟩ := getI hz
        exact ⟨n, rfl, hxb n hn⟩
      walk_at "zz"
      refine ⟨p6, _, rfl, .inl (seq_up w31 (((h65.up e524).up e2430).up e31).seq), ?_⟩
      walk_at "zz"
      rw [List.length_map]
      refine ⟨small (by simp), NewO.good w31 fun p32 G32 H32 e32 w32 h32 => ?_⟩
      refine st_neIB (SqL.of (hUp w32 (e32 _ _ h31))) (SqL.of (hUp w32 h32)) ?_
      walk_at "zz"
      exact st_btw ((((e3.trans e4).trans e5).trans e524).trans ((e2430.trans e31).trans e32) |> e1.trans) w32.drop1 ⟨rfl, _, _, _, _, _, _, _, _, rfl⟩
    · rintro σ' G1 W1 H1 e1 w1 ⟨rfl, x1, x2, x3, x4, x5, x6, x7, x8, rfl⟩
      walk_at "zz"
      refine ⟨G1, _, .non, -1, w1, rfl, .inl ⟨.inl rfl, rfl⟩, fun p2 G2 H2 e2 w2 h2 => ?_⟩
      walk_at "zz"
      refine ⟨by decide, NewO.good w2 fun p3 G3 H3 e3 w3 h3 => ?_⟩
      refine st_neIB (SqL.of (hUp w3 (e3 _ _ h2))) (SqL.of (hUp w3 h3)) ?_
      walk_at "zz"
      refine ⟨G3, _, .str _, -1, w3, rfl, .inl ⟨.inr (.inl ⟨_, rfl⟩), rfl⟩, fun p4 G4 H4 e4 w4 h4 => ?_⟩
      walk_at "zz"
      refine ⟨by decide, NewO.good w4 fun p5 G5 H5 e5 w5 h5 => ?_⟩
      refine st_neIB (SqL.of (hUp w5 (e5 _ _ h4))) (SqL.of (hUp w5 h5)) ?_
      walk_at "zz"
      refine st_dnew (NewO.good w5 fun p6 G6 H6 e6 w6 h6 => ?_)
      walk_at "zz"
      refine ⟨G6, _, .ref p6, -1, w6, rfl, .inl ⟨.inr (.inr ⟨p6, _, rfl, h6⟩), rfl⟩, fun p7 G7 H7 e7 w7 h7 => ?_⟩
      walk_at "zz"
      refine ⟨by decide, NewO.good w7 fun p8 G8 H8 e8 w8 h8 => ?_⟩
      refine st_neIB (SqL.of (hUp w8 (e8 _ _ h7))) (SqL.of (hUp w8 h8)) ?_
      walk_at "zz"
      refine ⟨by decide, NewO.good w8 fun p9 G9 H9 e9 w9 h9 => ?_⟩
      walk_at "zz"
      refine st_repI (hUp w9 h9) (by decide) (by decide) w9 fun p10 G10 H10 e10 w10 h10 => ?_
      have hzl : (List.replicate (6000 : Int).toNat (255 : Int)).length = 6000 := List.length_replicate
      have hzb : Byt (List.replicate (6000 : Int).toNat (255 : Int)) := fun z hz => by
        have := (List.mem_replicate.mp hz).2
        omega
      generalize List.replicate (6000 : Int).toNat (255 : Int) = zs at h10 hzl hzb
      walk_at "zz"
      refine ⟨by decide, NewO.good w10 fun p11 G11 H11 e11 w11 h11 => ?_⟩
      walk_at "zz"
      refine ⟨G11, _, .ref p11, 1, w11, rfl, .inl ⟨[], ⟨p11, rfl, .inl (SqL.of h11), (fun _ h => nomatch h), by decide⟩, fun G12 H12 e12 w12 => ?_⟩⟩
      walk_at "zz"
      rw [show decide (V.int (ckSum [] 1) = V.int 1) = true by decide]
      walk_at "zz"
      refine ⟨by decide, NewO.good w12 fun p13 G13 H13 e13 w13 h13 => ?_⟩
      walk_at "zz"
      refine ⟨G13, _, .ref p13, 1, w13, rfl, .inl ⟨[0], ⟨p13, rfl, .inl (SqL.of h13), (fun n hn => by rw [List.mem_singleton.mp hn]; decide), by decide⟩, fun G14 H14 e14 w14 => ?_⟩⟩
      walk_at "zz"
      rw [show decide (V.int (ckSum [0] 1) = V.int 65537) = true by decide]
      walk_at "zz"
      have h14 := (((h10.up e11).up e12).up e13).up e14
      refine ⟨G14, _, .ref p10, 1, w14, rfl, .inl ⟨zs, ⟨p10, rfl, .inl h14.seq, hzb, by omega⟩, fun G15 H15 e15 w15 => ?_⟩⟩
      walk_at "zz"
      refine ⟨G15, _, p10, zs, 1, w15, rfl, (h14.up e15).seq, fun G16 H16 e16 w16 => ?_⟩
      walk_at "zz"
      rw [eq_self']
      exact k H16

end
theorem all_mk {l : PySem.W.OpenLaw} {w : World} {K : PySem.W.Frag} {h : Heap} {mg : Str → Option Value} {fa : Addr} (X : K.In h) (G : h.Ns mainGlobals mg) (hfa : mg "law" = some (.ref fa))
    {CBadData : Addr} {nmBadData qnBadData : Str} {NBadData : Addr} {bsBadData : List Value} {snBadData : List Str} {subBadData : List Value} {abBadData : Bool} {colBadData : Option Bool} {ddBadData : Option Addr} {k0BadData k1BadData k2BadData k3BadData k5BadData : Option Value}
    {A0 : Addr} {od0 an0 : Option Addr} {sl0 : Array (Option Value)} {oc0 kV0 dc0 pm0 cd0 ct0 : Value}
    {A1 : Addr} {od1 an1 : Option Addr} {sl1 : Array (Option Value)} {oc1 kV1 dc1 pm1 cd1 ct1 : Value}
    {A2 : Addr} {od2 an2 : Option Addr} {sl2 : Array (Option Value)} {oc2 kV2 dc2 pm2 cd2 ct2 : Value}
    {A3 : Addr} {od3 an3 : Option Addr} {sl3 : Array (Option Value)} {oc3 kV3 dc3 pm3 cd3 ct3 : Value}
    {A4 : Addr} {od4 an4 : Option Addr} {sl4 : Array (Option Value)} {oc4 kV4 dc4 pm4 cd4 ct4 : Value}
    {A5 : Addr} {od5 an5 : Option Addr} {sl5 : Array (Option Value)} {oc5 kV5 dc5 pm5 cd5 ct5 : Value}
    {T5 : Addr} {oT5 : Value} {odT5 : Option Addr} {slT5 : Array (Option Value)} {nT5 : Nat}
    {tk5_0 : Tok}
    {A6 : Addr} {od6 an6 : Option Addr} {sl6 : Array (Option Value)} {oc6 kV6 dc6 pm6 cd6 ct6 : Value}
    {T6 : Addr} {oT6 : Value} {odT6 : Option Addr} {slT6 : Array (Option Value)} {nT6 : Nat}
    {tk6_0 : Tok}
    {A7 : Addr} {od7 an7 : Option Addr} {sl7 : Array (Option Value)} {oc7 kV7 dc7 pm7 cd7 ct7 : Value}
    {A8 : Addr} {od8 an8 : Option Addr} {sl8 : Array (Option Value)} {oc8 kV8 dc8 pm8 cd8 ct8 : Value}
    {A9 : Addr} {od9 an9 : Option Addr} {sl9 : Array (Option Value)} {oc9 kV9 dc9 pm9 cd9 ct9 : Value}
    {A10 : Addr} {od10 an10 : Option Addr} {sl10 : Array (Option Value)} {oc10 kV10 dc10 pm10 cd10 ct10 : Value}
    {A11 : Addr} {od11 an11 : Option Addr} {sl11 : Array (Option Value)} {oc11 kV11 dc11 pm11 cd11 ct11 : Value}
    {A12 : Addr} {od12 an12 : Option Addr} {sl12 : Array (Option Value)} {oc12 kV12 dc12 pm12 cd12 ct12 : Value}
    {tc0 : Tok}
    {tc1 : Tok}
    {tc2 : Tok}
    {tc3 : Tok}
    (xg_BadData : PySem.W.nsIn K mainGlobals "BadData" = some (some (.ref CBadData)))
    (xl_BadData : K.lookup CBadData = some (excClassObj nmBadData qnBadData CBadData NBadData bsBadData [.type "ValueError", .type "Exception", .type "BaseException", .type "object"] true snBadData subBadData abBadData colBadData ddBadData k0BadData k1BadData k2BadData k3BadData k5BadData "ValueError.__new__"))
    (xsa_BadData : PySem.W.findIn K (.ref CBadData) "__setattr__" = some (some (.builtin "object.__setattr__")))
    (xga_BadData : PySem.W.findIn K (.ref CBadData) "__getattribute__" = some (some (.builtin "BaseException.__getattribute__")))
    (xgg_BadData : PySem.W.findIn K (.ref CBadData) "__getattr__" = some none)
    (xno_BadData : PySem.W.findIn K (.ref CBadData) "position" = some none)
    (xk_BadData : PySem.W.keepIn K (.ref CBadData) = true)
    (xe_BadData : PySem.W.subIn K (.ref CBadData) (.type "BaseException") = some true)
    (xt_BadData : PySem.W.typeIn K (.ref CBadData) = some (.type "type"))
    (xh_BadData : PySem.W.hasDictIn K CBadData = true)
    (xs_BadData : PySem.W.subIn K (.ref CBadData) (.ref CBadData) = some true)
    (xca_BadData : PySem.W.findIn K (.ref CBadData) "__class__" = some (some (.builtin "object.__class__")))
    (xv_BadData : PySem.W.subIn K (.ref CBadData) (.type "ValueError") = some true)
    (xcm_BadData : PySem.W.mroIn K CBadData (.type "object") = some true)
    (a0 : PySem.W.findIn K (.ref CBadData) "__init__" = some (some (.ref A0)))
    (u0 : PySem.W.typeIn K (.ref A0) = some (.type "function"))
    (l0 : K.lookup A0 = some ⟨oc0, od0, .func (PySem.W.fnOf "__init__" "BadData.__init__" (defArgs s_BadData___init__) (defBody s_BadData___init__) (defScope s_BadData___init__) .none kV0 dc0 pm0 an0 cd0 ct0), sl0⟩)
    (c0 : PySem.W.codeIn K cd0 "BadData.__init__" = true) (k0 : PySem.W.keepIn K (.ref A0) = true)
    (a1 : PySem.W.nsIn K mainGlobals "is_integer" = some (some (.ref A1)))
    (l1 : K.lookup A1 = some ⟨oc1, od1, .func (PySem.W.fnOf "is_integer" "is_integer" (defArgs s_is_integer) (defBody s_is_integer) (defScope s_is_integer) .none kV1 dc1 pm1 an1 cd1 ct1), sl1⟩)
    (c1 : PySem.W.codeIn K cd1 "is_integer" = true) (k1 : PySem.W.keepIn K (.ref A1) = true)
    (a2 : PySem.W.nsIn K mainGlobals "in_range" = some (some (.ref A2)))
    (l2 : K.lookup A2 = some ⟨oc2, od2, .func (PySem.W.fnOf "in_range" "in_range" (defArgs s_in_range) (defBody s_in_range) (defScope s_in_range) .none kV2 dc2 pm2 an2 cd2 ct2), sl2⟩)
    (c2 : PySem.W.codeIn K cd2 "in_range" = true) (k2 : PySem.W.keepIn K (.ref A2) = true)
    (a3 : PySem.W.nsIn K mainGlobals "is_byte" = some (some (.ref A3)))
    (l3 : K.lookup A3 = some ⟨oc3, od3, .func (PySem.W.fnOf "is_byte" "is_byte" (defArgs s_is_byte) (defBody s_is_byte) (defScope s_is_byte) .none kV3 dc3 pm3 an3 cd3 ct3), sl3⟩)
    (c3 : PySem.W.codeIn K cd3 "is_byte" = true) (k3 : PySem.W.keepIn K (.ref A3) = true)
    (a4 : PySem.W.nsIn K mainGlobals "checked_data" = some (some (.ref A4)))
    (l4 : K.lookup A4 = some ⟨oc4, od4, .func (PySem.W.fnOf "checked_data" "checked_data" (defArgs s_checked_data) (defBody s_checked_data) (defScope s_checked_data) .none kV4 dc4 pm4 an4 cd4 ct4), sl4⟩)
    (c4 : PySem.W.codeIn K cd4 "checked_data" = true) (k4 : PySem.W.keepIn K (.ref A4) = true)
    (a5 : PySem.W.nsIn K mainGlobals "check_sum" = some (some (.ref A5)))
    (l5 : K.lookup A5 = some ⟨oc5, od5, .func (PySem.W.fnOf "check_sum" "check_sum" (defArgs s_check_sum) (defBody s_check_sum) (defScope s_check_sum) (.ref T5) kV5 dc5 pm5 an5 cd5 ct5), sl5⟩)
    (lT5 : K.lookup T5 = some ⟨oT5, odT5, .seq #[(.int 1 tk5_0)] nT5, slT5⟩)
    (c5 : PySem.W.codeIn K cd5 "check_sum" = true) (k5 : PySem.W.keepIn K (.ref A5) = true)
    (a6 : PySem.W.nsIn K mainGlobals "check" = some (some (.ref A6)))
    (l6 : K.lookup A6 = some ⟨oc6, od6, .func (PySem.W.fnOf "check" "check" (defArgs s_check) (defBody s_check) (defScope s_check) (.ref T6) kV6 dc6 pm6 an6 cd6 ct6), sl6⟩)
    (lT6 : K.lookup T6 = some ⟨oT6, odT6, .seq #[(.int 1 tk6_0)] nT6, slT6⟩)
    (c6 : PySem.W.codeIn K cd6 "check" = true) (k6 : PySem.W.keepIn K (.ref A6) = true)
    (a7 : PySem.W.nsIn K mainGlobals "_law_bag" = some (some (.ref A7)))
    (l7 : K.lookup A7 = some ⟨oc7, od7, .func (PySem.W.fnOf "_law_bag" "_law_bag" (defArgs s__law_bag) (defBody s__law_bag) (defScope s__law_bag) .none kV7 dc7 pm7 an7 cd7 ct7), sl7⟩)
    (c7 : PySem.W.codeIn K cd7 "_law_bag" = true) (k7 : PySem.W.keepIn K (.ref A7) = true)
    (a8 : PySem.W.nsIn K mainGlobals "_law_take" = some (some (.ref A8)))
    (l8 : K.lookup A8 = some ⟨oc8, od8, .func (PySem.W.fnOf "_law_take" "_law_take" (defArgs s__law_take) (defBody s__law_take) (defScope s__law_take) .none kV8 dc8 pm8 an8 cd8 ct8), sl8⟩)
    (c8 : PySem.W.codeIn K cd8 "_law_take" = true) (k8 : PySem.W.keepIn K (.ref A8) = true)
    (a9 : PySem.W.nsIn K mainGlobals "_law_sum" = some (some (.ref A9)))
    (l9 : K.lookup A9 = some ⟨oc9, od9, .func (PySem.W.fnOf "_law_sum" "_law_sum" (defArgs s__law_sum) (defBody s__law_sum) (defScope s__law_sum) .none kV9 dc9 pm9 an9 cd9 ct9), sl9⟩)
    (c9 : PySem.W.codeIn K cd9 "_law_sum" = true) (k9 : PySem.W.keepIn K (.ref A9) = true)
    (a10 : PySem.W.nsIn K mainGlobals "_law_data" = some (some (.ref A10)))
    (l10 : K.lookup A10 = some ⟨oc10, od10, .func (PySem.W.fnOf "_law_data" "_law_data" (defArgs s__law_data) (defBody s__law_data) (defScope s__law_data) .none kV10 dc10 pm10 an10 cd10 ct10), sl10⟩)
    (c10 : PySem.W.codeIn K cd10 "_law_data" = true) (k10 : PySem.W.keepIn K (.ref A10) = true)
    (a11 : PySem.W.nsIn K mainGlobals "_law_refused" = some (some (.ref A11)))
    (l11 : K.lookup A11 = some ⟨oc11, od11, .func (PySem.W.fnOf "_law_refused" "_law_refused" (defArgs s__law_refused) (defBody s__law_refused) (defScope s__law_refused) .none kV11 dc11 pm11 an11 cd11 ct11), sl11⟩)
    (c11 : PySem.W.codeIn K cd11 "_law_refused" = true) (k11 : PySem.W.keepIn K (.ref A11) = true)
    (a12 : PySem.W.nsIn K mainGlobals "law" = some (some (.ref A12)))
    (l12 : K.lookup A12 = some ⟨oc12, od12, .func (PySem.W.fnOf "law" "law" (defArgs s_law) (defBody s_law) (defScope s_law) .none kV12 dc12 pm12 an12 cd12 ct12), sl12⟩)
    (c12 : PySem.W.codeIn K cd12 "law" = true) (k12 : PySem.W.keepIn K (.ref A12) = true)
    (co0 : PySem.W.nsIn K mainGlobals "MOST_DATA" = some (some (.int 70000 tc0)))
    (co1 : PySem.W.nsIn K mainGlobals "FIRST_SUM" = some (some (.int 1 tc1)))
    (co2 : PySem.W.nsIn K mainGlobals "HALF" = some (some (.int 65536 tc2)))
    (co3 : PySem.W.nsIn K mainGlobals "MODULUS" = some (some (.int 65521 tc3)))
    (z_ValueError : PySem.W.nsIn K mainGlobals "ValueError" = some none)
    (z_isinstance : PySem.W.nsIn K mainGlobals "isinstance" = some none)
    (z_int : PySem.W.nsIn K mainGlobals "int" = some none)
    (z_bool : PySem.W.nsIn K mainGlobals "bool" = some none)
    (z_enumerate : PySem.W.nsIn K mainGlobals "enumerate" = some none)
    (z_list : PySem.W.nsIn K mainGlobals "list" = some none)
    (z_len : PySem.W.nsIn K mainGlobals "len" = some none)
    (z_tuple : PySem.W.nsIn K mainGlobals "tuple" = some none)
    (z_abs : PySem.W.nsIn K mainGlobals "abs" = some none)
    (z_range : PySem.W.nsIn K mainGlobals "range" = some none)
    (z_max : PySem.W.nsIn K mainGlobals "max" = some none)
    (z_min : PySem.W.nsIn K mainGlobals "min" = some none)
    (ecn : PySem.W.specialIn K (.builtin "object.__class__") "__get__" = some (some (.builtin "getset_descriptor.__get__")))
    (ect : PySem.W.takesIn K (.builtin "object.__class__") = some true)
    (evv : PySem.W.findCls K (.type "ValueError") (.type "type") "__init__" = some (.val (.builtin "ValueError.__init__"))) :
    ∃ fd : FuncData, (∀ (s : Shared) (v : Value), BindsTo s fd ⟨[v], []⟩ [("_law_script", v)]) ∧ ∀ base : Heap, K.In base → base.Ns mainGlobals mg → FnOk l.prog w K mg base CX0 7 fa fd ["_law_script"] (spLaw K) := by
  have e := hfa.symm.trans (PySem.W.mg_of X G a12)
  cases e
  have F0 : FunD K "__init__" "BadData.__init__" (defArgs s_BadData___init__) (defBody s_BadData___init__) (defScope s_BadData___init__) [] [] A0 (PySem.W.fnOf "__init__" "BadData.__init__" (defArgs s_BadData___init__) (defBody s_BadData___init__) (defScope s_BadData___init__) .none kV0 dc0 pm0 an0 cd0 ct0) :=
    ⟨⟨oc0, od0, .none, kV0, dc0, pm0, an0, cd0, ct0, sl0, rfl, l0, c0, (.inl ⟨rfl, rfl⟩), .inl rfl⟩, k0⟩
  have F1 : FunD K "is_integer" "is_integer" (defArgs s_is_integer) (defBody s_is_integer) (defScope s_is_integer) [] [] A1 (PySem.W.fnOf "is_integer" "is_integer" (defArgs s_is_integer) (defBody s_is_integer) (defScope s_is_integer) .none kV1 dc1 pm1 an1 cd1 ct1) :=
    ⟨⟨oc1, od1, .none, kV1, dc1, pm1, an1, cd1, ct1, sl1, rfl, l1, c1, (.inl ⟨rfl, rfl⟩), .inl rfl⟩, k1⟩
  have F2 : FunD K "in_range" "in_range" (defArgs s_in_range) (defBody s_in_range) (defScope s_in_range) [] [] A2 (PySem.W.fnOf "in_range" "in_range" (defArgs s_in_range) (defBody s_in_range) (defScope s_in_range) .none kV2 dc2 pm2 an2 cd2 ct2) :=
    ⟨⟨oc2, od2, .none, kV2, dc2, pm2, an2, cd2, ct2, sl2, rfl, l2, c2, (.inl ⟨rfl, rfl⟩), .inl rfl⟩, k2⟩
  have F3 : FunD K "is_byte" "is_byte" (defArgs s_is_byte) (defBody s_is_byte) (defScope s_is_byte) [] [] A3 (PySem.W.fnOf "is_byte" "is_byte" (defArgs s_is_byte) (defBody s_is_byte) (defScope s_is_byte) .none kV3 dc3 pm3 an3 cd3 ct3) :=
    ⟨⟨oc3, od3, .none, kV3, dc3, pm3, an3, cd3, ct3, sl3, rfl, l3, c3, (.inl ⟨rfl, rfl⟩), .inl rfl⟩, k3⟩
  have F4 : FunD K "checked_data" "checked_data" (defArgs s_checked_data) (defBody s_checked_data) (defScope s_checked_data) [] [] A4 (PySem.W.fnOf "checked_data" "checked_data" (defArgs s_checked_data) (defBody s_checked_data) (defScope s_checked_data) .none kV4 dc4 pm4 an4 cd4 ct4) :=
    ⟨⟨oc4, od4, .none, kV4, dc4, pm4, an4, cd4, ct4, sl4, rfl, l4, c4, (.inl ⟨rfl, rfl⟩), .inl rfl⟩, k4⟩
  have F5 : FunD K "check_sum" "check_sum" (defArgs s_check_sum) (defBody s_check_sum) (defScope s_check_sum) [.int 1] [] A5 (PySem.W.fnOf "check_sum" "check_sum" (defArgs s_check_sum) (defBody s_check_sum) (defScope s_check_sum) (.ref T5) kV5 dc5 pm5 an5 cd5 ct5) :=
    ⟨⟨oc5, od5, (.ref T5), kV5, dc5, pm5, an5, cd5, ct5, sl5, rfl, l5, c5, (.inr ⟨by simp, T5, _, [(.int 1 tk5_0)], nT5, rfl, lT5, rfl, (.cons ⟨_, rfl⟩ .nil)⟩), .inl rfl⟩, k5⟩
  have F6 : FunD K "check" "check" (defArgs s_check) (defBody s_check) (defScope s_check) [.int 1] [] A6 (PySem.W.fnOf "check" "check" (defArgs s_check) (defBody s_check) (defScope s_check) (.ref T6) kV6 dc6 pm6 an6 cd6 ct6) :=
    ⟨⟨oc6, od6, (.ref T6), kV6, dc6, pm6, an6, cd6, ct6, sl6, rfl, l6, c6, (.inr ⟨by simp, T6, _, [(.int 1 tk6_0)], nT6, rfl, lT6, rfl, (.cons ⟨_, rfl⟩ .nil)⟩), .inl rfl⟩, k6⟩
  have F7 : FunD K "_law_bag" "_law_bag" (defArgs s__law_bag) (defBody s__law_bag) (defScope s__law_bag) [] [] A7 (PySem.W.fnOf "_law_bag" "_law_bag" (defArgs s__law_bag) (defBody s__law_bag) (defScope s__law_bag) .none kV7 dc7 pm7 an7 cd7 ct7) :=
    ⟨⟨oc7, od7, .none, kV7, dc7, pm7, an7, cd7, ct7, sl7, rfl, l7, c7, (.inl ⟨rfl, rfl⟩), .inl rfl⟩, k7⟩
  have F8 : FunD K "_law_take" "_law_take" (defArgs s__law_take) (defBody s__law_take) (defScope s__law_take) [] [] A8 (PySem.W.fnOf "_law_take" "_law_take" (defArgs s__law_take) (defBody s__law_take) (defScope s__law_take) .none kV8 dc8 pm8 an8 cd8 ct8) :=
    ⟨⟨oc8, od8, .none, kV8, dc8, pm8, an8, cd8, ct8, sl8, rfl, l8, c8, (.inl ⟨rfl, rfl⟩), .inl rfl⟩, k8⟩
  have F9 : FunD K "_law_sum" "_law_sum" (defArgs s__law_sum) (defBody s__law_sum) (defScope s__law_sum) [] [] A9 (PySem.W.fnOf "_law_sum" "_law_sum" (defArgs s__law_sum) (defBody s__law_sum) (defScope s__law_sum) .none kV9 dc9 pm9 an9 cd9 ct9) :=
    ⟨⟨oc9, od9, .none, kV9, dc9, pm9, an9, cd9, ct9, sl9, rfl, l9, c9, (.inl ⟨rfl, rfl⟩), .inl rfl⟩, k9⟩
  have F10 : FunD K "_law_data" "_law_data" (defArgs s__law_data) (defBody s__law_data) (defScope s__law_data) [] [] A10 (PySem.W.fnOf "_law_data" "_law_data" (defArgs s__law_data) (defBody s__law_data) (defScope s__law_data) .none kV10 dc10 pm10 an10 cd10 ct10) :=
    ⟨⟨oc10, od10, .none, kV10, dc10, pm10, an10, cd10, ct10, sl10, rfl, l10, c10, (.inl ⟨rfl, rfl⟩), .inl rfl⟩, k10⟩
  have F11 : FunD K "_law_refused" "_law_refused" (defArgs s__law_refused) (defBody s__law_refused) (defScope s__law_refused) [] [] A11 (PySem.W.fnOf "_law_refused" "_law_refused" (defArgs s__law_refused) (defBody s__law_refused) (defScope s__law_refused) .none kV11 dc11 pm11 an11 cd11 ct11) :=
    ⟨⟨oc11, od11, .none, kV11, dc11, pm11, an11, cd11, ct11, sl11, rfl, l11, c11, (.inl ⟨rfl, rfl⟩), .inl rfl⟩, k11⟩
  have F12 : FunD K "law" "law" (defArgs s_law) (defBody s_law) (defScope s_law) [] [] fa (PySem.W.fnOf "law" "law" (defArgs s_law) (defBody s_law) (defScope s_law) .none kV12 dc12 pm12 an12 cd12 ct12) :=
    ⟨⟨oc12, od12, .none, kV12, dc12, pm12, an12, cd12, ct12, sl12, rfl, l12, c12, (.inl ⟨rfl, rfl⟩), .inl rfl⟩, k12⟩
  have T : Txt K mg ⟨A0, (PySem.W.fnOf "__init__" "BadData.__init__" (defArgs s_BadData___init__) (defBody s_BadData___init__) (defScope s_BadData___init__) .none kV0 dc0 pm0 an0 cd0 ct0),
      A1, (PySem.W.fnOf "is_integer" "is_integer" (defArgs s_is_integer) (defBody s_is_integer) (defScope s_is_integer) .none kV1 dc1 pm1 an1 cd1 ct1),
      A2, (PySem.W.fnOf "in_range" "in_range" (defArgs s_in_range) (defBody s_in_range) (defScope s_in_range) .none kV2 dc2 pm2 an2 cd2 ct2),
      A3, (PySem.W.fnOf "is_byte" "is_byte" (defArgs s_is_byte) (defBody s_is_byte) (defScope s_is_byte) .none kV3 dc3 pm3 an3 cd3 ct3),
      A4, (PySem.W.fnOf "checked_data" "checked_data" (defArgs s_checked_data) (defBody s_checked_data) (defScope s_checked_data) .none kV4 dc4 pm4 an4 cd4 ct4),
      A5, (PySem.W.fnOf "check_sum" "check_sum" (defArgs s_check_sum) (defBody s_check_sum) (defScope s_check_sum) (.ref T5) kV5 dc5 pm5 an5 cd5 ct5),
      A6, (PySem.W.fnOf "check" "check" (defArgs s_check) (defBody s_check) (defScope s_check) (.ref T6) kV6 dc6 pm6 an6 cd6 ct6),
      A7, (PySem.W.fnOf "_law_bag" "_law_bag" (defArgs s__law_bag) (defBody s__law_bag) (defScope s__law_bag) .none kV7 dc7 pm7 an7 cd7 ct7),
      A8, (PySem.W.fnOf "_law_take" "_law_take" (defArgs s__law_take) (defBody s__law_take) (defScope s__law_take) .none kV8 dc8 pm8 an8 cd8 ct8),
      A9, (PySem.W.fnOf "_law_sum" "_law_sum" (defArgs s__law_sum) (defBody s__law_sum) (defScope s__law_sum) .none kV9 dc9 pm9 an9 cd9 ct9),
      A10, (PySem.W.fnOf "_law_data" "_law_data" (defArgs s__law_data) (defBody s__law_data) (defScope s__law_data) .none kV10 dc10 pm10 an10 cd10 ct10),
      A11, (PySem.W.fnOf "_law_refused" "_law_refused" (defArgs s__law_refused) (defBody s__law_refused) (defScope s__law_refused) .none kV11 dc11 pm11 an11 cd11 ct11),
      fa, (PySem.W.fnOf "law" "law" (defArgs s_law) (defBody s_law) (defScope s_law) .none kV12 dc12 pm12 an12 cd12 ct12),
      CBadData,
      tc0,
      tc1,
      tc2,
      tc3⟩ :=
   ⟨F0,
    F0.bindsN fun _ _ _ _ _ _ us hl => match us, hl with | [_, _], _ => rfl,
    F1,
    F1.bindsN fun _ _ _ _ _ _ us hl => match us, hl with | [_], _ => rfl,
    PySem.W.mg_of X G a1,
    F2,
    F2.bindsN fun _ _ _ _ _ _ us hl => match us, hl with | [_, _, _], _ => rfl,
    PySem.W.mg_of X G a2,
    F3,
    F3.bindsN fun _ _ _ _ _ _ us hl => match us, hl with | [_], _ => rfl,
    PySem.W.mg_of X G a3,
    F4,
    F4.bindsN fun _ _ _ _ _ _ us hl => match us, hl with | [_], _ => rfl,
    PySem.W.mg_of X G a4,
    F5,
    bAll (F5.binds1 (ps := sP_check_sum) 2 1 (by simp) rfl fun _ _ _ _ _ _ _ us its hl hi => match us, its, hl, hi with | [_, _], [_], _, _ => ⟨_, rfl, rfl⟩),
    PySem.W.mg_of X G a5,
    F6,
    bAll (F6.binds1 (ps := sP_check) 2 1 (by simp) rfl fun _ _ _ _ _ _ _ us its hl hi => match us, its, hl, hi with | [_, _], [_], _, _ => ⟨_, rfl, rfl⟩),
    PySem.W.mg_of X G a6,
    F7,
    F7.bindsN fun _ _ _ _ _ _ us hl => match us, hl with | [_, _], _ => rfl,
    PySem.W.mg_of X G a7,
    F8,
    F8.bindsN fun _ _ _ _ _ _ us hl => match us, hl with | [_, _], _ => rfl,
    PySem.W.mg_of X G a8,
    F9,
    F9.bindsN fun _ _ _ _ _ _ us hl => match us, hl with | [_, _], _ => rfl,
    PySem.W.mg_of X G a9,
    F10,
    F10.bindsN fun _ _ _ _ _ _ us hl => match us, hl with | [_], _ => rfl,
    PySem.W.mg_of X G a10,
    F11,
    F11.bindsN fun _ _ _ _ _ _ us hl => match us, hl with | [_], _ => rfl,
    PySem.W.mg_of X G a11,
    F12,
    F12.bindsN fun _ _ _ _ _ _ us hl => match us, hl with | [_], _ => rfl,
    PySem.W.mg_of X G a12,
    F6.binds1 (ps := sP_check) 1 0 (by simp) rfl fun _ _ _ _ _ _ _ us its hl hi => match us, its, hl, hi with | [_], [_], _, _ => ⟨_, rfl, rfl⟩,
    kbnD F6 (by simp) (fun us ds ws => [us.getD 0 .none, ws.getD 0 .none]) (fun r1 r2 r3 => (.cons (valsGet r1 0) (.cons (valsGet r3 0) .nil))) fun _ _ _ _ _ _ _ us its ws hl hi hw => match us, its, ws, hl, hi, hw with | [_], [_], [_], _, _, _ => ⟨_, rfl, rfl⟩,
    PySem.W.mg_of X G co0,
    PySem.W.mg_of X G co1,
    PySem.W.mg_of X G co2,
    PySem.W.mg_of X G co3,
    PySem.W.mg_none_of X G z_ValueError,
    PySem.W.mg_none_of X G z_isinstance,
    PySem.W.mg_none_of X G z_int,
    PySem.W.mg_none_of X G z_bool,
    PySem.W.mg_none_of X G z_enumerate,
    PySem.W.mg_none_of X G z_list,
    PySem.W.mg_none_of X G z_len,
    PySem.W.mg_none_of X G z_tuple,
    PySem.W.mg_none_of X G z_abs,
    PySem.W.mg_none_of X G z_range,
    PySem.W.mg_none_of X G z_max,
    PySem.W.mg_none_of X G z_min,
    ⟨PySem.W.mg_of X G xg_BadData, ⟨⟨nmBadData, qnBadData, NBadData, bsBadData, _, snBadData, subBadData, abBadData, colBadData, ddBadData, k0BadData, k1BadData, k2BadData, k3BadData, k5BadData, xl_BadData, by decide +kernel⟩, xsa_BadData, xe_BadData, xt_BadData, xk_BadData⟩, ⟨xga_BadData, xgg_BadData, xe_BadData, xh_BadData⟩, ⟨xga_BadData, xgg_BadData, xe_BadData, xh_BadData, xca_BadData, ecn, ect, xcm_BadData⟩, xno_BadData, a0, u0, PySem.W.exm_ref xe_BadData xh_BadData xt_BadData xs_BadData, kv_of xv_BadData⟩,
    evv⟩
  exact ⟨_, fun s v => F12.bindsA (ps := ["_law_script"]) (fun _ _ _ _ _ _ us hl => match us, hl with | [_], _ => rfl) s [v] rfl, fun base _ _ => ok_law T⟩
theorem walk {l : PySem.W.OpenLaw} {q : Program} {loose : List Str} {XP : (Str → Option Value) → Heap → Prop} {YP : World → Heap → Prop} {d : DefRec} {K : Params → PySem.W.Frag}
    (hn : l.most = some 63) (hdf : d.params.defaults = []) (hY : ∀ (w : World) (h : Heap), YP w h → (K w.params).In h)
    (F : ∀ (w : World) (mg : Str → Option Value) (fa : Addr) (h : Heap), (K w.params).In h → h.Ns mainGlobals mg → mg d.name = some (.ref fa) →
      ∃ fd : FuncData, (∀ (s : Shared) (u : Value), BindsTo s fd ⟨[u], []⟩ [("_law_script", u)]) ∧
        ∀ base : Heap, (K w.params).In base → base.Ns mainGlobals mg → FnOk l.prog w (K w.params) mg base CX0 7 fa fd ["_law_script"] (spLaw (K w.params))) :
    PySem.W.WalkO q loose XP YP l.row.toRowW d [] (fun f vs => PySem.call f vs) :=
  L2.walk_of (n := 63) (k := 7) (x := "_law_script") (CX := fun _ => CX0) (sp := fun w => spLaw (K w.params)) hn (by decide) hdf ⟨rfl, by decide, by decide⟩ hY F
    (fun _ _ a ns hl _ hS => ⟨a, ns, rfl, hS, hl, fun _ => rfl⟩) fun _ _ _ _ _ z => z
end Z
open PySem PySem.W PyProof.Rows
set_option maxRecDepth 100000 in
set_option maxHeartbeats 0 in
theorem PySem.Challenge.cw_deflatehall_k47_checks_holds : PySem.Challenge.rw_deflatehall_k47_checks.Holds := by
  w_on; o_law; k_head; (case hw => w_witness2)
  k_fill
  refine Z.walk (l := PySem.Challenge.rw_deflatehall_k47_checks) rfl rfl (fun w h Y => PySem.W.kIn_of Y) ?F
  case F =>
    intro w mg fa h KX G hmg
    refine' Z.all_mk KX G hmg ?xg_BadData ?xl_BadData ?xsa_BadData ?xga_BadData ?xgg_BadData ?xno_BadData ?xk_BadData ?xe_BadData ?xt_BadData ?xh_BadData ?xs_BadData ?xca_BadData ?xv_BadData ?xcm_BadData ?a0 ?u0 ?l0 ?c0 ?k0 ?a1 ?l1 ?c1 ?k1 ?a2 ?l2 ?c2 ?k2 ?a3 ?l3 ?c3 ?k3 ?a4 ?l4 ?c4 ?k4 ?a5 ?l5 ?lT5 ?c5 ?k5 ?a6 ?l6 ?lT6 ?c6 ?k6 ?a7 ?l7 ?c7 ?k7 ?a8 ?l8 ?c8 ?k8 ?a9 ?l9 ?c9 ?k9 ?a10 ?l10 ?c10 ?k10 ?a11 ?l11 ?c11 ?k11 ?a12 ?l12 ?c12 ?k12 ?co0 ?co1 ?co2 ?co3 ?z_ValueError ?z_isinstance ?z_int ?z_bool ?z_enumerate ?z_list ?z_len ?z_tuple ?z_abs ?z_range ?z_max ?z_min ?ecn ?ect ?evv
    (case xg_BadData => k_is)
    (case xl_BadData => k_is)
    (case xsa_BadData => k_is)
    (case xga_BadData => k_is)
    (case xgg_BadData => k_is)
    (case xno_BadData => k_is)
    (case xk_BadData => k_is)
    (case xe_BadData => k_is)
    (case xt_BadData => k_is)
    (case xh_BadData => k_is)
    (case xs_BadData => k_is)
    (case xca_BadData => k_is)
    (case xv_BadData => k_is)
    (case xcm_BadData => k_is)
    (case a0 => k_is)
    (case u0 => k_is)
    (case l0 => k_is)
    (case c0 => k_is)
    (case k0 => k_is)
    (case a1 => k_is)
    (case l1 => k_is)
    (case c1 => k_is)
    (case k1 => k_is)
    (case a2 => k_is)
    (case l2 => k_is)
    (case c2 => k_is)
    (case k2 => k_is)
    (case a3 => k_is)
    (case l3 => k_is)
    (case c3 => k_is)
    (case k3 => k_is)
    (case a4 => k_is)
    (case l4 => k_is)
    (case c4 => k_is)
    (case k4 => k_is)
    (case a5 => k_is)
    (case l5 => k_is)
    (case lT5 => k_is)
    (case c5 => k_is)
    (case k5 => k_is)
    (case a6 => k_is)
    (case l6 => k_is)
    (case lT6 => k_is)
    (case c6 => k_is)
    (case k6 => k_is)
    (case a7 => k_is)
    (case l7 => k_is)
    (case c7 => k_is)
    (case k7 => k_is)
    (case a8 => k_is)
    (case l8 => k_is)
    (case c8 => k_is)
    (case k8 => k_is)
    (case a9 => k_is)
    (case l9 => k_is)
    (case c9 => k_is)
    (case k9 => k_is)
    (case a10 => k_is)
    (case l10 => k_is)
    (case c10 => k_is)
    (case k10 => k_is)
    (case a11 => k_is)
    (case l11 => k_is)
    (case c11 => k_is)
    (case k11 => k_is)
    (case a12 => k_is)
    (case l12 => k_is)
    (case c12 => k_is)
    (case k12 => k_is)
    (case co0 => k_is)
    (case co1 => k_is)
    (case co2 => k_is)
    (case co3 => k_is)
    (case z_ValueError => k_is)
    (case z_isinstance => k_is)
    (case z_int => k_is)
    (case z_bool => k_is)
    (case z_enumerate => k_is)
    (case z_list => k_is)
    (case z_len => k_is)
    (case z_tuple => k_is)
    (case z_abs => k_is)
    (case z_range => k_is)
    (case z_max => k_is)
    (case z_min => k_is)
    (case ecn => k_is)
    (case ect => k_is)
    (case evv => k_is)
