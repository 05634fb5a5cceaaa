import PyProof.Rows.All
import Wide.All
import OpenK.AllK
import Wide.FinOn
import HandS.ForMost
import HandS.Defaults
import HandS.IsInst
import HandS.TupAny
import HandS.Codes
import HandS.Wide
import HandS.Walk
import HandS.More
import KE.GoesMore
import HandS.ExcInit
import HandS.ExcField
import HandS.ExcIs
import HandS.WordsExc
import HandS.ExcOwn
import KE.KExcInit
import PySem.Challenge.RW_deflatehall_k16_tokens_expanded
set_option Elab.async false
set_option linter.all false
set_option maxRecDepth 100000
set_option maxHeartbeats 4000000
/-! Ghost heaps over the hand layer: what stands for good (G), what may change (W). -/
namespace Z
open PySem PySem.Spec PyProof.Rows L2

/-- it is o -/
def Is (o : HO) : HO → Prop := fun x => x = o
/-- what may change: an address, and what holds of the object there -/
abbrev Wl := List (Addr × (HO → Prop))
structure Wd (G : Hp) (W : Wl) (H : Hp) : Prop where
  ex : Same G H
  own : ∀ p ∈ W, G p.1 = none ∧ ∃ o, H p.1 = some o ∧ p.2 o
  nd : (W.map (·.1)).Nodup

theorem same_upd {H : Hp} {p : Addr} {o : HO} (h : H p = none) : Same H (upd H p o) := fun a u e => by
  rw [upd_ne (ne_of_none e h)]
  exact e
section
variable {G G' H H' : Hp} {W W1 W2 : Wl} {a p : Addr} {o : HO} {P P' : HO → Prop}
theorem Wd.free (w : Wd G W H) (h : H p = none) : G p = none := w.ex.free h
theorem Wd.ext (w : Wd G W H) (e : Same H H') : Wd G W H' :=
  ⟨w.ex.trans e, fun q hq => ⟨(w.own q hq).1, let ⟨o, h1, h2⟩ := (w.own q hq).2; ⟨o, e _ _ h1, h2⟩⟩, w.nd⟩
theorem Wd.at (w : Wd G W H) (h : G a = some o) : H a = some o := w.ex _ _ h
theorem Wd.neOwn (w : Wd G W H) (hp : H p = none) {q : Addr × (HO → Prop)} (hq : q ∈ W) : q.1 ≠ p := by
  obtain ⟨_, o, h, _⟩ := w.own q hq
  exact ne_of_none h hp
/-- a new object that stands for good -/
theorem Wd.new (w : Wd G W H) (hp : H p = none) : Wd (upd G p o) W (upd H p o) := by
  refine ⟨fun b u e => ?_, fun q hq => ?_, w.nd⟩
  · by_cases hb : b = p
    · subst hb
      rw [upd_same] at e ⊢
      exact e
    · rw [upd_ne hb] at e ⊢
      exact w.ex _ _ e
  · have hn := w.neOwn hp hq
    rw [upd_ne hn, upd_ne hn]
    exact w.own q hq
/-- a new object that may change -/
theorem Wd.newM (w : Wd G W H) (hp : H p = none) (h : P o) : Wd G ((p, P) :: W) (upd H p o) := by
  refine ⟨w.ex.trans (same_upd hp), fun q hq => ?_, ?_⟩
  · rcases List.mem_cons.mp hq with rfl | hq
    · exact ⟨w.free hp, o, upd_same, h⟩
    · have hn := w.neOwn hp hq
      rw [upd_ne hn]
      exact w.own q hq
  · rw [List.map_cons, List.nodup_cons]
    refine ⟨fun hm => ?_, w.nd⟩
    obtain ⟨q, hq, e⟩ := List.mem_map.mp hm
    exact w.neOwn hp hq e
theorem mem_mid {α : Type} {A B : List α} {x : α} : x ∈ A ++ x :: B := List.mem_append_right _ List.mem_cons_self
/-- the object at a changes -/
theorem Wd.put (w : Wd G (W1 ++ (a, P) :: W2) H) (h : P' o) : Wd G (W1 ++ (a, P') :: W2) (upd H a o) := by
  have h0 := w.own (a, P) mem_mid
  have nd : ((W1 ++ (a, P) :: W2).map (·.1)).Nodup := w.nd
  rw [List.map_append, List.map_cons, List.nodup_append] at nd
  obtain ⟨n1, n2, n3⟩ := nd
  rw [List.nodup_cons] at n2
  refine ⟨fun b u e => ?_, fun q hq => ?_, ?_⟩
  · have hb : b ≠ a := ne_of_none e h0.1
    rw [upd_ne hb]
    exact w.ex _ _ e
  · rcases List.mem_append.mp hq with hq | hq
    · have hn : q.1 ≠ a := fun z => n3 _ (List.mem_map.mpr ⟨q, hq, z⟩) _ List.mem_cons_self rfl
      rw [upd_ne hn]
      exact w.own q (List.mem_append_left _ hq)
    · rcases List.mem_cons.mp hq with rfl | hq
      · exact ⟨h0.1, o, upd_same, h⟩
      · have hn : q.1 ≠ a := fun z => n2.1 (List.mem_map.mpr ⟨q, hq, z⟩)
        rw [upd_ne hn]
        exact w.own q (List.mem_append_right _ (List.mem_cons_of_mem _ hq))
  · rw [List.map_append, List.map_cons, List.nodup_append]
    exact ⟨n1, List.nodup_cons.mpr n2, n3⟩
/-- what holds there always is kept -/
theorem Wd.put' (w : Wd G W H) (hm : (a, P) ∈ W) (h : P o) : Wd G W (upd H a o) := by
  obtain ⟨A, B, rfl⟩ := List.append_of_mem hm
  exact w.put h
theorem Wd.putI (w : Wd G (W1 ++ (a, P) :: W2) H) : Wd G (W1 ++ (a, Is o) :: W2) (upd H a o) := w.put rfl
/-- the first one changes -/
theorem Wd.put1 (w : Wd G ((a, P) :: W) H) : Wd G ((a, Is o) :: W) (upd H a o) := Wd.putI (W1 := []) w
theorem Wd.get (w : Wd G W H) (hm : (a, P) ∈ W) : ∃ o, H a = some o ∧ P o := (w.own _ hm).2
theorem Wd.drop (w : Wd G (W1 ++ (a, P) :: W2) H) : Wd G (W1 ++ W2) H := by
  refine ⟨w.ex, fun q hq => w.own q ?_, ?_⟩
  · rcases List.mem_append.mp hq with hq | hq
    · exact List.mem_append_left _ hq
    · exact List.mem_append_right _ (List.mem_cons_of_mem _ hq)
  · have nd := w.nd
    rw [List.map_append, List.map_cons] at nd
    rw [List.map_append]
    exact nd.sublist (List.Sublist.append_left (List.sublist_cons_self _ _) _)
theorem Wd.drop1 (w : Wd G ((a, P) :: W) H) : Wd G W H := Wd.drop (W1 := []) w
/-- what does not change any more stands for good -/
theorem Wd.freeze (w : Wd G (W1 ++ (a, P) :: W2) H) : ∃ o, P o ∧ H a = some o ∧ Same G (upd G a o) ∧ Wd (upd G a o) (W1 ++ W2) H := by
  obtain ⟨g, o, h, ho⟩ := w.own (a, P) mem_mid
  have nd : ((W1 ++ (a, P) :: W2).map (·.1)).Nodup := w.nd
  rw [List.map_append, List.map_cons, List.nodup_append] at nd
  obtain ⟨n1, n2, n3⟩ := nd
  rw [List.nodup_cons] at n2
  refine ⟨o, ho, h, same_upd g, fun b u e => ?_, fun q hq => ?_, w.drop.nd⟩
  · by_cases hb : b = a
    · subst hb
      rw [upd_same] at e
      cases e
      exact h
    · rw [upd_ne hb] at e
      exact w.ex _ _ e
  · have hn : q.1 ≠ a := by
      rcases List.mem_append.mp hq with hq | hq
      · exact fun z => n3 _ (List.mem_map.mpr ⟨q, hq, z⟩) _ List.mem_cons_self rfl
      · exact fun z => n2.1 (List.mem_map.mpr ⟨q, hq, z⟩)
    rw [upd_ne hn]
    refine w.own q ?_
    rcases List.mem_append.mp hq with hq | hq
    · exact List.mem_append_left _ hq
    · exact List.mem_append_right _ (List.mem_cons_of_mem _ hq)
theorem Wd.freeze1 (w : Wd G ((a, P) :: W) H) : ∃ o, P o ∧ H a = some o ∧ Same G (upd G a o) ∧ Wd (upd G a o) W H := Wd.freeze (W1 := []) w
theorem Wd.imp (w : Wd G (W1 ++ (a, P) :: W2) H) (h : ∀ o, P o → P' o) : Wd G (W1 ++ (a, P') :: W2) H := by
  have h0 := w.own (a, P) mem_mid
  refine ⟨w.ex, fun q hq => ?_, ?_⟩
  · rcases List.mem_append.mp hq with hq | hq
    · exact w.own q (List.mem_append_left _ hq)
    · rcases List.mem_cons.mp hq with rfl | hq
      · obtain ⟨g, o, e, ho⟩ := h0
        exact ⟨g, o, e, h _ ho⟩
      · exact w.own q (List.mem_append_right _ (List.mem_cons_of_mem _ hq))
  · have nd := w.nd
    rw [List.map_append, List.map_cons] at nd ⊢
    exact nd
theorem Wd.perm {V' : Wl} (w : Wd G W H) (h : W.Perm V') : Wd G V' H :=
  ⟨w.ex, fun q hq => w.own q (h.mem_iff.mpr hq), (h.map _).nodup_iff.mp w.nd⟩
end

/-! ### data -/
section
variable {K : PySem.W.Frag} {G G' : Hp}
theorem seqT {a : Addr} {xs : List V} (e : Same G G') (h : SqT K G a xs) : SqT K G' a xs := by
  rcases h with (h | ⟨o, h⟩) | h
  · exact .inl (.inl (e _ _ h))
  · exact .inl (.inr ⟨o, e _ _ h⟩)
  · exact .inr h
mutual
theorem dmono (e : Same G G') : ∀ {d : PyData} {v : V}, Dp K G v d → Dp K G' v d
  | _, _, .non => .non
  | _, _, .bl b => .bl b
  | _, _, .int i => .int i
  | _, _, .str x => .str x
  | _, _, .lst h r => .lst (e.seq h) (dmonoAll e r)
  | _, _, .tup h r => .tup (seqT e h) (dmonoAll e r)
theorem dmonoAll (e : Same G G') : ∀ {ds : List PyData} {vs : List V}, DpAll K G vs ds → DpAll K G' vs ds
  | _, _, .nil => .nil
  | _, _, .cons h r => .cons (dmono e h) (dmonoAll e r)
end
end

/-! ### how arguments bind -/
theorem bAll {K : PySem.W.Frag} {fd : FuncData} {ps : List Str} (h : ∃ ds, Vals ([] : List V) ds ∧ Binds K fd ps ds) : Binds K fd ps [] := by
  obtain ⟨ds, r, b⟩ := h
  cases r
  exact b
theorem valsGet {vs : List V} {us : List Value} (r : Vals vs us) (i : Nat) : L2.RelV (vs.getD i .non) (us.getD i .none) := by
  induction r generalizing i with
  | nil => exact rfl
  | cons h t ih =>
    cases i with
    | zero => simpa using h
    | succ i => simpa using ih i
section
variable {K : PySem.W.Frag} {x qual : Str} {params : Arguments} {body : List Stmt} {scope : Scope} {dvs : List V} {f : Addr} {fd : FuncData} {ps ks : List Str} {n : Nat}
theorem kbnN (F : FunD K x qual params body scope [] [] f fd) (g : List Value → List Value → List Value) {gV : List V → List V → List V}
    (rel : ∀ {vs : List V} {us : List Value} {zs : List V} {ws : List Value}, Vals vs us → Vals zs ws → Vals (gV vs zs) (g us ws))
    (h : ∀ (kV doc pm : Value) (an : Option Addr) (cdv ct : Value) (us ws : List Value), us.length = n → ws.length = ks.length →
      bindArgs (PySem.W.fnOf x qual params body scope .none kV doc pm an cdv ct) ⟨us, ks.zip ws⟩ = pure (ps.zip (g us ws))) : KBn K fd ps n ks g gV := by
  obtain ⟨oc, od, dV, kV, doc, pm, an, cdv, ct, osl, rfl, lk, hcd, hD, hK⟩ := F.ex
  rcases hD with ⟨_, rfl⟩ | ⟨e, _⟩
  · exact ⟨fun s us ws _ l1 l2 => .of_eq (h kV doc pm an cdv ct us ws l1 l2), rel⟩
  · exact absurd rfl e
theorem kbnD (F : FunD K x qual params body scope dvs [] f fd) (hd : dvs ≠ []) (g : List Value → List Value → List Value → List Value) {gV : List V → List V → List V}
    (rel : ∀ {vs : List V} {us : List Value} {its : List Value} {zs : List V} {ws : List Value}, Vals vs us → Vals dvs its → Vals zs ws → Vals (gV vs zs) (g us its ws))
    (h : ∀ (T : Addr) (kV doc pm : Value) (an : Option Addr) (cdv ct : Value) (us its ws : List Value), us.length = n → its.length = dvs.length → ws.length = ks.length →
      ∃ k, bindArgs (PySem.W.fnOf x qual params body scope (.ref T) kV doc pm an cdv ct) ⟨us, ks.zip ws⟩ = seqItems? (.ref T) >>= k ∧ k (some its.toArray) = pure (ps.zip (g us its ws))) : ∃ g', KBn K fd ps n ks g' gV := by
  obtain ⟨oc, od, dV, kV, doc, pm, an, cdv, ct, osl, rfl, lk, hcd, hD, hK⟩ := F.ex
  rcases hD with ⟨e, _⟩ | ⟨_, T, o, its, m, rfl, lT, oT, rT⟩
  · exact absurd e hd
  · refine ⟨fun us ws => g us its ws, fun s us ws X l1 l2 => ?_, fun r1 r3 => rel r1 rT r3⟩
    obtain ⟨k, e1, e2⟩ := h T kV doc pm an cdv ct us its ws l1 rT.length.symm l2
    refine BindsTo.of_looks fun M => ?_
    rw [e1]
    exact looks_items X lT oT (.of_pure e2)
end
section
variable {X : Cx} {CX : CXT} {k n : Nat} {f : Addr} {fd : FuncData} {ps ks : List Str} {sp : Sp} {E : XK} {x : Str} {p pos : Pos} {kws : List Keyword} {tk : TA} {g : List Value → List Value → List Value} {gV : List V → List V → List V}
/-- f(k = v, ..): keywords alone -/
theorem pe_callN0 (F : FnOk X.prog X.w X.K X.mg X.base CX k f fd ps sp) (hr : Room k X.A) (hg : Gl X x) (hm : X.mg x = some (.ref f)) (hk : PySem.W.keepIn X.K (.ref f) = true) (hb : KBn X.K fd ps 0 ks g gV) (hx : Passes CX X E)
    (hkw : PK X kws tk) (hall : (backToKw pos (keywordEach kws X.env)).all (·.1.isSome) = true := by rfl) (hks : (backToKw pos (keywordEach kws X.env)).filterMap (·.1) = ks := by rfl)
    (hdb : (x == ("__debug__" : Str)) = false := by decide) (hpl : ((backTo pos (starEach [] X.env)).any (·.1) || (backToKw pos (keywordEach kws X.env)).any (·.1.isNone)) = false := by rfl) :
    PE X (.Call (.Name x p) [] kws pos) (tCallN 0 ks.length sp gV E tNil tk) := by
  refine ⟨fun pins s σ H Q I h => wpAny_Call_Name_kw (ld_glob I hg hm ?_ hdb)⟩
  refine PySem.W.callWith_KW0 (h₀ := X.base) I.ok.mod.kin hk hall (thn (hkw.run pos pins _ σ H _ (I.tok _) h) fun ws s2 ⟨zs, H2, I2, rz, l1, l2, q2⟩ => ⟨I2.kIn, ?_⟩) hpl
  rw [hks]
  exact run_fnN (us := []) (vs := []) F hr hb hx I2 .nil rz rfl l2 q2
end
section
variable {X : Cx}
def CPowW (i j : Int) : Prop := 0 ≤ j ∧ (Builtin.Int.intBits i : Int) * j ≤ 2 ^ 27
theorem op_powW : OpR X (binaryOp .Pow) (rI CPowW fun i j => .int (i ^ j.toNat)) := opI fun _ _ _ _ _ _ _ hc q => PyProof.Rows.pow_int hc.1 hc.2 q
end

/-! ### readings, step by step (what is asked, from the left) -/
section
variable {K : PySem.W.Frag} {σ : L2.St} {H : Hp} {Q : VK} {D : Ends} {i : Nat} {v x y : V} {ta tb te : TE} {t u : TS} {tt tu : TT} {QT : Bool → Hp → Prop} {QA : List V → Hp → Prop} {QS nx bk ct : L2.St → Hp → Prop} {rt : VK} {r : R2} {tr : TA} {xs : List V}
theorem st_var (h : σ[i]? = some (some v)) (q : Q v H) : tVar i σ H Q := ⟨v, h, q⟩
theorem st_c (q : Q v H) : tC v σ H Q := q
theorem st_op (h : ta σ H fun x H1 => tb σ H1 fun y H2 => r x y H2 Q) : tOp r ta tb σ H Q := h
theorem st_un {r : V → Hp → VK → Prop} (h : ta σ H fun x H1 => r x H1 Q) : tUn r ta σ H Q := h
theorem st_i0 {g : Int → Int → V} {a b : Int} (q : Q (g a b) H) : rI0 g (.int a) (.int b) H Q := ⟨a, b, rfl, rfl, q⟩
theorem st_i {C : Int → Int → Prop} {g : Int → Int → V} {a b : Int} (c : C a b) (q : Q (g a b) H) : rI C g (.int a) (.int b) H Q := ⟨a, b, rfl, rfl, c, q⟩
theorem st_u {g : Int → V} {a : Int} (q : Q (g a) H) : rU g (.int a) H Q := ⟨a, rfl, q⟩
theorem st_eq (h : scal x y = true) (q : Q (.bl (decide (x = y))) H) : rEq x y H Q := ⟨h, q⟩
theorem st_ne (h : scal x y = true) (q : Q (.bl (!decide (x = y))) H) : rNe x y H Q := ⟨h, q⟩
theorem st_test (h : te σ H fun x H1 => ∃ k, x = .bl k ∧ QT k H1) : tTest te σ H QT := h
theorem st_tB (h : te σ H fun x H1 => ∃ k, x = .bl k ∧ QT k H1) : tB te σ H QT := h
theorem st_bl {b : Bool} {P : Bool → Prop} (q : P b) : ∃ k, V.bl b = .bl k ∧ P k := ⟨b, rfl, q⟩
theorem st_not (h : tt σ H fun c H1 => QT (!c) H1) : tNot tt σ H QT := h
theorem st_and (h : tt σ H fun c H1 => if c = true then tu σ H1 QT else QT false H1) : tAnd tt tu σ H QT := h
theorem st_or (h : tt σ H fun c H1 => if c = true then QT true H1 else tu σ H1 QT) : tOr tt tu σ H QT := h
theorem st_andV (h : ta σ H fun x H1 => ∃ c, x = .bl c ∧ if c = true then tb σ H1 Q else Q (.bl false) H1) : tAndV ta tb σ H Q := h
theorem st_orV (h : ta σ H fun x H1 => ∃ c, x = .bl c ∧ if c = true then Q (.bl true) H1 else tb σ H1 Q) : tOrV ta tb σ H Q := h
theorem st_notV (h : ta σ H fun x H1 => ∃ c, x = .bl c ∧ Q (.bl (!c)) H1) : tNotV ta σ H Q := h
theorem st_ifE (h : tt σ H fun c H1 => if c = true then ta σ H1 Q else tb σ H1 Q) : tIf tt ta tb σ H Q := h
theorem st_nil (q : QA [] H) : tNil σ H QA := q
theorem st_cons (h : te σ H fun x H1 => tr σ H1 fun xs H2 => QA (x :: xs) H2) : tCons te tr σ H QA := h
theorem st_cb {r : List V → Hp → VK → Prop} (h : tr σ H fun vs H1 => r vs H1 Q) : tCB r tr σ H Q := h
theorem st_seq (h : t ⟨u ⟨nx, rt, bk, ct⟩, rt, bk, ct⟩ σ H) : tSeq t u ⟨nx, rt, bk, ct⟩ σ H := h
theorem st_next (q : nx σ H) : tNext ⟨nx, rt, bk, ct⟩ σ H := q
theorem st_brk (q : bk σ H) : tBreak ⟨nx, rt, bk, ct⟩ σ H := q
theorem st_cont (q : ct σ H) : tCont ⟨nx, rt, bk, ct⟩ σ H := q
theorem st_drop (h : te σ H fun _ H1 => nx σ H1) : tDrop te ⟨nx, rt, bk, ct⟩ σ H := h
theorem st_ret (h : te σ H rt) : tRet te ⟨nx, rt, bk, ct⟩ σ H := h
theorem st_retN (h : rt .non H) : tRetN ⟨nx, rt, bk, ct⟩ σ H := h
theorem st_if (h : tt σ H fun b H1 => if b = true then t ⟨nx, rt, bk, ct⟩ σ H1 else u ⟨nx, rt, bk, ct⟩ σ H1) : tIfS tt t u ⟨nx, rt, bk, ct⟩ σ H := h
theorem st_asg {g : TG} (h : te σ H fun x H1 => g x σ H1 nx) : tAsg te g ⟨nx, rt, bk, ct⟩ σ H := h
theorem st_gname (q : QS (σ.set i (some v)) H) : gName i v σ H QS := q
theorem st_par {j : Nat} (h : tr σ H fun vs H1 => ∃ v w, vs = [v, w] ∧ nx ((σ.set i (some v)).set j (some w)) H1) : tPar i j tr ⟨nx, rt, bk, ct⟩ σ H := h
theorem st_two {w : V} {P : V → V → Prop} (q : P v w) : ∃ v' w', [v, w] = [v', w'] ∧ P v' w' := ⟨v, w, rfl, q⟩
theorem st_call {sp : Sp} {dvs : List V} {E : XK} (h : tr σ H fun vs H1 => sp (vs ++ dvs) H1 Q E) : tCall sp dvs E tr σ H Q := h
theorem st_callN {n m : Nat} {sp : Sp} {gV : List V → List V → List V} {E : XK} {tk : TA} (h : tr σ H fun vs H1 => tk σ H1 fun zs H2 => vs.length = n ∧ zs.length = m ∧ sp (gV vs zs) H2 Q E) : tCallN n m sp gV E tr tk σ H Q := h
/-- a new list, a new tuple at a free place -/
def NewO (o : HO) (H : Hp) (Q : VK) : Prop := ∀ p, H p = none → Q (.ref p) (upd H p o)
theorem st_lst (h : tr σ H fun xs H1 => xs.length ≤ sizeLine ∧ NewO (.lst xs) H1 Q) : tLst tr σ H Q := h
theorem st_tup (h : tr σ H fun xs H1 => xs.length ≤ sizeLine ∧ NewO (.tup xs) H1 Q) : tTup tr σ H Q := h
theorem small {n : Nat} (h : n ≤ 1000000) : n ≤ sizeLine := Nat.le_trans h (by decide)
theorem small' {n : Nat} (h : n ≤ 1000000) : n < sizeLine := Nat.lt_of_le_of_lt h (by decide)
/-- it stands for good -/
theorem NewO.good {o : HO} {G : Hp} {W : Wl} (w : Wd G W H) (k : ∀ p G' H', Same G G' → Wd G' W H' → G' p = some o → Q (.ref p) H') : NewO o H Q := fun p hp =>
  k p (upd G p o) (upd H p o) (same_upd (w.free hp)) (w.new hp) upd_same
/-- it may change -/
theorem NewO.own {o : HO} {G : Hp} {W : Wl} (w : Wd G W H) (k : ∀ p H', Wd G ((p, Is o) :: W) H' → Q (.ref p) H') : NewO o H Q := fun p hp => k p (upd H p o) (w.newM hp rfl)
end

/-! ### a def that lets nothing out -/
section
variable {P : Program} {w : World} {K : PySem.W.Frag} {mg : Str → Option Value} {base : Heap} {x qual : Str} {params : Arguments} {body : List Stmt} {scope : Scope} {dvs : List V} {kws : List (Str × V)} {f : Addr} {fd : FuncData}
theorem okD {N ps : List Str} {k : Nat} {sp : Sp} (F : FunD K x qual params body scope dvs kws f fd) (S : FnScope N ps scope) (len : ∀ vs H Q E, sp vs H Q E → vs.length = ps.length)
    (hb : ∀ (cdv : Value) (A : Around) (outer : List Env) (s : Shared) (H : Hp) (vs : List V) (Q : VK) (E : XK), Room k (A.deeper (envOfC qual scope s.heap.objs.size f cdv)) → sp vs H Q E →
      ∃ t, PSs (cxOf CX0 P w K mg base N qual scope f cdv A outer s H E).nox body t ∧ t { nx := fun _ H' => Q .non H', rt := Q } (start N vs) H) : FnOk P w K mg base CX0 (k + 1) f fd ps sp :=
  F.ok S len fun cdv A outer s H vs Q E hr h => let ⟨t, a, q⟩ := hb cdv A outer s H vs Q E hr h; ⟨t, a.nox, q⟩
end
/-! ### loops -/
def LoopQ (J : It) (g : TG) (tb : TS) (nx : L2.St → Hp → Prop) (rt : VK) (σ : L2.St) (H : Hp) : Prop := ∃ W : Nat → Nat → L2.St → Hp → Prop, (∃ m, W 0 m σ H) ∧ ∀ i m σ H, W i m σ H →
  (J.stop i H ∧ nx σ H) ∨ (J.go i H ∧ ∃ N : L2.St → Hp → Prop, (∀ σ' H', N σ' H' → ∃ m', m' < m ∧ W (i + 1) m' σ' H') ∧ ∀ x H', J.yld i H x H' → g x σ H' fun σ2 H2 => tb ⟨N, rt, nx, N⟩ σ2 H2)
/-- what holds between two turns, over a G that grows -/
def Btw (I : Nat → L2.St → Hp → Wl → Prop) (G : Hp) (i : Nat) : L2.St → Hp → Prop := fun σ H => ∃ G' W, Same G G' ∧ Wd G' W H ∧ I i σ G' W
section
variable {K : PySem.W.Frag} {σ : L2.St} {H G : Hp} {W : Wl} {nx bk ct : L2.St → Hp → Prop} {rt : VK} {g : TG} {tb : TS} {a b : Addr} {xs ys : List V} {n : Nat}
theorem st_for {wi : TI} (h : wi σ H fun J H1 => LoopQ J g tb nx rt σ H1) : tFor wi g tb ⟨nx, rt, bk, ct⟩ σ H := h
theorem st_btw {I : Nat → L2.St → Hp → Wl → Prop} {G' : Hp} {i : Nat} (e : Same G G') (w : Wd G' W H) (h : I i σ G' W) : Btw I G i σ H := ⟨G', W, e, w, h⟩
theorem loop_go {J : It} {Gp : Hp → Prop} {Y : Nat → Hp → V → Hp → Prop} (wk : Walk J n Gp Y) (I : Nat → L2.St → Hp → Wl → Prop) (w : Wd G W H) (hG : ∀ G' W' H', Same G G' → Wd G' W' H' → Gp H') (h0 : I 0 σ G W)
    (hs : ∀ i x σ' G' W' H' H'', i < n → Same G G' → Wd G' W' H' → I i σ' G' W' → Y i H' x H'' → g x σ' H'' fun σ2 H2 => tb ⟨Btw I G (i + 1), rt, nx, Btw I G (i + 1)⟩ σ2 H2)
    (hd : ∀ σ' G' W' H', Same G G' → Wd G' W' H' → I n σ' G' W' → nx σ' H') : LoopQ J g tb nx rt σ H :=
  for_it (D := ⟨nx, rt, nx, nx⟩) wk (Btw I G) ⟨G, W, Same.refl _, w, h0⟩ (fun _ _ _ _ ⟨_, _, e, w', _⟩ => hG _ _ _ e w') (fun i x σ' H' H'' hi ⟨G', W', e, w', h⟩ y => hs i x σ' G' W' H' H'' hi e w' h y) fun σ' H' ⟨G', W', e, w', h⟩ => hd σ' G' W' H' e w' h
theorem seq_up (w : Wd G W H) (h : SqL K G a xs) : SqL K H a xs := w.ex.seq h
theorem tup_up (w : Wd G W H) (h : SqT K G a xs) : SqT K H a xs := seqT w.ex h
/-- for x in a list -/
theorem for_l (hx : SqL K G a xs) (I : Nat → L2.St → Hp → Wl → Prop) (w : Wd G W H) (h0 : I 0 σ G W)
    (hs : ∀ i x σ' G' W' H', xs[i]? = some x → Same G G' → Wd G' W' H' → I i σ' G' W' → g x σ' H' fun σ2 H2 => tb ⟨Btw I G (i + 1), rt, nx, Btw I G (i + 1)⟩ σ2 H2)
    (hd : ∀ σ' G' W' H', Same G G' → Wd G' W' H' → I xs.length σ' G' W' → nx σ' H') : ∃ a', V.ref a = .ref a' ∧ (∃ xs, SqL K H a' xs) ∧ LoopQ (Itl K a') g tb nx rt σ H :=
  ⟨a, rfl, ⟨xs, seq_up w hx⟩, loop_go walk_list I w (fun _ _ _ e w' => seq_up w' (e.seq hx)) h0 (fun i x σ' G' W' H' H'' _ e w' h y => by obtain ⟨rfl, y⟩ := y; exact hs i x σ' G' W' H'' y e w' h) hd⟩
/-- for x in a tuple -/
theorem for_t (hx : SqT K G a xs) (I : Nat → L2.St → Hp → Wl → Prop) (w : Wd G W H) (h0 : I 0 σ G W)
    (hs : ∀ i x σ' G' W' H', xs[i]? = some x → Same G G' → Wd G' W' H' → I i σ' G' W' → g x σ' H' fun σ2 H2 => tb ⟨Btw I G (i + 1), rt, nx, Btw I G (i + 1)⟩ σ2 H2)
    (hd : ∀ σ' G' W' H', Same G G' → Wd G' W' H' → I xs.length σ' G' W' → nx σ' H') : ∃ a', V.ref a = .ref a' ∧ (∃ xs, SqT K H a' xs) ∧ LoopQ (Itt K a') g tb nx rt σ H :=
  ⟨a, rfl, ⟨xs, tup_up w hx⟩, loop_go walk_tup I w (fun _ _ _ e w' => tup_up w' (seqT e hx)) h0 (fun i x σ' G' W' H' H'' _ e w' h y => by obtain ⟨rfl, y⟩ := y; exact hs i x σ' G' W' H'' y e w' h) hd⟩
/-- for i in range(n) -/
theorem for_r1 {z : Int} (hz : -(2 ^ 62) ≤ z ∧ z < 2 ^ 62) (I : Nat → L2.St → Hp → Wl → Prop) (w : Wd G W H) (h0 : I 0 σ G W)
    (hs : ∀ (i : Nat) σ' G' W' H', (i : Int) < z → Same G G' → Wd G' W' H' → I i σ' G' W' → g (.int (i : Int)) σ' H' fun σ2 H2 => tb ⟨Btw I G (i + 1), rt, nx, Btw I G (i + 1)⟩ σ2 H2)
    (hd : ∀ σ' G' W' H', Same G G' → Wd G' W' H' → I z.toNat σ' G' W' → nx σ' H') : ∃ j : Int, [V.int z] = [.int j] ∧ -(2 ^ 62) ≤ j ∧ j < 2 ^ 62 ∧ LoopQ (Itr 0 j.toNat) g tb nx rt σ H :=
  ⟨z, rfl, hz.1, hz.2, loop_go walk_range I w (fun _ _ _ _ _ => trivial) h0 (fun i x σ' G' W' H' H'' hi e w' h y => by
    obtain ⟨rfl, rfl⟩ := y
    have e0 : (0 : Int) + (i : Int) = (i : Int) := Int.zero_add _
    dsimp only
    rw [e0]
    exact hs i σ' G' W' H'' (by omega) e w' h) hd⟩
/-- for i in range(lo, hi) -/
theorem for_r2 {lo z : Int} (hz : -(2 ^ 62) ≤ lo ∧ lo < 2 ^ 62 ∧ -(2 ^ 62) ≤ z ∧ z < 2 ^ 62) (I : Nat → L2.St → Hp → Wl → Prop) (w : Wd G W H) (h0 : I 0 σ G W)
    (hs : ∀ (i : Nat) σ' G' W' H', lo + (i : Int) < z → Same G G' → Wd G' W' H' → I i σ' G' W' → g (.int (lo + (i : Int))) σ' H' fun σ2 H2 => tb ⟨Btw I G (i + 1), rt, nx, Btw I G (i + 1)⟩ σ2 H2)
    (hd : ∀ σ' G' W' H', Same G G' → Wd G' W' H' → I (z - lo).toNat σ' G' W' → nx σ' H') :
    ∃ i j : Int, [V.int lo, V.int z] = [.int i, .int j] ∧ (-(2 ^ 62) ≤ i ∧ i < 2 ^ 62 ∧ -(2 ^ 62) ≤ j ∧ j < 2 ^ 62) ∧ LoopQ (Itr i (j - i).toNat) g tb nx rt σ H :=
  ⟨lo, z, rfl, hz, loop_go walk_range I w (fun _ _ _ _ _ => trivial) h0 (fun i x σ' G' W' H' H'' hi e w' h y => by
    obtain ⟨rfl, rfl⟩ := y
    exact hs i σ' G' W' H'' (by omega) e w' h) hd⟩
/-- for i, x in enumerate(a list) -/
theorem for_enum (hx : SqL K G a xs) {i1 i2 : Nat} (I : Nat → L2.St → Hp → Wl → Prop) (w : Wd G W H) (h0 : I 0 σ G W)
    (hs : ∀ (i : Nat) x σ' G' G'' W' H', xs[i]? = some x → Same G G' → I i σ' G' W' → Same G' G'' → Wd G'' W' H' → tb ⟨Btw I G (i + 1), rt, nx, Btw I G (i + 1)⟩ ((σ'.set i1 (some (.int (i : Int)))).set i2 (some x)) H')
    (hd : ∀ σ' G' W' H', Same G G' → Wd G' W' H' → I xs.length σ' G' W' → nx σ' H') :
    ∃ a' ys, [V.ref a] = [.ref a'] ∧ SqL K H a' ys ∧ LoopQ (Ite K a') (gTup K 2 (gCons (gName i1) (gCons (gName i2) gNil))) tb nx rt σ H :=
  ⟨a, xs, rfl, seq_up w hx, loop_go walk_enum I w (fun _ _ _ e w' => seq_up w' (e.seq hx)) h0 (fun i x σ' G' W' H' H'' _ e w' h y => by
    obtain ⟨T, x1, x2, rfl, hn, rfl, e1, e2⟩ := y
    cases e1
    refine ⟨T, _, rfl, SqT.of upd_same, rfl, _, _, rfl, ?_⟩
    refine ⟨_, _, rfl, ?_⟩
    exact ⟨rfl, hs i x2 σ' G' _ W' _ e2 e h (same_upd (w'.free hn)) (w'.new hn)⟩) hd⟩
end

/-! ### comprehensions -/
def LcQ (J : It) (g : TG) (tt : TT) (te : TE) (vs : List Nat) (σ : L2.St) (H1 : Hp) (Q : VK) : Prop := ∀ D, H1 D = none → ∃ W : Nat → Nat → Hp → Prop, (∃ m, W 0 m (upd H1 D (.lst []))) ∧ ∀ i m H, W i m H →
  (J.stop i H ∧ Q (.ref D) H) ∨ (J.go i H ∧ ∃ Nx : Hp → Prop, (∀ H', Nx H' → ∃ m', m' < m ∧ W (i + 1) m' H') ∧ ∀ x H', J.yld i H x H' → g x (wipe σ vs) H' fun σ2 H2 => wipe σ2 vs = wipe σ vs ∧ tt σ2 H2 fun b H3 =>
    if b = true then te σ2 H3 fun y H4 => ∃ acc, H4 D = some (.lst acc) ∧ acc.length < sizeLine ∧ Nx (upd H4 D (.lst (acc ++ [y]))) else Nx H3)
/-- what holds between two turns: the new list at D holds acc -/
def LcB (I : Nat → List V → Hp → Prop) (G : Hp) (W : Wl) (D : Addr) (i : Nat) : Hp → Prop := fun H => ∃ G' acc, Same G G' ∧ Wd G' ((D, Is (.lst acc)) :: W) H ∧ I i acc G'
section
variable {K : PySem.W.Frag} {σ : L2.St} {H G : Hp} {W : Wl} {D : Addr} {g : TG} {tt : TT} {te : TE} {vs : List Nat} {Q : VK} {a b : Addr} {xs ys : List V} {n : Nat}
theorem st_lc {wi : TI} (h : wi σ H fun J H1 => LcQ J g tt te vs σ H1 Q) : tLc wi g tt te vs σ H Q := h
theorem st_yes {QT : Bool → Hp → Prop} (q : QT true H) : tYes σ H QT := q
/-- an element is put -/
theorem lc_put {I : Nat → List V → Hp → Prop} {G' : Hp} {i : Nat} {acc : List V} {y : V} (w : Wd G' ((D, Is (.lst acc)) :: W) H) (e : Same G G') (hl : acc.length < 1000000) (h : I i (acc ++ [y]) G') :
    ∃ acc, H D = some (.lst acc) ∧ acc.length < sizeLine ∧ LcB I G W D i (upd H D (.lst (acc ++ [y]))) := by
  obtain ⟨o, ho, rfl⟩ := w.get List.mem_cons_self
  exact ⟨acc, ho, small' (Nat.le_of_lt hl), G', acc ++ [y], e, Wd.put (W1 := []) w rfl, h⟩
theorem lc_skip {I : Nat → List V → Hp → Prop} {G' : Hp} {i : Nat} {acc : List V} (w : Wd G' ((D, Is (.lst acc)) :: W) H) (e : Same G G') (h : I i acc G') : LcB I G W D i H := ⟨G', acc, e, w, h⟩
theorem lc_go {J : It} {Gp : Hp → Prop} {Y : Nat → Hp → V → Hp → Prop} (wk : Walk J n Gp Y) (I : Nat → List V → Hp → Prop) (w : Wd G W H) (hG : ∀ G' W' H', Same G G' → Wd G' W' H' → Gp H') (h0 : I 0 [] G)
    (hs : ∀ i x D G' H' H'' acc, i < n → Same G G' → Wd G' ((D, Is (.lst acc)) :: W) H' → I i acc G' → Y i H' x H'' → g x (wipe σ vs) H'' fun σ2 H2 => wipe σ2 vs = wipe σ vs ∧ tt σ2 H2 fun b H3 =>
      if b = true then te σ2 H3 fun y H4 => ∃ acc, H4 D = some (.lst acc) ∧ acc.length < sizeLine ∧ LcB I G W D (i + 1) (upd H4 D (.lst (acc ++ [y]))) else LcB I G W D (i + 1) H3)
    (hd : ∀ D G' H' acc, Same G G' → Wd G' ((D, Is (.lst acc)) :: W) H' → I n acc G' → Q (.ref D) H') : LcQ J g tt te vs σ H Q := fun D hD =>
  lc_it wk (LcB I G W D) ⟨G, [], Same.refl _, w.newM hD rfl, h0⟩ (fun _ _ _ ⟨_, _, e, w', _⟩ => hG _ _ _ e w') (fun i x H' H'' hi ⟨G', acc, e, w', h⟩ y => hs i x D G' H' H'' acc hi e w' h y) fun H' ⟨G', acc, e, w', h⟩ => hd D G' H' acc e w' h
/-- [.. for i in range(z)], the variable at slot j -/
theorem lc_r1 {z : Int} {j : Nat} (hz : -(2 ^ 62) ≤ z ∧ z < 2 ^ 62) (I : Nat → List V → Hp → Prop) (w : Wd G W H) (h0 : I 0 [] G) (hw : ∀ x, wipe ((wipe σ vs).set j x) vs = wipe σ vs)
    (hs : ∀ (i : Nat) D G' H' acc, (i : Int) < z → Same G G' → Wd G' ((D, Is (.lst acc)) :: W) H' → I i acc G' → tt ((wipe σ vs).set j (some (.int (i : Int)))) H' fun b H3 =>
      if b = true then te ((wipe σ vs).set j (some (.int (i : Int)))) H3 fun y H4 => ∃ acc, H4 D = some (.lst acc) ∧ acc.length < sizeLine ∧ LcB I G W D (i + 1) (upd H4 D (.lst (acc ++ [y]))) else LcB I G W D (i + 1) H3)
    (hd : ∀ D G' H' acc, Same G G' → Wd G' ((D, Is (.lst acc)) :: W) H' → I z.toNat acc G' → Q (.ref D) H') : ∃ j' : Int, [V.int z] = [.int j'] ∧ -(2 ^ 62) ≤ j' ∧ j' < 2 ^ 62 ∧ LcQ (Itr 0 j'.toNat) (gName j) tt te vs σ H Q :=
  ⟨z, rfl, hz.1, hz.2, lc_go walk_range I w (fun _ _ _ _ _ => trivial) h0 (fun i x D G' H' H'' acc hi e w' h y => by
    obtain ⟨rfl, rfl⟩ := y
    have e0 : (0 : Int) + (i : Int) = (i : Int) := Int.zero_add _
    dsimp only
    rw [e0]
    exact ⟨hw _, hs i D G' H'' acc (by omega) e w' h⟩) hd⟩
/-- [.. for x in a list] -/
theorem lc_l {j : Nat} (hx : SqL K G a xs) (I : Nat → List V → Hp → Prop) (w : Wd G W H) (h0 : I 0 [] G) (hw : ∀ x, wipe ((wipe σ vs).set j x) vs = wipe σ vs)
    (hs : ∀ (i : Nat) x D G' H' acc, xs[i]? = some x → Same G G' → Wd G' ((D, Is (.lst acc)) :: W) H' → I i acc G' → tt ((wipe σ vs).set j (some x)) H' fun b H3 =>
      if b = true then te ((wipe σ vs).set j (some x)) H3 fun y H4 => ∃ acc, H4 D = some (.lst acc) ∧ acc.length < sizeLine ∧ LcB I G W D (i + 1) (upd H4 D (.lst (acc ++ [y]))) else LcB I G W D (i + 1) H3)
    (hd : ∀ D G' H' acc, Same G G' → Wd G' ((D, Is (.lst acc)) :: W) H' → I xs.length acc G' → Q (.ref D) H') : ∃ a', V.ref a = .ref a' ∧ (∃ xs, SqL K H a' xs) ∧ LcQ (Itl K a') (gName j) tt te vs σ H Q :=
  ⟨a, rfl, ⟨xs, seq_up w hx⟩, lc_go walk_list I w (fun _ _ _ e w' => seq_up w' (e.seq hx)) h0 (fun i x D G' H' H'' acc _ e w' h y => by
    obtain ⟨rfl, y⟩ := y
    exact ⟨hw _, hs i x D G' H'' acc y e w' h⟩) hd⟩
end

/-! ### kinds of values -/
inductive Knd (K : PySem.W.Frag) (H : Hp) : V → Prop
  | int (i : Int) : Knd K H (.int i)
  | bl (b : Bool) : Knd K H (.bl b)
  | non : Knd K H .non
  | str (x : Str) : Knd K H (.str x)
  | lst {a : Addr} {xs : List V} (h : SqL K H a xs) : Knd K H (.ref a)
  | tup {a : Addr} {xs : List V} (h : SqT K H a xs) : Knd K H (.ref a)
  | dct {a : Addr} {kvs : List (Key × V)} (h : H a = some (.dK kvs)) : Knd K H (.ref a)
def isInt : V → Bool
  | .int _ => true
  | _ => false
def inRange (lo hi : Int) : V → Bool
  | .int i => decide (lo ≤ i) && decide (i ≤ hi)
  | _ => false
section
variable {K : PySem.W.Frag} {H : Hp} {x : V}
theorem tyL {a : Addr} {xs : List V} (h : SqL K H a xs) : TyX K H (.ref a) (.type "list") := by
  rcases h with (h | ⟨o, h⟩) | ⟨o, _, _, h, hc, _⟩
  · exact .base (.lst h)
  · exact .base (.frz h)
  · exact .kList h hc
theorem tyT {a : Addr} {xs : List V} (h : SqT K H a xs) : TyX K H (.ref a) (.type "tuple") := by
  rcases h with (h | ⟨o, h⟩) | ⟨o, _, _, h, hc, _⟩
  · exact .base (.tup h)
  · exact .fTuple h
  · exact .kTuple h hc
theorem Knd.ty (h : Knd K H x) : ∃ n b1 b2, TyX K H x (.type n) ∧ kitB n "int" = some b1 ∧ kitB n "bool" = some b2 ∧ isInt x = (b1 && !b2) := by
  cases h with
  | int i => exact ⟨"int", true, false, .base (.int i), by decide +kernel, by decide +kernel, rfl⟩
  | bl b => exact ⟨"bool", true, true, .base (.bl b), by decide +kernel, by decide +kernel, rfl⟩
  | non => exact ⟨"NoneType", false, false, .base .non, by decide +kernel, by decide +kernel, rfl⟩
  | str s => exact ⟨"str", false, false, .base (.str s), by decide +kernel, by decide +kernel, rfl⟩
  | lst h => exact ⟨"list", false, false, tyL h, by decide +kernel, by decide +kernel, rfl⟩
  | tup h => exact ⟨"tuple", false, false, tyT h, by decide +kernel, by decide +kernel, rfl⟩
  | dct h => exact ⟨"dict", false, false, .base (.dK h), by decide +kernel, by decide +kernel, rfl⟩
/-- isinstance(x, (list, tuple)) -/
def isSeq (K : PySem.W.Frag) (H : Hp) (x : V) : Prop := ∃ a xs, x = .ref a ∧ (SqL K H a xs ∨ SqT K H a xs)
theorem kB {a b : String} {r : Bool} {cs : List Value} {q : Bool} (h : kitB a b = some r) (hr : r = false → PySem.W.kitAny K (.type a) cs = some q) (hb : r = true → q = true) : PySem.W.kitAny K (.type a) (.type b :: cs) = some q := kitAny_cons (kit_ty h) hr hb
theorem kitLT_l : PySem.W.kitAny K (.type "list") [.type "list", .type "tuple"] = some true := kB (r := true) (by decide +kernel) (fun h => nomatch h) (fun _ => rfl)
theorem kitLT_t : PySem.W.kitAny K (.type "tuple") [.type "list", .type "tuple"] = some true := kB (r := false) (by decide +kernel) (fun _ => kB (r := true) (by decide +kernel) (fun h => nomatch h) (fun _ => rfl)) (fun h => nomatch h)
theorem isiSeq {Q : VK} {a p : Addr} {xs : List V} (hp : H p = some (.tup [.ty "list", .ty "tuple"])) (h : SqL K H a xs ∨ SqT K H a xs) (q : Q (.bl true) H) : rIsiT K [.ref a, .ref p] H Q := by
  rcases h with h | h
  · exact ⟨_, p, _, _, _, true, rfl, hp, .cons (.ty _) (.cons (.ty _) .nil), tyL h, kitLT_l, q⟩
  · exact ⟨_, p, _, _, _, true, rfl, hp, .cons (.ty _) (.cons (.ty _) .nil), tyT h, kitLT_t, q⟩
end

section
variable {K : PySem.W.Frag} {σ : L2.St} {H : Hp} {ta : TA} {tl : TE} {R : It → Hp → Prop}
theorem st_iEnum (h : ta σ H fun vs H1 => ∃ a xs, vs = [.ref a] ∧ SqL K H1 a xs ∧ R (Ite K a) H1) : iEnum K ta σ H R := h
theorem st_iList (h : tl σ H fun x H1 => ∃ a, x = .ref a ∧ (∃ xs, SqL K H1 a xs) ∧ R (Itl K a) H1) : iList K tl σ H R := h
theorem st_iTup (h : tl σ H fun x H1 => ∃ a, x = .ref a ∧ (∃ xs, SqT K H1 a xs) ∧ R (Itt K a) H1) : iTup K tl σ H R := h
theorem st_iR1 (h : ta σ H fun vs H1 => ∃ j : Int, vs = [.int j] ∧ -(2 ^ 62) ≤ j ∧ j < 2 ^ 62 ∧ R (Itr 0 j.toNat) H1) : iRng1 ta σ H R := h
theorem st_iR2 (h : ta σ H fun vs H1 => ∃ i j : Int, vs = [.int i, .int j] ∧ (-(2 ^ 62) ≤ i ∧ i < 2 ^ 62 ∧ -(2 ^ 62) ≤ j ∧ j < 2 ^ 62) ∧ R (Itr i (j - i).toNat) H1) : iRng2 ta σ H R := h
end

theorem atUp {G G' : Hp} {a : Addr} {o : HO} (e : Same G G') (h : G a = some o) : G' a = some o := e _ _ h
theorem hUp {G H : Hp} {W : Wl} {a : Addr} {o : HO} (w : Wd G W H) (h : G a = some o) : H a = some o := w.ex _ _ h
theorem dUp {K : PySem.W.Frag} {G H : Hp} {W : Wl} {v : V} {d : PyData} (w : Wd G W H) (h : Dp K G v d) : Dp K H v d := dmono w.ex h
theorem getI {ns : List Int} {i : Nat} {x : V} (h : (ns.map V.int)[i]? = some x) : ∃ n, ns[i]? = some n ∧ x = V.int n ∧ n ∈ ns := by
  rw [List.getElem?_map] at h
  obtain ⟨n, hn, e⟩ := Option.map_eq_some_iff.mp h
  exact ⟨n, hn, e.symm, List.mem_of_getElem? hn⟩

section
variable {K : PySem.W.Frag} {σ : L2.St} {H : Hp} {Q : VK} {QS : L2.St → Hp → Prop} {to ti : TE} {v x : V} {xs : List V} {a : Addr}
theorem st_gsub {t : TSet} (h : to σ H fun o H1 => ti σ H1 fun i H2 => t o i v H2 fun H3 => QS σ H3) : gSub to ti t v σ H QS := h
/-- xs[i] -/
theorem st_ixL {i : Int} (h : SqL K H a xs) (hv : atI xs i = some v) (q : Q v H) : rIxL K (.ref a) (.int i) H Q := ⟨a, xs, i, v, rfl, rfl, h, hv, q⟩
theorem st_ixT {i : Int} (h : SqT K H a xs) (hv : atI xs i = some v) (q : Q v H) : rIxT K (.ref a) (.int i) H Q := ⟨a, xs, i, v, rfl, rfl, h, hv, q⟩
theorem st_setL {i : Int} {j : Nat} {Q : Hp → Prop} (h : H a = some (.lst xs)) (hj : ixN xs.length i = some j) (q : Q (upd H a (.lst (xs.set j v)))) : rSetL (.ref a) (.int i) v H Q := ⟨a, xs, i, j, rfl, rfl, h, hj, q⟩
end

section
variable {K : PySem.W.Frag} {σ : L2.St} {H : Hp} {Q : VK} {to te : TE} {t : TA} {T : String} {r : V → List V → Hp → VK → Prop} {xs : List V} {a : Addr}
theorem st_bm (h : to σ H fun x H1 => tyV K T x H1 ∧ t σ H1 fun xs H2 => r x xs H2 Q) : tBM K T r to t σ H Q := h
theorem st_bm0 (h : to σ H fun x H1 => tyV K T x H1 ∧ r x [] H1 Q) : tBM0 K T r to σ H Q := h
theorem tyL' (h : H a = some (.lst xs)) : tyV K "list" (.ref a) H := Or.inl ⟨rfl, _, SqL.of h⟩
theorem map_ins (ns : List Int) (i : Nat) (n : Int) : (ns.map V.int).take i ++ [V.int n] ++ (ns.map V.int).drop i = (ns.take i ++ [n] ++ ns.drop i).map V.int := by simp [List.map_take, List.map_drop]
theorem map_set' (ns : List Int) (i : Nat) (n : Int) : (ns.map V.int).set i (V.int n) = (ns.set i n).map V.int := by simp [List.map_set]
theorem atI_map {ns : List Int} {i : Int} (h0 : 0 ≤ i) (h1 : i < ns.length) : ∃ n, atI (ns.map V.int) i = some (V.int n) ∧ n ∈ ns ∧ ns[i.toNat]? = some n := by
  obtain ⟨n, hn⟩ : ∃ n, ns[i.toNat]? = some n := ⟨_, List.getElem?_eq_getElem (by omega)⟩
  refine ⟨n, ?_, List.mem_of_getElem? hn, hn⟩
  have e : i = (i.toNat : Int) := by omega
  rw [e]
  exact atI_nat (by rw [List.getElem?_map, hn]; rfl)
theorem ixN_of {n : Nat} {i : Int} (h0 : 0 ≤ i) (h1 : i < n) : ixN n i = some i.toNat := by
  unfold ixN
  rw [if_pos h0, if_pos h1]
end

theorem st_cut {t u : TS} {nx bk ct : L2.St → Hp → Prop} {rt : VK} {σ : L2.St} {H : Hp} (M : L2.St → Hp → Prop) (h : t ⟨M, rt, bk, ct⟩ σ H) (k : ∀ σ' H', M σ' H' → u ⟨nx, rt, bk, ct⟩ σ' H') : C8.tCut t u ⟨nx, rt, bk, ct⟩ σ H := ⟨M, h, k⟩
section
variable {K : PySem.W.Frag} {H : Hp}
def dI (ns : List Int) : PyData := .list (ns.map .int)
theorem dpInts : ∀ ns : List Int, DpAll K H (ns.map V.int) (ns.map PyData.int)
  | [] => .nil
  | n :: ns => .cons (.int n) (dpInts ns)
theorem dp_ints {a : Addr} {ns : List Int} (h : SqL K H a (ns.map V.int)) : Dp K H (.ref a) (dI ns) := .lst h (dpInts ns)
/-- data that may be compared: of a depth up to n -/
def Sh (n : Nat) (d : PyData) : Prop := d.canLay0 = true ∧ d.depth ≤ n
theorem sh_all {n : Nat} : ∀ {ds : List PyData}, (∀ d ∈ ds, Sh n d) → PyData.canLayAll0 ds = true ∧ PyData.depthAll ds ≤ n
  | [], _ => ⟨rfl, Nat.zero_le _⟩
  | d :: ds, h => by
    obtain ⟨a1, a2⟩ := h d List.mem_cons_self
    obtain ⟨b1, b2⟩ := sh_all (ds := ds) fun x hx => h x (List.mem_cons_of_mem _ hx)
    refine ⟨?_, ?_⟩
    · unfold PyData.canLayAll0
      rw [a1, b1]
      rfl
    · unfold PyData.depthAll
      exact Nat.max_le.mpr ⟨a2, b2⟩
theorem Sh.list {n : Nat} {ds : List PyData} (h : ∀ d ∈ ds, Sh n d) : Sh (n + 1) (.list ds) := by
  obtain ⟨a, b⟩ := sh_all h
  exact ⟨by unfold PyData.canLay0; exact a, by unfold PyData.depth; exact Nat.succ_le_succ b⟩
theorem Sh.tuple {n : Nat} {ds : List PyData} (h : ∀ d ∈ ds, Sh n d) : Sh (n + 1) (.tuple ds) := by
  obtain ⟨a, b⟩ := sh_all h
  exact ⟨by unfold PyData.canLay0; exact a, by unfold PyData.depth; exact Nat.succ_le_succ b⟩
theorem Sh.int {n : Nat} (i : Int) : Sh n (.int i) := ⟨by unfold PyData.canLay0; rfl, by unfold PyData.depth; exact Nat.zero_le _⟩
theorem Sh.bool {n : Nat} (i : Bool) : Sh n (.bool i) := ⟨by unfold PyData.canLay0; rfl, by unfold PyData.depth; exact Nat.zero_le _⟩
theorem Sh.none {n : Nat} : Sh n .none := ⟨by unfold PyData.canLay0; rfl, by unfold PyData.depth; exact Nat.zero_le _⟩
theorem Sh.ok {n : Nat} {d : PyData} (h : Sh n d) (hn : n ≤ 64) : SeqAt.shaped d = true := by
  unfold SeqAt.shaped
  rw [h.1, decide_eq_true (Nat.le_trans h.2 hn)]
  rfl
theorem sh_ints (ns : List Int) : Sh 1 (dI ns) := Sh.list fun d hd => by
  obtain ⟨n, _, rfl⟩ := List.mem_map.mp hd
  exact .int n
theorem eqvAll_map {α : Type} [DecidableEq α] (f : α → PyData) (h : ∀ x y, PyData.eqv (f x) (f y) = decide (x = y)) : ∀ xs ys : List α, PyData.eqvAll (xs.map f) (ys.map f) = decide (xs = ys)
  | [], [] => by simp [PyData.eqvAll]
  | [], _ :: _ => by simp [PyData.eqvAll]
  | _ :: _, [] => by simp [PyData.eqvAll]
  | x :: xs, y :: ys => by
    rw [List.map_cons, List.map_cons, PyData.eqvAll, h, eqvAll_map f h xs ys]
    by_cases e1 : x = y <;> by_cases e2 : xs = ys <;> simp [e1, e2]
theorem eqv_int (a b : Int) : PyData.eqv (.int a) (.int b) = decide (a = b) := by
  unfold PyData.eqv
  by_cases e : a = b <;> simp [e]
theorem eqv_dI (a b : List Int) : PyData.eqv (dI a) (dI b) = decide (a = b) := by
  unfold dI PyData.eqv
  exact eqvAll_map _ eqv_int a b
/-- xs == ys of data -/
theorem st_eqD {Q : VK} {x y : V} {d e : PyData} {b : Bool} (hx : Dp K H x d) (hy : Dp K H y e) (sx : SeqAt.shaped d = true) (sy : SeqAt.shaped e = true) (hb : PyData.eqv d e = b) (q : Q (.bl b) H) : rEqD K x y H Q := ⟨d, e, hx, hy, sx, sy, by rw [hb]; exact q⟩
theorem st_neD {Q : VK} {x y : V} {d e : PyData} {b : Bool} (hx : Dp K H x d) (hy : Dp K H y e) (sx : SeqAt.shaped d = true) (sy : SeqAt.shaped e = true) (hb : PyData.eqv d e = b) (q : Q (.bl (!b)) H) : rNeD K x y H Q := ⟨d, e, hx, hy, sx, sy, by rw [hb]; exact q⟩
/-- lists of ints -/
theorem st_eqI {Q : VK} {a b : Addr} {xs ys : List Int} (hx : SqL K H a (xs.map V.int)) (hy : SqL K H b (ys.map V.int)) (q : Q (.bl (decide (xs = ys))) H) : rEqD K (.ref a) (.ref b) H Q :=
  st_eqD (dp_ints hx) (dp_ints hy) ((sh_ints xs).ok (by decide)) ((sh_ints ys).ok (by decide)) (eqv_dI xs ys) q
theorem st_neI {Q : VK} {a b : Addr} {xs ys : List Int} (hx : SqL K H a (xs.map V.int)) (hy : SqL K H b (ys.map V.int)) (q : Q (.bl (!decide (xs = ys))) H) : rNeD K (.ref a) (.ref b) H Q :=
  st_neD (dp_ints hx) (dp_ints hy) ((sh_ints xs).ok (by decide)) ((sh_ints ys).ok (by decide)) (eqv_dI xs ys) q
end

theorem st_ifV {σ : L2.St} {H : Hp} {Q : VK} {tt : TT} {ta tb : TE} (v : V) (c : Bool) (ht : ∀ QT : Bool → Hp → Prop, QT c H → tt σ H QT) (h1 : c = true → ∀ Q : VK, Q v H → ta σ H Q) (h2 : c = false → ∀ Q : VK, Q v H → tb σ H Q) (q : Q v H) : tIf tt ta tb σ H Q :=
  ht _ (by
    cases c with
    | true => exact iteT (h1 rfl Q q)
    | false => exact iteF (h2 rfl Q q))
theorem ne_self (v : V) : (!decide (v = v)) = false := by rw [decide_eq_true rfl]; rfl
theorem eq_self' (v : V) : decide (v = v) = true := decide_eq_true rfl
end Z

/-! enumerate of a tuple -/
namespace PySem
open AutoSeq1 (wpAny_loadPart')
theorem zEnumNew (l : Addr) (its : Array Value) (n : Nat) (dd : Option Addr) (sl : Array (Option Value)) :
    Meets (Builtin.«enumerate.__new__» ⟨[.type "enumerate", .ref l], []⟩) (fun _ R s => s.heap.get? l = some { cls := .type "tuple", dict := dd, data := .seq its n, slots := sl } ∧
      R (.ok (.ret (.ref (s.heap.push { cls := .type "tuple_iterator", data := .fields #[.ref l, .int 0 0] }).objs.size)))
        { s with heap := (s.heap.push { cls := .type "tuple_iterator", data := .fields #[.ref l, .int 0 0] }).push { cls := .type "enumerate", data := .fields #[.none, .bool false, .ref s.heap.objs.size, rawInt 0, .none, .none] } }) :=
  .of_wp fun prog w A R s q => by
    obtain ⟨hp, g, d, tk, os⟩ := s
    obtain ⟨hl, hR⟩ := q
    have hsub := sub_enumerate
    have hT : Heap.IsTuple (Shared.heap ⟨hp, g, d, tk, os⟩) l its := ⟨_, hl, rfl, n, rfl⟩
    wp_walk using wpAny_loadPart' hl
    refine wpAny_stack_any fun st => wpAny_pure ?_
    split
    · rename_i c _ _ _ _ _
      cases (c == Value.type "enumerate") <;> (wp_walk using wpAny_loadPart' hl, wpAny_pyIter_tuple hT; exact ⟨_, rfl, hR⟩)
    · wp_walk using wpAny_loadPart' hl, wpAny_pyIter_tuple hT
      exact ⟨_, rfl, hR⟩
theorem zEnumCall {prog : Program} {w : World} {A : Around} {E : Value → Shared → Prop} {s : Shared} {l : Addr} {its : Array Value} {Q : Value → Shared → Prop} (hT : s.heap.IsTuple l its)
    (k : ∀ h', IsEnum h' (s.heap.objs.size + 1) s.heap.objs.size 0 .none → h'.IsTupleIter s.heap.objs.size l 0 → h'.objs.size = s.heap.objs.size + 2 → (∀ b o, s.heap.get? b = some o → h'.get? b = some o) →
      Q (.ref (s.heap.objs.size + 1)) { s with heap := h' }) : wpAny (model prog w) A (call (.type "enumerate") [.ref l]) Q E s := by
  obtain ⟨⟨c, dd, dt, sl⟩, hl, hc, n, hd⟩ := hT
  obtain rfl : c = .type "tuple" := hc
  obtain rfl : dt = .seq its n := hd
  refine callType_new F.called_enumerate (by decide) (F.typeCall_enumerate_1 _) (F.newCall_enumerate_1 _) (fun obj => F.args_object_init_2 obj _) F.entry_enumerate_new (zEnumNew l its n dd sl) ⟨hl, ?_⟩
  have hz : (s.heap.push { cls := .type "tuple_iterator", data := .fields #[.ref l, .int 0 0] }).objs.size = s.heap.objs.size + 1 := Heap.size_push ..
  show _ ∧ _
  rw [hz]
  have he : IsEnum ((s.heap.push { cls := .type "tuple_iterator", data := .fields #[.ref l, .int 0 0] }).push { cls := .type "enumerate", data := .fields #[.none, .bool false, .ref s.heap.objs.size, rawInt 0, .none, .none] })
      (s.heap.objs.size + 1) s.heap.objs.size 0 .none := hz ▸ Heap.get?_push_size _ rfl
  exact ⟨⟨_, he, rfl⟩, k _ he ⟨_, Heap.get?_push_of_some _ (Heap.get?_push_size _ rfl), rfl, rfl⟩ (by rw [Heap.size_push, hz]) fun b o x => Heap.get?_push_of_some _ (Heap.get?_push_of_some _ x)⟩
theorem zEnumEnd {prog : Program} {w : World} {A : Around} {E : Value → Shared → Prop} {s : Shared} {e it l : Addr} {i : Nat} {its : Array Value} {old : Value} {k : Int} {Q : Option Value → Shared → Prop} (hh : A.handled = none)
    (he : IsEnum s.heap e it k old) (hit : s.heap.IsTupleIter it l i) (hl : s.heap.IsTuple l its) (hx : its[i]? = none) (q : ∀ h', Heap.ExtBut it s.heap h' → Q none { s with heap := h' }) :
    wpAny (model prog w) A (pyNext (.ref e)) Q E s := by
  have ty : s.TypeIs (.ref e) "enumerate" := ⟨_, he, rfl⟩
  unfold pyNext
  refine wpAny_bind (wpAny_attempt (wpAny_callSpecial?_slot (name := Str.ofString "__next__") ty F.slot_enumerate_next (wpAny_call_entry F.slot_enumerate_next ty F.entry_enumerate_next ?_ (F.args_enumerate_next_1 _))))
  show wpAny _ _ (field (.ref e) 2 >>= _) _ _ _
  refine wpAny_bind (wpAny_field he rfl (x := .ref it) rfl (wpAny_bind (wpAny_nextOf_tuple_end hh hit hl hx fun h' x he' ⟨o, ho, hc⟩ => ?_)))
  exact wpAny_bind (wpAny_isInstance (T := "StopIteration") (b := true) ⟨o, ho, hc⟩ isSubtype_stop (wpAny_pure (q _ he')))
end PySem
namespace Z
open PySem PySem.Spec PyProof.Rows L2
def IteT (K : PySem.W.Frag) (a : Addr) : It :=
  ⟨fun i H => ∃ (xs : List V) (x : V), SqT K H a xs ∧ xs[i]? = some x, fun i H v H' => ∃ T x, v = .ref T ∧ H T = none ∧ H' = upd H T (.tup [.int (i : Nat), x]) ∧ ∀ xs, SqT K H a xs → xs[i]? = some x,
    fun i H => ∃ xs : List V, SqT K H a xs ∧ xs.length ≤ i⟩
theorem tup_ne {h : Heap} {a b : Addr} {its : Array Value} {o : Obj} {n : String} (p : IsTup h a its) (ho : h.get? b = some o) (hc : o.cls = .type n) (hn : n ≠ "tuple") : a ≠ b := fun z => by
  obtain ⟨o', e, c, _⟩ := p
  rw [z, ho] at e
  cases e
  rw [hc] at c
  exact hn (by injection c)
theorem turn_enumT {P : Program} {w : World} {K : PySem.W.Frag} {elts : List Expr} {kk : Nat} {tpos : Pos} (a e it : Addr) :
    Turn P w K (.Tuple elts kk tpos) (IteT K a) [e, it] e (fun i h => (∃ old, IsEnum h e it ((i : Nat) : Int) old) ∧ h.IsTupleIter it a i ∧ e ≠ it) where
  mem := List.mem_cons_self
  obj := fun i h st b hb => by
    obtain ⟨⟨old, he⟩, ⟨o, ho, hc, hd⟩, _⟩ := st
    rcases (show b = e ∨ b = it by simpa using hb) with z | z
    · exact z ▸ ⟨_, he, fun v q => nomatch q⟩
    · exact z ▸ ⟨o, ho, fun v q => by rw [hd] at q; cases q⟩
  keep := fun i h h' st k => let ⟨⟨old, he⟩, hi, hne⟩ := st; ⟨⟨old, k e List.mem_cons_self _ he⟩, hi.at fun o q => k it (by simp) o q, hne⟩
  item := by
    intro X hP hw hK hc i pins s σ H E I hf st hg
    cases hP; cases hw; cases hK
    obtain ⟨⟨old, he⟩, hit, hne⟩ := st
    obtain ⟨xs, x, hq, hx⟩ := hg
    obtain ⟨its, rv, p, hz⟩ := I.tuple hq
    obtain ⟨u, hu, ru⟩ := rv.get hx
    obtain ⟨oi, hoi, hci, _⟩ := id hit
    have nai : a ≠ it := tup_ne p hoi hci (by decide)
    have nae : a ≠ e := tup_ne p he rfl (by decide)
    have hel := Heap.lt_size he
    have hil := Heap.lt_size hoi
    have hlt : i < its.length := (List.getElem?_eq_some_iff.mp hu).1
    refine wpAny_pyNext_enum_itemD (Draws.tuple (A := X.A.in1) (I.ok.hd hc) it a nai its.toArray) he ⟨hit, p⟩ (by simpa using hlt) hne (by simp [hne, nae.symm]) fun v h' tk hv ho hst hT hsz hk => ?_
    obtain rfl : u = v := by
      have hv' : its[i]? = some v := by simpa using hv
      rw [hu] at hv'
      exact Option.some.inj hv'
    refine ⟨_, rfl, wpAny_letOwnedTupleGo_enum (s := { s with heap := h', toks := tk + 1 }) ho fun h'' he' sb => ?_⟩
    have hT2 := (sb.2 _ (Nat.ne_of_gt hel)).trans hT
    have new : ObjOk X.prog X.w (upd H s.heap.objs.size (.tup [.int (i : Nat), x])) h'' s.heap.objs.size (.tup [.int (i : Nat), x]) :=
      ⟨by show 2 ≤ sizeLine; decide, [.int i tk, u], .cons ⟨_, rfl⟩ (.cons ru .nil), ⟨_, hT2, rfl, _, rfl⟩⟩
    have I1 := I.turnedNew (t' := tk + 1) (ch := [e, it]) (fun b ob hb q => (sb.2 b (fun z => hb (by simp [z]))).trans (hk b ob (fun z => hb (by simp [z])) (fun z => hb (by simp [z])) q)) hf (Nat.le_refl _) new
    refine ⟨.ref s.heap.objs.size, _, I1, rfl, ⟨_, x, rfl, I.hok.fresh (Nat.le_refl _), rfl, fun ys hy => by rw [I.tuple_inj hy hq]; exact hx⟩, ⟨⟨u, ?_⟩, hst.1.at fun o q => (sb.2 it (Ne.symm hne)).trans q, hne⟩, fun b hb => ?_⟩
    · rw [show ((i + 1 : Nat) : Int) = (i : Int) + 1 by omega]
      exact he'
    · have hb' : b < s.heap.objs.size := by
        rcases (show b = e ∨ b = it by simpa using hb) with z | z
        · exact z ▸ hel
        · exact z ▸ hil
      rw [upd_ne (Nat.ne_of_lt hb')]
      exact (hf b hb).1
  done := by
    intro X hP hw hK hc i pins s σ H E I hf st hg
    cases hP; cases hw; cases hK
    obtain ⟨⟨old, he⟩, hit, hne⟩ := st
    obtain ⟨xs, hq, hx⟩ := hg
    obtain ⟨its, rv, p, hz⟩ := I.tuple hq
    obtain ⟨oi, hoi, hci, hdi⟩ := id hit
    have nai : a ≠ it := tup_ne p hoi hci (by decide)
    obtain ⟨f0, f1, f2, f3, f4, f5⟩ := hf it (by simp)
    have hl := rv.length
    exact zEnumEnd (I.ok.hd hc) he hit (show s.heap.IsTuple a its.toArray from p) (by simp; omega) fun h' eb => ⟨rfl, I.turned (t' := s.toks) (fun b o hb q => eb b o hb q) f0 f1 f3 f4 f5⟩
  self := fun A i s Q E st h => let ⟨⟨_, he⟩, _⟩ := st; wpAny_pyIter_enum he h

/-- enumerate of a list or of a tuple -/
def iEnumA (K : PySem.W.Frag) (ta : TA) : TI := fun σ H R => ta σ H fun vs H1 => ∃ a xs, vs = [.ref a] ∧ ((SqL K H1 a xs ∧ R (Ite K a) H1) ∨ (SqT K H1 a xs ∧ R (IteT K a) H1))
theorem pi_enumA {X : Cx} {e : Expr} {ta : TA} {p pos tpos : Pos} {elts : List Expr} {kk : Nat} (hg : Gl X "enumerate") (hm : X.mg "enumerate" = none) (ha : PA X [e] ta) (hs : starEach [e] X.env = [(false, eval e X.env)] := by rfl) :
    PI X (.Tuple elts kk tpos) (.Call (.Name "enumerate" p) [e] [] pos) (iEnumA X.K ta) := by
  refine ⟨fun pins s σ H R I h => Call_ (ld_blt I hg hm boot_enumerate (PyProof.Rows.callWith_type1 (thn (ha.run pos pins s σ H _ I h) fun us s1 ⟨vs, H1, I1, r1, a, xs, ex, hq⟩ => ?_) hs rfl))⟩
  subst ex
  cases r1 with
  | cons r rr =>
    cases rr
    cases r
    have fp : ∀ b ∈ [s1.heap.objs.size + 1, s1.heap.objs.size], FpOk X pins H1 b := fun b hb => by
      have hle : s1.heap.objs.size ≤ b := by
        rcases (show b = s1.heap.objs.size + 1 ∨ b = s1.heap.objs.size by simpa using hb) with z | z
        · exact z ▸ Nat.le_add_right _ _
        · exact z ▸ Nat.le_refl _
      exact I1.fpOk hle (I1.hok.fresh hle)
    rcases hq with ⟨hq, q⟩ | ⟨hq, q⟩
    · obtain ⟨its, rv, p', hz⟩ := I1.list hq
      refine call_enumerate_list p'.isList fun h' he hit hsz hk => wpAny_pyIter_enum he ?_
      exact ⟨s1.heap.objs.size + 1, _, _, _, H1, rfl, I1.kept (t' := s1.toks) hk, turn_enum a (s1.heap.objs.size + 1) s1.heap.objs.size, ⟨⟨.none, he⟩, hit, Nat.succ_ne_self _⟩, fp, q⟩
    · obtain ⟨its, rv, p', hz⟩ := I1.tuple hq
      refine zEnumCall (show s1.heap.IsTuple a its.toArray from p') fun h' he hit hsz hk => wpAny_pyIter_enum he ?_
      exact ⟨s1.heap.objs.size + 1, _, _, _, H1, rfl, I1.kept (t' := s1.toks) hk, turn_enumT a (s1.heap.objs.size + 1) s1.heap.objs.size, ⟨⟨.none, he⟩, hit, Nat.succ_ne_self _⟩, fp, q⟩
theorem walk_enumT {K : PySem.W.Frag} {a : Addr} {xs : List V} : Walk (IteT K a) xs.length (fun H => SqT K H a xs) (YPair (fun i => some (.int (i : Nat))) (fun i => xs[i]?)) :=
  ⟨fun i H hi g => ⟨xs, xs[i], g, by simp [hi]⟩, fun H g => ⟨xs, g, Nat.le_refl _⟩, fun i H x H' hi g y => by
    obtain ⟨T, z, e1, e2, e3, e4⟩ := y
    exact ⟨T, _, z, e1, e2, e3, rfl, e4 xs g⟩⟩
section
variable {K : PySem.W.Frag} {σ : L2.St} {H G : Hp} {W : Wl} {nx : L2.St → Hp → Prop} {rt : VK} {tb : TS} {a : Addr} {xs : List V} {ta : TA} {R : It → Hp → Prop}
theorem st_iEnumA (h : ta σ H fun vs H1 => ∃ a xs, vs = [.ref a] ∧ ((SqL K H1 a xs ∧ R (Ite K a) H1) ∨ (SqT K H1 a xs ∧ R (IteT K a) H1))) : iEnumA K ta σ H R := h
/-- for i, x in enumerate(a list or tuple) -/
theorem for_enumA (hx : SqL K G a xs ∨ SqT K G a xs) {i1 i2 : Nat} (I : Nat → L2.St → Hp → Wl → Prop) (w : Wd G W H) (h0 : I 0 σ G W)
    (hs : ∀ (i : Nat) x σ' G' G'' W' H', xs[i]? = some x → Same G G' → I i σ' G' W' → Same G' G'' → Wd G'' W' H' → tb ⟨Btw I G (i + 1), rt, nx, Btw I G (i + 1)⟩ ((σ'.set i1 (some (.int (i : Int)))).set i2 (some x)) H')
    (hd : ∀ σ' G' W' H', Same G G' → Wd G' W' H' → I xs.length σ' G' W' → nx σ' H') :
    ∃ a' ys, [V.ref a] = [.ref a'] ∧ ((SqL K H a' ys ∧ LoopQ (Ite K a') (gTup K 2 (gCons (gName i1) (gCons (gName i2) gNil))) tb nx rt σ H) ∨ (SqT K H a' ys ∧ LoopQ (IteT K a') (gTup K 2 (gCons (gName i1) (gCons (gName i2) gNil))) tb nx rt σ H)) := by
  have step : ∀ (i : Nat) (x : V) (σ' : L2.St) (G' : Hp) (W' : Wl) (H' H'' : Hp), i < xs.length → Same G G' → Wd G' W' H' → I i σ' G' W' → YPair (fun i => some (.int (i : Nat))) (fun i => xs[i]?) i H' x H'' →
      gTup K 2 (gCons (gName i1) (gCons (gName i2) gNil)) x σ' H'' fun σ2 H2 => tb ⟨Btw I G (i + 1), rt, nx, Btw I G (i + 1)⟩ σ2 H2 := fun i x σ' G' W' H' H'' _ e w' h y => by
    obtain ⟨T, x1, x2, rfl, hn, rfl, e1, e2⟩ := y
    cases e1
    refine ⟨T, _, rfl, SqT.of upd_same, rfl, _, _, rfl, ?_⟩
    refine ⟨_, _, rfl, ?_⟩
    exact ⟨rfl, hs i x2 σ' G' _ W' _ e2 e h (same_upd (w'.free hn)) (w'.new hn)⟩
  rcases hx with hx | hx
  · exact ⟨a, xs, rfl, .inl ⟨seq_up w hx, loop_go walk_enum I w (fun _ _ _ e w' => seq_up w' (e.seq hx)) h0 step hd⟩⟩
  · exact ⟨a, xs, rfl, .inr ⟨tup_up w hx, loop_go walk_enumT I w (fun _ _ _ e w' => tup_up w' (seqT e hx)) h0 step hd⟩⟩
end

/-! ### a list or a tuple -/
def iSeqA (K : PySem.W.Frag) (tl : TE) : TI := fun σ H R => iList K tl σ H R ∨ iTup K tl σ H R
theorem pi_seqA {X : Cx} {tg l : Expr} {tl : TE} (h : PE X l tl) : PI X tg l (iSeqA X.K tl) := ⟨fun pins s σ H R I q => q.elim (fun q => (pi_list h).run pins s σ H R I q) fun q => (pi_tup h).run pins s σ H R I q⟩
section
variable {K : PySem.W.Frag} {σ : L2.St} {H G : Hp} {W : Wl} {nx : L2.St → Hp → Prop} {rt : VK} {g : TG} {tb : TS} {a : Addr} {xs : List V} {tl : TE} {tt : TT} {te : TE} {vs : List Nat} {Q : VK} {j : Nat}
theorem for_seq (ht : ∀ Q : VK, Q (.ref a) H → tl σ H Q) (hx : SqL K G a xs ∨ SqT K G a xs) (I : Nat → L2.St → Hp → Wl → Prop) (w : Wd G W H) (h0 : I 0 σ G W)
    (hs : ∀ i x σ' G' W' H', xs[i]? = some x → Same G G' → Wd G' W' H' → I i σ' G' W' → g x σ' H' fun σ2 H2 => tb ⟨Btw I G (i + 1), rt, nx, Btw I G (i + 1)⟩ σ2 H2)
    (hd : ∀ σ' G' W' H', Same G G' → Wd G' W' H' → I xs.length σ' G' W' → nx σ' H') : iSeqA K tl σ H fun J H1 => LoopQ J g tb nx rt σ H1 := by
  rcases hx with hx | hx
  · exact .inl (st_iList (ht _ (for_l hx I w h0 hs hd)))
  · exact .inr (st_iTup (ht _ (for_t hx I w h0 hs hd)))
theorem lc_t (hx : SqT K G a xs) (I : Nat → List V → Hp → Prop) (w : Wd G W H) (h0 : I 0 [] G) (hw : ∀ x, wipe ((wipe σ vs).set j x) vs = wipe σ vs)
    (hs : ∀ (i : Nat) x D G' H' acc, xs[i]? = some x → Same G G' → Wd G' ((D, Is (.lst acc)) :: W) H' → I i acc G' → tt ((wipe σ vs).set j (some x)) H' fun b H3 =>
      if b = true then te ((wipe σ vs).set j (some x)) H3 fun y H4 => ∃ acc, H4 D = some (.lst acc) ∧ acc.length < sizeLine ∧ LcB I G W D (i + 1) (upd H4 D (.lst (acc ++ [y]))) else LcB I G W D (i + 1) H3)
    (hd : ∀ D G' H' acc, Same G G' → Wd G' ((D, Is (.lst acc)) :: W) H' → I xs.length acc G' → Q (.ref D) H') : ∃ a', V.ref a = .ref a' ∧ (∃ xs, SqT K H a' xs) ∧ LcQ (Itt K a') (gName j) tt te vs σ H Q :=
  ⟨a, rfl, ⟨xs, tup_up w hx⟩, lc_go walk_tup I w (fun _ _ _ e w' => tup_up w' (seqT e hx)) h0 (fun i x D G' H' H'' acc _ e w' h y => by
    obtain ⟨rfl, y⟩ := y
    exact ⟨hw _, hs i x D G' H'' acc y e w' h⟩) hd⟩
theorem lc_seq (ht : ∀ Q : VK, Q (.ref a) H → tl σ H Q) (hx : SqL K G a xs ∨ SqT K G a xs) (I : Nat → List V → Hp → Prop) (w : Wd G W H) (h0 : I 0 [] G) (hw : ∀ x, wipe ((wipe σ vs).set j x) vs = wipe σ vs)
    (hs : ∀ (i : Nat) x D G' H' acc, xs[i]? = some x → Same G G' → Wd G' ((D, Is (.lst acc)) :: W) H' → I i acc G' → tt ((wipe σ vs).set j (some x)) H' fun b H3 =>
      if b = true then te ((wipe σ vs).set j (some x)) H3 fun y H4 => ∃ acc, H4 D = some (.lst acc) ∧ acc.length < sizeLine ∧ LcB I G W D (i + 1) (upd H4 D (.lst (acc ++ [y]))) else LcB I G W D (i + 1) H3)
    (hd : ∀ D G' H' acc, Same G G' → Wd G' ((D, Is (.lst acc)) :: W) H' → I xs.length acc G' → Q (.ref D) H') : iSeqA K tl σ H fun J H1 => LcQ J (gName j) tt te vs σ H1 Q := by
  rcases hx with hx | hx
  · exact .inl (st_iList (ht _ (lc_l hx I w h0 hw hs hd)))
  · exact .inr (st_iTup (ht _ (lc_t hx I w h0 hw hs hd)))
end
end Z

/-! defs that ask what guards stand around them (repr of data) -/
namespace Z
open PySem PySem.Spec PyProof.Rows L2
/-- a promise kept where no guard stands around -/
structure FnG (P : Program) (w : World) (K : PySem.W.Frag) (mg : Str → Option Value) (base : Heap) (k : Nat) (f : Addr) (fd : FuncData) (ps : List Str) (sp : Sp) : Prop where
  len : ∀ vs H Q E, sp vs H Q E → vs.length = ps.length
  run : ∀ (A : Around) (outer : List Env) (s : Shared) (H : Hp) (args : Args) (us : List Value) (vs : List V) (Q : VK) (E : XK), Room k A → A.guards = some [] → Env0 P w K mg base A outer s H → BindsTo s fd args (ps.zip us) → Vals vs us → sp vs H Q E →
    codeAny (model P w) A (.call (.ref f) args) (CR CX0 outer P w H s Q E) s
theorem FnG.of {P : Program} {w : World} {K : PySem.W.Frag} {mg : Str → Option Value} {base : Heap} {k : Nat} {f : Addr} {fd : FuncData} {ps : List Str} {sp : Sp} (F : FnOk P w K mg base CX0 k f fd ps sp) : FnG P w K mg base k f fd ps sp :=
  ⟨F.len, fun A outer s H args us vs Q E hr _ e0 hb r h => F.run A outer s H args us vs Q E hr e0 hb r h⟩
section
variable {P : Program} {w : World} {K : PySem.W.Frag} {mg : Str → Option Value} {base : Heap} {x qual : Str} {params : Arguments} {body : List Stmt} {scope : Scope} {dvs : List V} {kws : List (Str × V)} {f : Addr} {fd : FuncData}
theorem okG {N ps : List Str} {k : Nat} {sp : Sp} (F : FunD K x qual params body scope dvs kws f fd) (S : FnScope N ps scope) (len : ∀ vs H Q E, sp vs H Q E → vs.length = ps.length)
    (hbody : ∀ (cdv : Value) (A : Around) (outer : List Env) (s : Shared) (H : Hp) (vs : List V) (Q : VK) (E : XK), A.guards = some [] → Room k (A.deeper (envOfC qual scope s.heap.objs.size f cdv)) → sp vs H Q E →
      ∃ t, PSs (cxOf CX0 P w K mg base N qual scope f cdv A outer s H E).nox body t ∧ t { nx := fun _ H' => Q .non H', rt := Q } (start N vs) H) : FnG P w K mg base (k + 1) f fd ps sp := by
  obtain ⟨oc, od, dV, kV, doc, pm, an, cdv, ct, osl, rfl, lk, hcd, _, _⟩ := F.ex
  refine ⟨len, fun A outer s H args us vs Q E hr hgd e0 hb r hsp => ?_⟩
  have KX : K.In s.heap := e0.mod.kin.keeps fun b o e => (e0.bs b o e).1
  have kd : ∀ y ∈ ps.zip us, scope.names.lookup y.1 = some .local ∨ (scope.names.lookup y.1 = some .cell ∧ ((cellsFrom (s.heap.objs.size + 1) scope.names []).lookup y.1).isSome = true) := fun y hy =>
    (S.par y.1 (List.of_mem_zip (a := y.1) (b := y.2) hy).1).imp (fun q => q) fun q => ⟨q, PySem.W.cellsFrom_some _ _ _ (.inl q)⟩
  refine codeAny_call_function hr.depth (KX _ _ lk) rfl S.co S.gen rfl (PySem.W.codeRec_of KX hcd) (hb _ _ _ _ (wpAny_newFunctionEnv_cells S.kind kd fun env he s1 y => ?_))
  cases he
  obtain ⟨t, ht, hq⟩ := hbody cdv A outer s H vs Q E hgd (hr.deeper _) hsp
  refine ⟨(e0.mod.nolimit.keeps fun b o e => (e0.bs b o e).1).keeps y.toInCall.keep, codeAny_func (wpAny_mono (ht.nox.run [] s1 (start N vs) H _ (inv_start S hr.hd e0 (len _ _ _ _ hsp) r y) hq) (fun fl s' hs => ?_) fun e s' hs => hs)⟩
  cases fl with
  | ret u => exact let ⟨v, _, H', J, rv, q⟩ := hs; ⟨v, H', J.os, J.bare, J.base, J.hok, rv, q⟩
  | next => exact let ⟨_, H', J, q⟩ := hs; ⟨.non, H', J.os, J.bare, J.base, J.hok, rfl, q⟩
  | brk => exact let ⟨_, _, _, q⟩ := hs; False.elim q
  | cont => exact let ⟨_, _, _, q⟩ := hs; False.elim q
end
section
variable {X : Cx} {k n : Nat} {f : Addr} {fd : FuncData} {ps ks : List Str} {ds : List Value} {dvs : List V} {sp : Sp} {E : XK} {x : Str} {p pos : Pos} {e : Expr} {es : List Expr} {kws : List Keyword} {t tk : TA} {g : List Value → List Value → List Value} {gV : List V → List V → List V}
theorem run_fnG {pins : List (Addr × Obj)} {σ : L2.St} {H : Hp} {s : Shared} {Q : VK} {us : List Value} {vs : List V} (F : FnG X.prog X.w X.K X.mg X.base k f fd ps sp) (hr : Room k X.A) (hgd : X.A.guards = some []) (hb : Binds X.K fd ps ds) (hd : Vals dvs ds)
    (I : Inv X pins σ H s) (r : Vals vs us) (h : sp (vs ++ dvs) H Q E) : wpAny (model X.prog X.w) X.A (call (.ref f) us) (EP X pins σ Q) X.xe s := by
  have r2 := r.append hd
  refine wpAny_call (codeAny_mono (F.run X.A X.stack s H ⟨us, []⟩ _ _ Q E hr hgd I.env0 (hb s us I.kIn (r2.length.symm.trans (F.len _ _ _ _ h))) r2 h) fun r s' hq => ?_)
  cases r with
  | error e => exact False.elim hq
  | ok fl => cases fl with
    | ret u => exact I.after hq
    | _ => exact False.elim hq
theorem pe_callG (F : FnG X.prog X.w X.K X.mg X.base k f fd ps sp) (hr : Room k X.A) (hgd : X.A.guards = some []) (hg : Gl X x) (hm : X.mg x = some (.ref f)) (hk : PySem.W.keepIn X.K (.ref f) = true) (hb : Binds X.K fd ps ds) (hd : Vals dvs ds)
    (ha : PA X (e :: es) t) (hdb : (x == ("__debug__" : Str)) = false := by decide) (he : starEach (e :: es) X.env = (false, eval e X.env) :: starEach es X.env := by rfl) (hpl : (backTo pos (starEach es X.env)).any (·.1) = false := by rfl) :
    PE X (.Call (.Name x p) (e :: es) [] pos) (tCall sp dvs E0 t) :=
  ⟨fun pins s σ H Q I h => wpAny_Call_Name_kw (ld_glob I hg hm (PySem.W.callWith_K (h₀ := X.base) I.ok.mod.kin hk (thn (ha.run pos pins _ σ H _ (I.tok _) h) fun us s1 ⟨vs, H1, I1, r, q⟩ => ⟨I1.kIn, run_fnG (E := E0) F hr hgd hb hd I1 r q⟩) he hpl) hdb)⟩
/-- repr of data -/
def rRepr (K : PySem.W.Frag) : List V → Hp → VK → Prop := fun xs H Q => ∃ x d, xs = [x] ∧ Dp K H x d ∧ d.showable = true ∧ d.canLay0 = true ∧ d.depth ≤ 60 ∧ d.shown.length ≤ sizeLine ∧ Q (.str d.shown) H
theorem call_reprD (hgd : X.A.guards = some []) (hu : X.A.units + 64 < cLine) : CallR X (.builtin "repr") (rRepr X.K) := by
  intro pins s σ H xs us Q I r h
  obtain ⟨x, d, rfl, hd, hs, hc, hp, hz, q⟩ := h
  obtain ⟨u, rfl, rx⟩ := vals1 r
  obtain ⟨as, rd⟩ := Dp.reads I d x u hd rx
  cases hd with
  | non =>
    cases rx
    exact PySem.P.repr_of_none ⟨.str _, H, I.tok _, ⟨_, rfl⟩, q⟩
  | bl b =>
    cases rx
    refine PySem.P.repr_of_bool ⟨.str _, H, I.tok _, ⟨_, rfl⟩, ?_⟩
    simpa [PyData.shown] using q
  | int i =>
    obtain ⟨t, rfl⟩ := rx
    refine PySem.P.repr_of_int (by simpa [PyData.showable] using hs) ⟨.str _, H, I.tok _, ⟨_, rfl⟩, ?_⟩
    simpa [PyData.shown] using q
  | str z =>
    obtain ⟨t, rfl⟩ := rx
    refine PySem.P.repr_of_str ⟨.str _, H, I.tok _, ⟨_, rfl⟩, ?_⟩ (by simpa [PyData.shown] using hz)
    simpa [PyData.shown] using q
  | lst _ _ =>
    cases rx
    exact repr_of_reads' rd hs (PyData.noDict_hsm (PyData.hasDict_of_canLay _ hc)) hgd (by omega) (fun _ _ e => e) (fun h' u tk hk => ⟨.str _, H, I.kept (t' := tk) hk, ⟨_, rfl⟩, q⟩) hz
  | tup _ _ =>
    cases rx
    exact repr_of_reads' rd hs (PyData.noDict_hsm (PyData.hasDict_of_canLay _ hc)) hgd (by omega) (fun _ _ e => e) (fun h' u tk hk => ⟨.str _, H, I.kept (t' := tk) hk, ⟨_, rfl⟩, q⟩) hz
end

/-! ### lists of ints put together -/
section
variable {K : PySem.W.Frag} {G H : Hp} {W : Wl} {Q : VK} {a b : Addr}
/-- a list of ints that stands whole -/
def HL (G : Hp) (a : Addr) (ns : List Int) : Prop := G a = some (.lst (ns.map V.int))
theorem HL.seq {ns : List Int} (h : HL G a ns) : SqL K G a (ns.map V.int) := SqL.of h
theorem HL.up {G' : Hp} {ns : List Int} (h : HL G a ns) (e : Same G G') : HL G' a ns := e _ _ h
theorem st_catI {xs ys : List Int} (ha : H a = some (.lst (xs.map V.int))) (hb : H b = some (.lst (ys.map V.int))) (hz : xs.length + ys.length ≤ 1000000) (w : Wd G W H) (k : ∀ p G' H', Same G G' → Wd G' W H' → HL G' p (xs ++ ys) → Q (.ref p) H') : rCat (.ref a) (.ref b) H Q := by
  refine ⟨a, b, _, _, rfl, rfl, ha, hb, small (by rw [List.length_map, List.length_map]; exact hz), fun p hp => ?_⟩
  rw [← List.map_append]
  exact k p _ _ (same_upd (w.free hp)) (w.new hp) upd_same
theorem st_catV {xs ys : List V} (ha : H a = some (.lst xs)) (hb : H b = some (.lst ys)) (hz : xs.length + ys.length ≤ 1000000) (w : Wd G W H) (k : ∀ p G' H', Same G G' → Wd G' W H' → G' p = some (.lst (xs ++ ys)) → Q (.ref p) H') : rCat (.ref a) (.ref b) H Q :=
  ⟨a, b, _, _, rfl, rfl, ha, hb, small hz, fun p hp => k p _ _ (same_upd (w.free hp)) (w.new hp) upd_same⟩
theorem flat_rep {α : Type} (n : Nat) (x : α) : (List.replicate n [x]).flatten = List.replicate n x := by
  induction n with
  | zero => rfl
  | succ n ih => rw [List.replicate_succ, List.flatten_cons, ih]; rfl
theorem st_repI {x k : Int} (ha : H a = some (.lst [.int x])) (h0 : 0 ≤ k) (h1 : k ≤ 1000000) (w : Wd G W H) (q : ∀ p G' H', Same G G' → Wd G' W H' → HL G' p (List.replicate k.toNat x) → Q (.ref p) H') : rRep (.ref a) (.int k) H Q := by
  refine ⟨a, k, _, rfl, rfl, ha, by omega, by omega, small (by simp; omega), fun p hp => ?_⟩
  rw [flat_rep]
  exact q p _ _ (same_upd (w.free hp)) (w.new hp) (by unfold HL; rw [upd_same, List.map_replicate])
theorem st_repI2 {xs : List Int} {k : Int} (ha : H a = some (.lst (xs.map V.int))) (h0 : 0 ≤ k) (h1 : xs.length * k.toNat ≤ 1000000) (h2 : k ≤ 1000000) (w : Wd G W H) (q : ∀ p G' H', Same G G' → Wd G' W H' → HL G' p (List.replicate k.toNat xs).flatten → Q (.ref p) H') : rRep (.ref a) (.int k) H Q := by
  refine ⟨a, k, _, rfl, rfl, ha, by omega, by omega, small (by rw [List.length_map]; exact h1), fun p hp => ?_⟩
  exact q p _ _ (same_upd (w.free hp)) (w.new hp) (by unfold HL; rw [upd_same, List.map_flatten, List.map_replicate])
theorem iteBT {c : Bool} {a b : Prop} (h : c = true) (q : a) : if c = true then a else b := by rw [if_pos h]; exact q
theorem iteBF {c : Bool} {a b : Prop} (h : c = false) (q : b) : if c = true then a else b := by rw [h]; exact L2.iteF q
theorem iteNT {a b : Prop} (h : a) : if (!false) = true then a else b := L2.iteT h
theorem iteNF {a b : Prop} (h : b) : if (!true) = true then a else b := L2.iteF h
theorem mem_two {v x y : V} {P : V → Prop} (h : v ∈ [x, y]) (h1 : P x) (h2 : P y) : P v := by
  rcases List.mem_cons.mp h with rfl | h
  · exact h1
  · rcases List.mem_cons.mp h with rfl | h
    · exact h2
    · exact nomatch h
end
section
variable {K : PySem.W.Frag} {H : Hp}
def dT (ns : List Int) : PyData := .tuple (ns.map .int)
theorem dp_tints {a : Addr} {ns : List Int} (h : SqT K H a (ns.map V.int)) : Dp K H (.ref a) (dT ns) := .tup h (dpInts ns)
theorem sh_tints (ns : List Int) : Sh 1 (dT ns) := Sh.tuple fun d hd => by
  obtain ⟨n, _, rfl⟩ := List.mem_map.mp hd
  exact .int n
theorem eqv_dT (a b : List Int) : PyData.eqv (dT a) (dT b) = decide (a = b) := by
  unfold dT PyData.eqv
  exact eqvAll_map _ eqv_int a b
/-- tuples of ints -/
theorem st_eqT {Q : VK} {a b : Addr} (xs ys : List Int) (hx : SqT K H a (xs.map V.int)) (hy : SqT K H b (ys.map V.int)) (q : Q (.bl (decide (xs = ys))) H) : rEqD K (.ref a) (.ref b) H Q :=
  st_eqD (dp_tints hx) (dp_tints hy) ((sh_tints xs).ok (by decide)) ((sh_tints ys).ok (by decide)) (eqv_dT xs ys) q
theorem st_neT {Q : VK} {a b : Addr} (xs ys : List Int) (hx : SqT K H a (xs.map V.int)) (hy : SqT K H b (ys.map V.int)) (q : Q (.bl (!decide (xs = ys))) H) : rNeD K (.ref a) (.ref b) H Q :=
  st_neD (dp_tints hx) (dp_tints hy) ((sh_tints xs).ok (by decide)) ((sh_tints ys).ok (by decide)) (eqv_dT xs ys) q
end
/-- all of a list -/
def AllP {α : Type} (P : α → Prop) : List α → Prop
  | [] => True
  | x :: xs => P x ∧ AllP P xs
theorem AllP.app {α : Type} {P : α → Prop} : ∀ {xs ys : List α}, AllP P xs → AllP P ys → AllP P (xs ++ ys)
  | [], _, _, h => h
  | _ :: _, _, h, h2 => ⟨h.1, AllP.app h.2 h2⟩
theorem AllP.of {α : Type} {P : α → Prop} : ∀ {xs : List α}, AllP P xs → ∀ x ∈ xs, P x
  | _ :: _, h, _, hx => by
    rcases List.mem_cons.mp hx with rfl | hx
    · exact h.1
    · exact AllP.of h.2 _ hx
/-! ### comprehensions whose elements change what may change -/
section
variable {K : PySem.W.Frag} {σ : L2.St} {H G : Hp} {D : Addr} {g : TG} {tt : TT} {te : TE} {vs : List Nat} {Q : VK} {a b : Addr} {xs ys : List V} {n : Nat}
theorem lc_goW {J : It} {Gp : Hp → Prop} {Y : Nat → Hp → V → Hp → Prop} (wk : Walk J n Gp Y) (Wf : Nat → Wl) (I : Nat → List V → Hp → Prop) (w : Wd G (Wf 0) H) (hG : ∀ G' W' H', Same G G' → Wd G' W' H' → Gp H') (h0 : I 0 [] G)
    (hs : ∀ i x D G' H' H'' acc, i < n → Same G G' → Wd G' ((D, Is (.lst acc)) :: Wf i) H' → I i acc G' → Y i H' x H'' → g x (wipe σ vs) H'' fun σ2 H2 => wipe σ2 vs = wipe σ vs ∧ tt σ2 H2 fun b H3 =>
      if b = true then te σ2 H3 fun y H4 => ∃ acc, H4 D = some (.lst acc) ∧ acc.length < sizeLine ∧ LcB I G (Wf (i + 1)) D (i + 1) (upd H4 D (.lst (acc ++ [y]))) else LcB I G (Wf (i + 1)) D (i + 1) H3)
    (hd : ∀ D G' H' acc, Same G G' → Wd G' ((D, Is (.lst acc)) :: Wf n) H' → I n acc G' → Q (.ref D) H') : LcQ J g tt te vs σ H Q := fun D hD =>
  lc_it wk (fun i => LcB I G (Wf i) D i) ⟨G, [], Same.refl _, w.newM hD rfl, h0⟩ (fun _ _ _ ⟨_, _, e, w', _⟩ => hG _ _ _ e w') (fun i x H' H'' hi ⟨G', acc, e, w', h⟩ y => hs i x D G' H' H'' acc hi e w' h y) fun H' ⟨G', acc, e, w', h⟩ => hd D G' H' acc e w' h
theorem lc_r1W {z : Int} {j : Nat} (hz : -(2 ^ 62) ≤ z ∧ z < 2 ^ 62) (Wf : Nat → Wl) (I : Nat → List V → Hp → Prop) (w : Wd G (Wf 0) H) (h0 : I 0 [] G) (hw : ∀ x, wipe ((wipe σ vs).set j x) vs = wipe σ vs)
    (hs : ∀ (i : Nat) D G' H' acc, (i : Int) < z → Same G G' → Wd G' ((D, Is (.lst acc)) :: Wf i) H' → I i acc G' → tt ((wipe σ vs).set j (some (.int (i : Int)))) H' fun b H3 =>
      if b = true then te ((wipe σ vs).set j (some (.int (i : Int)))) H3 fun y H4 => ∃ acc, H4 D = some (.lst acc) ∧ acc.length < sizeLine ∧ LcB I G (Wf (i + 1)) D (i + 1) (upd H4 D (.lst (acc ++ [y]))) else LcB I G (Wf (i + 1)) D (i + 1) H3)
    (hd : ∀ D G' H' acc, Same G G' → Wd G' ((D, Is (.lst acc)) :: Wf z.toNat) H' → I z.toNat acc G' → Q (.ref D) H') : ∃ j' : Int, [V.int z] = [.int j'] ∧ -(2 ^ 62) ≤ j' ∧ j' < 2 ^ 62 ∧ LcQ (Itr 0 j'.toNat) (gName j) tt te vs σ H Q :=
  ⟨z, rfl, hz.1, hz.2, lc_goW walk_range Wf I w (fun _ _ _ _ _ => trivial) h0 (fun i x D G' H' H'' acc hi e w' h y => by
    obtain ⟨rfl, rfl⟩ := y
    have e0 : (0 : Int) + (i : Int) = (i : Int) := Int.zero_add _
    dsimp only
    rw [e0]
    exact ⟨hw _, hs i D G' H'' acc (by omega) e w' h⟩) hd⟩
end
section
variable {K : PySem.W.Frag} {σ : L2.St} {H G : Hp} {W : Wl} {Q : VK} {a b : Addr} {xs ys : List V}
theorem st_chain {r r' : R2} {ta tb tc : TE} (h : ta σ H fun x H1 => tb σ H1 fun y H2 => r x y H2 fun z H3 => ∃ k, z = .bl k ∧ (if k = true then tc σ H3 fun w' H4 => r' y w' H4 Q else Q (.bl false) H3)) : tChain r r' ta tb tc σ H Q := h
theorem st_gtup {n : Nat} {t : TGs} {QS : L2.St → Hp → Prop} (hx : SqT K H a xs) (hl : xs.length = n) (h : t xs σ H QS) : gTup K n t (.ref a) σ H QS := ⟨a, xs, rfl, hx, hl, h⟩
theorem st_gcons {v : V} {r : List V} {t : TG} {u : TGs} {QS : L2.St → Hp → Prop} (h : t v σ H fun σ' H' => u r σ' H' QS) : gCons t u (v :: r) σ H QS := ⟨v, r, rfl, h⟩
theorem st_gnil {QS : L2.St → Hp → Prop} (h : QS σ H) : gNil [] σ H QS := ⟨rfl, h⟩
theorem Wd.is1 {o : HO} (w : Wd G ((a, Is o) :: W) H) : H a = some o := by
  obtain ⟨o', h, rfl⟩ := w.get List.mem_cons_self
  exact h
theorem st_appL {y : V} (h : H a = some (.lst xs)) (hl : xs.length < 1000000) (q : Q .non (upd H a (.lst (xs ++ [y])))) : rAppend (.ref a) [y] H Q := ⟨a, xs, y, rfl, rfl, h, small' (Nat.le_of_lt hl), q⟩
theorem st_sl {r : V → Option Int → Option Int → Hp → VK → Prop} {te : TE} {tl th : TO} (h : te σ H fun x H1 => tl σ H1 fun l H2 => th σ H2 fun u H3 => r x l u H3 Q) : tSl r te tl th σ H Q := h
theorem st_noPart {Q : Option Int → Hp → Prop} (q : Q none H) : tNoPart σ H Q := q
theorem st_part {Q : Option Int → Hp → Prop} {t : TE} (h : t σ H fun x H1 => ∃ i, x = .int i ∧ Q (some i) H1) : tPart t σ H Q := h
theorem cut_lo {xs : List V} {i : Int} (h0 : 0 ≤ i) (h1 : i ≤ xs.length) : cutV xs none (some i) = xs.take i.toNat := by
  unfold cutV
  simp only [HT.sIx, if_neg (show ¬ i < 0 by omega)]
  rw [List.drop_zero, Nat.sub_zero, Nat.min_eq_left (by omega)]
theorem cut_hi {xs : List V} {i : Int} (h0 : 0 ≤ i) (h1 : i ≤ xs.length) : cutV xs (some i) none = xs.drop i.toNat := by
  unfold cutV
  simp only [HT.sIx, if_neg (show ¬ i < 0 by omega)]
  rw [Nat.min_eq_left (by omega), List.take_of_length_le]
  rw [List.length_drop]
  omega
theorem st_slL {lo hi : Option Int} (h : SqL K H a xs) (w : Wd G W H) (q : ∀ p G' H', Same G G' → Wd G' W H' → G' p = some (.lst (cutV xs lo hi)) → Q (.ref p) H') : rSlL K (.ref a) lo hi H Q := ⟨a, xs, rfl, h, NewO.good w q⟩
theorem dw_ok {i j : Int} (h0 : 0 < j) (h1 : j < 2 ^ 250) : CDivW i j := by
  have h2 : j.natAbs.log2 < 250 := (Nat.log2_lt (by omega)).mpr (by omega)
  exact ⟨h0, by omega⟩
theorem pw_ok {i j : Int} (h0 : 0 ≤ i) (h1 : i < 2 ^ 100) (h2 : 0 ≤ j) (h3 : j ≤ 1000) : CPowW i j := by
  refine ⟨h2, ?_⟩
  have h4 : Builtin.Int.intBits i ≤ 100 := PyProof.Rows.intBits_le (by omega)
  have h5 : (Builtin.Int.intBits i : Int) ≤ 100 := by omega
  have h6 := Int.mul_le_mul h5 h3 h2 (by decide)
  omega
end
/-! ### the law itself -/
section
variable {P : Program} {w : World} {K : PySem.W.Frag} {mg mb : Str → Option Value} {k : Nat} {fa a : Addr} {fd : FuncData} {x : Str} {sp : Sp} {s₁ : Shared} {vs : List Value} {ns : List Int}
/-- the heap behind the top without what H tells -/
theorem hid_ns {h : Heap} {H : Hp} {b : Addr} {m : Str → Option Value} {va : Array Value} (hA : ∀ b, H b ≠ none → b = a) (ha : h.get? a = some { cls := .type "list", data := .seq va }) (n : h.Ns b m) : (hidT h H).Ns b m := by
  obtain ⟨o, es, ep, e, d, r⟩ := n
  refine ⟨o, es, ep, hidT_get e ?_, d, r⟩
  cases q : H b with
  | none => rfl
  | some u =>
    rw [hA b (by rw [q]; exact fun z => nomatch z), ha] at e
    have e2 := Option.some.inj e
    rw [← e2] at d
    exact nomatch d
theorem law_core (KX : K.In s₁.heap) (hns : s₁.heap.Ns mainGlobals mg) (hb : s₁.heap.Ns builtinsNs mb) (hbb : ∀ x : Str, x ≠ "__name__" → mb x = bootBuiltins x) (hlim : s₁.heap.NoLimit) (hg : s₁.gens = #[])
    (ha : s₁.heap.get? a = some { cls := .type "list", data := .seq vs.toArray }) (hr : Room k callerA) (F : ∀ base : Heap, K.In base → base.Ns mainGlobals mg → FnG P w K mg base k fa fd [x] sp) (hbind : ∀ (s : Shared) (u : Value), BindsTo s fd ⟨[u], []⟩ [(x, u)])
    {H : Hp} (hO : Only H) (hsp : sp [.ref a] H (fun v _ => v = .bl true) fun _ _ _ => False) (hok : HOk P w H s₁.heap) (hA : ∀ b, H b ≠ none → b = a) (hK : H a ≠ none → K.lookup a = none) :
    codeAny (model P w) callerA (.call (.ref fa) ⟨[.ref a], []⟩) (fun r s' => r = .ok (.ret (.bool true)) ∧ OldK s₁.heap s'.heap ∧ s'.os = s₁.os ∧ AllBare s'.gens) s₁ := by
  have hKb : K.In (hidT s₁.heap H) := fun b o e => hidT_get (KX b o e) (by
    cases q : H b with
    | none => rfl
    | some u =>
      have n : H b ≠ none := by rw [q]; exact fun z => nomatch z
      have eb := hA b n
      rw [eb] at n e
      rw [hK n] at e
      exact nomatch e)
  have M : Mod K mg (hidT s₁.heap H) := ⟨hKb, hid_ns hA ha hns, ⟨mb, hid_ns hA ha hb, hbb⟩, let ⟨mc, h1, h2⟩ := hlim; ⟨mc, hid_ns hA ha h1, h2⟩⟩
  have e0 : Env0 P w K mg (hidT s₁.heap H) callerA [] s₁ H := ⟨rfl, M, fun b o e => of_hidT e, Nat.le_of_eq (hidT_size _ _), trivial, fun b z => (List.not_mem_nil z).elim, hok, .of_eq hg⟩
  refine codeAny_mono ((F _ hKb (hid_ns hA ha hns)).run callerA [] s₁ H ⟨[.ref a], []⟩ [.ref a] [.ref a] _ _ hr rfl e0 (hbind s₁ (.ref a)) (.cons rfl .nil) hsp) fun r s' h => ?_
  cases r with
  | error e => exact False.elim h
  | ok fl => cases fl with
    | ret u =>
      obtain ⟨v, H', os, bare, un, hok', r', q⟩ := h
      cases (show v = .bl true from q)
      cases (show u = Value.bool true from r')
      refine ⟨rfl, OldK.of_keep fun b o e => ?_, os, bare⟩
      cases z : H b with
      | none => exact un.keep b o e z (List.not_mem_nil) (List.not_mem_nil)
      | some u =>
        rcases hO b with y | ⟨ob, xs, y⟩
        · rw [z] at y
          cases y
        · have e1 := (hok b _ y).1
          have e2 := (hok' b _ (un.frzs b ob _ y)).1
          rw [e] at e1
          cases e1
          exact e2
    | _ => exact False.elim h
theorem law_callG (KX : K.In s₁.heap) (hns : s₁.heap.Ns mainGlobals mg) (hb : s₁.heap.Ns builtinsNs mb) (hbb : ∀ x : Str, x ≠ "__name__" → mb x = bootBuiltins x) (hlim : s₁.heap.NoLimit) (hg : s₁.gens = #[])
    (ha : s₁.heap.get? a = some { cls := .type "list", data := .seq vs.toArray }) (hi : IntsAre vs ns) (hl : ns.length ≤ sizeLine) (hr : Room k callerA) (F : ∀ base : Heap, K.In base → base.Ns mainGlobals mg → FnG P w K mg base k fa fd [x] sp)
    (hbind : ∀ (s : Shared) (u : Value), BindsTo s fd ⟨[u], []⟩ [(x, u)]) (hsp : ∀ H : Hp, Only H → SqL K H a (ns.map V.int) → sp [.ref a] H (fun v _ => v = .bl true) fun _ _ _ => False) :
    codeAny (model P w) callerA (.call (.ref fa) ⟨[.ref a], []⟩) (fun r s' => r = .ok (.ret (.bool true)) ∧ OldK s₁.heap s'.heap ∧ s'.os = s₁.os ∧ AllBare s'.gens) s₁ := by
  have rv := vals_ints hi
  cases hk : K.lookup a with
  | some o =>
    have e := KX a o hk
    rw [ha] at e
    cases e
    have hO : Only fun _ => none := fun _ => .inl rfl
    exact law_core KX hns hb hbb hlim hg ha hr F hbind hO (hsp _ hO (.inr ⟨_, vs.toArray, _, hk, rfl, rfl, rfl, by rw [List.size_toArray, hi.length]; exact hl, by simpa using rv⟩)) (fun b u z => nomatch z) (fun b z => (z rfl).elim) fun z => (z rfl).elim
  | none =>
    have hO : Only fun b => if b = a then some (.frz { cls := .type "list", data := .seq vs.toArray } (.lst (ns.map V.int))) else none := fun b => by
      by_cases z : b = a
      · exact .inr ⟨_, _, if_pos z⟩
      · exact .inl (if_neg z)
    refine law_core KX hns hb hbb hlim hg ha hr F hbind hO (hsp _ hO (.inl (.inr ⟨_, if_pos rfl⟩))) (fun b u z => ?_) (fun b z => ?_) fun _ => hk
    · by_cases y : b = a
      · have z2 := (if_pos y).symm.trans z
        cases z2
        cases y
        exact ⟨ha, by rw [List.length_map]; exact hl, vs, _, rv, ha⟩
      · exact nomatch (if_neg y).symm.trans z
    · exact Decidable.byContradiction fun y => z (if_neg y)
end
theorem walk_G {l : PySem.W.OpenLaw} {n k : Nat} {q : Program} {loose : List Str} {XP : (Str → Option Value) → Heap → Prop} {YP : World → Heap → Prop} {d : DefRec} {K : Params → PySem.W.Frag} {sp : World → Sp} {x : Str} (hn : l.most = some n) (hn2 : n ≤ sizeLine) (hdf : d.params.defaults = [])
    (hr : Room k callerA) (hY : ∀ (w : World) (h : Heap), YP w h → (K w.params).In h)
    (F : ∀ (w : World) (mg : Str → Option Value) (fa : Addr) (h : Heap), (K w.params).In h → h.Ns mainGlobals mg → mg d.name = some (.ref fa) →
      ∃ fd : FuncData, (∀ (s : Shared) (u : Value), BindsTo s fd ⟨[u], []⟩ [(x, u)]) ∧ ∀ base : Heap, (K w.params).In base → base.Ns mainGlobals mg → FnG l.prog w (K w.params) mg base k fa fd [x] (sp w))
    (hsp : ∀ (w : World) (H : Hp) (a : Addr) (ns : List Int), ns.length ≤ n → Only H → SqL (K w.params) H a (ns.map V.int) → sp w [.ref a] H (fun v _ => v = .bl true) fun _ _ _ => False) :
    PySem.W.WalkO q loose XP YP l.row.toRowW d [] (fun f vs => PySem.call f vs) := by
  refine Att.attach_call hn hdf fun w s₀ s₁ mg mb fa o pm cd doc a vs ns G Y ho hd hcd hmg hobj hints hlen hg => ?_
  obtain ⟨fd, hb, hF⟩ := F w mg fa _ (hY w _ Y) G.T.g hmg
  exact law_callG (hY w _ Y) G.T.g G.T.b G.T.builtins G.T.nolimit hg hobj hints (Nat.le_trans hlen hn2) hr hF hb fun H hO hS => hsp w H a ns hlen hO hS
end Z

/-! data of a small size: kinds, repr, places in lists -/
namespace Z
open PySem PySem.Spec PyProof.Rows L2
/-- data whose repr may be asked: n deep -/
def Od (n : Nat) (d : PyData) : Prop := (d.canLay0 && d.showable && d.intsShort 60) = true ∧ d.depth ≤ n ∧ d.weight ≤ 200 * 10 ^ n
instance (n : Nat) (d : PyData) : Decidable (Od n d) := by unfold Od; infer_instance
theorem Od.mono {m n : Nat} {d : PyData} (h : Od m d) (e : m ≤ n) : Od n d := ⟨h.1, Nat.le_trans h.2.1 e, Nat.le_trans h.2.2 (Nat.mul_le_mul_left _ (Nat.pow_le_pow_right (by decide) e))⟩
theorem od_all {n : Nat} : ∀ {ds : List PyData}, (∀ d ∈ ds, Od n d) → (PyData.canLayAll0 ds && PyData.showableAll ds && PyData.intsShortAll 60 ds) = true ∧ PyData.depthAll ds ≤ n ∧ PyData.weightAll ds ≤ ds.length * (200 * 10 ^ n + 1)
  | [], _ => ⟨rfl, Nat.zero_le _, Nat.zero_le _⟩
  | d :: ds, h => by
    obtain ⟨a1, a2, a3⟩ := h d List.mem_cons_self
    obtain ⟨b1, b2, b3⟩ := od_all (ds := ds) fun x hx => h x (List.mem_cons_of_mem _ hx)
    simp only [Bool.and_eq_true] at a1 b1
    refine ⟨?_, ?_, ?_⟩
    · unfold PyData.canLayAll0 PyData.showableAll PyData.intsShortAll
      rw [a1.1.1, a1.1.2, a1.2, b1.1.1, b1.1.2, b1.2]
      rfl
    · unfold PyData.depthAll
      exact Nat.max_le.mpr ⟨a2, b2⟩
    · unfold PyData.weightAll
      rw [List.length_cons, Nat.add_mul]
      omega
theorem od_weight {n k : Nat} (h : k ≤ 9) : k * (200 * 10 ^ n + 1) ≤ 200 * 10 ^ (n + 1) := by
  have h1 : 1 ≤ 10 ^ n := Nat.pow_pos (by decide)
  have h2 : k * (200 * 10 ^ n + 1) ≤ 9 * (200 * 10 ^ n + 1) := Nat.mul_le_mul_right _ h
  rw [Nat.pow_succ]
  omega
theorem Od.list {n : Nat} {ds : List PyData} (h : ∀ d ∈ ds, Od n d) (hl : ds.length ≤ 9) : Od (n + 1) (.list ds) := by
  obtain ⟨a, b, c⟩ := od_all h
  refine ⟨?_, ?_, ?_⟩
  · unfold PyData.canLay0 PyData.showable PyData.intsShort
    exact a
  · unfold PyData.depth
    exact Nat.succ_le_succ b
  · unfold PyData.weight
    exact Nat.le_trans c (od_weight hl)
theorem Od.tuple {n : Nat} {ds : List PyData} (h : ∀ d ∈ ds, Od n d) (hl : ds.length ≤ 9) : Od (n + 1) (.tuple ds) := by
  obtain ⟨a, b, c⟩ := od_all h
  refine ⟨?_, ?_, ?_⟩
  · unfold PyData.canLay0 PyData.showable PyData.intsShort
    exact a
  · unfold PyData.depth
    exact Nat.succ_le_succ b
  · unfold PyData.weight
    exact Nat.le_trans c (od_weight hl)
/-- a longer list, its elements light -/
theorem weightAll_le {w0 : Nat} : ∀ {ds : List PyData}, (∀ d ∈ ds, d.weight ≤ w0) → PyData.weightAll ds ≤ ds.length * (w0 + 1)
  | [], _ => Nat.zero_le _
  | d :: ds, h => by
    have h1 := h d List.mem_cons_self
    have h2 := weightAll_le (ds := ds) fun x hx => h x (List.mem_cons_of_mem _ hx)
    unfold PyData.weightAll
    rw [List.length_cons, Nat.add_mul]
    omega
theorem Od.listW {n w0 : Nat} {ds : List PyData} (h : ∀ d ∈ ds, Od n d) (hw : ∀ d ∈ ds, d.weight ≤ w0) (hl : ds.length * (w0 + 1) ≤ 200 * 10 ^ (n + 1)) : Od (n + 1) (.list ds) ∧ (PyData.list ds).weight ≤ ds.length * (w0 + 1) := by
  obtain ⟨a, b, c⟩ := od_all h
  refine ⟨⟨?_, ?_, ?_⟩, ?_⟩
  · unfold PyData.canLay0 PyData.showable PyData.intsShort
    exact a
  · unfold PyData.depth
    exact Nat.succ_le_succ b
  · unfold PyData.weight
    exact Nat.le_trans (weightAll_le hw) hl
  · unfold PyData.weight
    exact weightAll_le hw
theorem log_lt {i : Int} {k : Nat} (h : i.natAbs < 2 ^ k) (h0 : 0 < k) : i.natAbs.log2 < k := by
  by_cases e : i.natAbs = 0
  · rw [e]
    exact h0
  · exact (Nat.log2_lt e).mpr h
theorem short13 {i : Int} (h : -999999999999 < i ∧ i < 999999999999) : (PyData.shown (.int i)).length ≤ 13 := by
  have h2 := intsShort_of_noneOrIn (lo := -999999999999) (hi := 999999999999) (by decide) (by decide) (.int i) (by simp [noneOrIn, h])
  unfold PyData.intsShort at h2
  exact of_decide_eq_true h2
theorem Od.int {n : Nat} {i : Int} (h : -999999999999 < i ∧ i < 999999999999) : Od n (.int i) := by
  have hl : i.natAbs.log2 < 64 := log_lt (by omega) (by decide)
  refine ⟨?_, ?_, ?_⟩
  · unfold PyData.canLay0 PyData.showable PyData.intsShort
    rw [decide_eq_true (show i.natAbs.log2 < 1920 by omega), decide_eq_true (Nat.le_trans (short13 h) (by decide))]
    rfl
  · unfold PyData.depth
    exact Nat.zero_le _
  · have h1 : 1 ≤ 10 ^ n := Nat.pow_pos (by decide)
    unfold PyData.weight
    split <;> omega
theorem Od.bool {n : Nat} (b : Bool) : Od n (.bool b) := (show Od 0 (.bool b) by cases b <;> decide).mono (Nat.zero_le _)
theorem strOk_of (s : String) : PyData.strOk (Str.ofString s) = true := by
  rw [Str.ofString_eq_toList]
  unfold PyData.strOk
  rw [List.all_toArray, List.all_eq_true]
  intro n hn
  obtain ⟨c, _, rfl⟩ := List.mem_map.mp hn
  refine decide_eq_true ?_
  rcases c.valid with h | h
  · exact Nat.lt_trans (show c.toNat < 55296 from h) (by decide)
  · exact h.2
theorem Od.strInt {n : Nat} {i : Int} (h : -999999999999 < i ∧ i < 999999999999) : Od n (.str (toString i)) := by
  have h2 : ((toString i : Str)).length ≤ 13 := by
    have := short13 h
    unfold PyData.shown at this
    exact this
  refine ⟨?_, ?_, ?_⟩
  · unfold PyData.canLay0 PyData.showable PyData.intsShort
    rw [strOk_of]
    rfl
  · unfold PyData.depth
    exact Nat.zero_le _
  · have h1 : 1 ≤ 10 ^ n := Nat.pow_pos (by decide)
    unfold PyData.weight
    have h3 : (toString i : Str).cps.size = (toString i : Str).length := rfl
    omega
theorem Od.rep {n : Nat} {d : PyData} (h : Od n d) (hn : n ≤ 3) : d.showable = true ∧ d.canLay0 = true ∧ d.depth ≤ 60 ∧ d.shown.length ≤ sizeLine := by
  obtain ⟨a, b, c⟩ := h
  simp only [Bool.and_eq_true] at a
  refine ⟨a.1.2, a.1.1, by omega, ?_⟩
  have h1 := PyData.shown_le 60 (by decide) d (PyData.leavesShort_of_canLay0 60 d a.1.1 a.2)
  have h2 : 10 ^ n ≤ 10 ^ 3 := Nat.pow_le_pow_right (by decide) hn
  have h3 : sizeLine = 16777216 := by decide
  omega
section
variable {X : Cx} {K : PySem.W.Frag} {G H : Hp} {x : V} {d : PyData} {Q : VK}
theorem st_repr {n : Nat} (h : Dp K H x d) (o : Od n d) (hn : n ≤ 3) (q : Q (.str d.shown) H) : rRepr K [x] H Q := let ⟨h1, h2, h3, h4⟩ := o.rep hn; ⟨x, d, rfl, h, h1, h2, h3, h4, q⟩
def nm : PyData → String
  | .none => "NoneType"
  | .bool _ => "bool"
  | .int _ => "int"
  | .str _ => "str"
  | .list _ => "list"
  | .tuple _ => "tuple"
  | .dict _ => "dict"
theorem dp_ty (h : Dp K H x d) : TyX K H x (.type (nm d)) := by
  cases h with
  | non => exact .base .non
  | bl b => exact .base (.bl b)
  | int i => exact .base (.int i)
  | str s => exact .base (.str s)
  | lst h _ => exact tyL h
  | tup h _ => exact tyT h
theorem dp_knd (h : Dp K H x d) : Knd K H x := by
  cases h with
  | non => exact .non
  | bl b => exact .bl b
  | int i => exact .int i
  | str s => exact .str s
  | lst h _ => exact .lst h
  | tup h _ => exact .tup h
def isTup : PyData → Bool
  | .tuple _ => true
  | _ => false
def isLst : PyData → Bool
  | .list _ => true
  | _ => false
def isI : PyData → Bool
  | .int _ => true
  | _ => false
def inR (lo hi : Int) : PyData → Bool
  | .int i => decide (lo ≤ i) && decide (i ≤ hi)
  | _ => false
theorem isInt_d (h : Dp K H x d) : isInt x = isI d := by cases h <;> rfl
theorem inRange_d {lo hi : Int} (h : Dp K H x d) : inRange lo hi x = inR lo hi d := by cases h <;> rfl
theorem isiD {T : String} {b : Bool} (h : Dp K H x d) (e : kitB (nm d) T = some b) (q : Q (.bl b) H) : rIsi K [x, .ty T] H Q := ⟨_, _, _, _, b, rfl, .ty _, dp_ty h, kit_ty e, q⟩
theorem kit_tup : kitB (nm d) "tuple" = some (isTup d) := by
  cases d with
  | none => exact (show kitB "NoneType" "tuple" = some false by decide +kernel)
  | bool b => exact (show kitB "bool" "tuple" = some false by decide +kernel)
  | int b => exact (show kitB "int" "tuple" = some false by decide +kernel)
  | str b => exact (show kitB "str" "tuple" = some false by decide +kernel)
  | list b => exact (show kitB "list" "tuple" = some false by decide +kernel)
  | tuple b => exact (show kitB "tuple" "tuple" = some true by decide +kernel)
  | dict b => exact (show kitB "dict" "tuple" = some false by decide +kernel)
theorem kit_lst : kitB (nm d) "list" = some (isLst d) := by
  cases d with
  | none => exact (show kitB "NoneType" "list" = some false by decide +kernel)
  | bool b => exact (show kitB "bool" "list" = some false by decide +kernel)
  | int b => exact (show kitB "int" "list" = some false by decide +kernel)
  | str b => exact (show kitB "str" "list" = some false by decide +kernel)
  | list b => exact (show kitB "list" "list" = some true by decide +kernel)
  | tuple b => exact (show kitB "tuple" "list" = some false by decide +kernel)
  | dict b => exact (show kitB "dict" "list" = some false by decide +kernel)
theorem isiLT {p : Addr} (hp : H p = some (.tup [.ty "list", .ty "tuple"])) (h : Dp K H x d) (q : Q (.bl (isLst d || isTup d)) H) : rIsiT K [x, .ref p] H Q := by
  refine ⟨_, p, _, _, _, isLst d || isTup d, rfl, hp, .cons (.ty _) (.cons (.ty _) .nil), dp_ty h, ?_, q⟩
  refine kB (r := isLst d) kit_lst (fun e => ?_) (fun e => by rw [e]; rfl)
  refine kB (r := isTup d) kit_tup (fun e2 => ?_) (fun e2 => by rw [e, e2]; rfl)
  rw [e, e2]
  rfl
end
section
variable {K : PySem.W.Frag} {G G' H : Hp} {W : Wl} {Q : VK} {v : V} {xs : List V} {n : Nat}
def SomeN (n : Nat) (K : PySem.W.Frag) (G : Hp) (v : V) : Prop := ∃ d, Dp K G v d ∧ Od n d
theorem SomeN.up (e : Same G G') (h : SomeN n K G v) : SomeN n K G' v := let ⟨d, h1, h2⟩ := h; ⟨d, dmono e h1, h2⟩
theorem SomeN.mono {m : Nat} (h : SomeN n K G v) (e : n ≤ m) : SomeN m K G v := let ⟨d, h1, h2⟩ := h; ⟨d, h1, h2.mono e⟩
theorem AllP.mk {α : Type} {P : α → Prop} : ∀ {xs : List α}, (∀ x ∈ xs, P x) → AllP P xs
  | [], _ => trivial
  | x :: _, h => ⟨h x List.mem_cons_self, AllP.mk fun y hy => h y (List.mem_cons_of_mem _ hy)⟩
theorem allN {n : Nat} : ∀ {xs : List V}, AllP (SomeN n K G) xs → ∃ ds, DpAll K G xs ds ∧ (∀ d ∈ ds, Od n d) ∧ ds.length = xs.length
  | [], _ => ⟨[], .nil, (fun _ h => nomatch h), rfl⟩
  | x :: xs, h => by
    obtain ⟨d, h1, h2⟩ := h.1
    obtain ⟨ds, h3, h4, h5⟩ := allN h.2
    refine ⟨d :: ds, .cons h1 h3, fun y hy => ?_, by rw [List.length_cons, List.length_cons, h5]⟩
    rcases List.mem_cons.mp hy with rfl | hy
    · exact h2
    · exact h4 y hy
theorem SomeN.lst {a : Addr} (hs : SqL K G a xs) (h : AllP (SomeN n K G) xs) (hl : xs.length ≤ 9) : SomeN (n + 1) K G (.ref a) := by
  obtain ⟨ds, h1, h2, h3⟩ := allN h
  exact ⟨.list ds, .lst hs h1, Od.list h2 (by omega)⟩
theorem SomeN.tup {a : Addr} (hs : SqT K G a xs) (h : AllP (SomeN n K G) xs) (hl : xs.length ≤ 9) : SomeN (n + 1) K G (.ref a) := by
  obtain ⟨ds, h1, h2, h3⟩ := allN h
  exact ⟨.tuple ds, .tup hs h1, Od.tuple h2 (by omega)⟩
theorem AllP.up (e : Same G G') (h : AllP (SomeN n K G) xs) : AllP (SomeN n K G') xs := AllP.mk fun x hx => (AllP.of h x hx).up e
theorem at_some {i : Int} (h0 : 0 ≤ i) (h1 : i < xs.length) : ∃ v, atI xs i = some v ∧ v ∈ xs := by
  obtain ⟨v, hv⟩ : ∃ v, xs[i.toNat]? = some v := ⟨_, List.getElem?_eq_getElem (by omega)⟩
  exact ⟨v, by rw [show i = (i.toNat : Int) by omega]; exact atI_nat hv, List.mem_of_getElem? hv⟩
end
end Z

/-! own exceptions with a field, over ghost heaps -/
namespace Z
open PySem PySem.Spec PyProof.Rows L2
section
variable {P : Program} {w : World} {K : PySem.W.Frag} {mg : Str → Option Value} {base : Heap} {x qual : Str} {params : Arguments} {body : List Stmt} {scope : Scope} {dvs : List V} {kws : List (Str × V)} {f : Addr} {fd : FuncData}
/-- the rule for a def that may raise -/
theorem okX {N ps : List Str} {k : Nat} {sp : Sp} (F : FunD K x qual params body scope dvs kws f fd) (S : FnScope N ps scope) (len : ∀ vs H Q E, sp vs H Q E → vs.length = ps.length)
    (hb : ∀ (cdv : Value) (A : Around) (outer : List Env) (s : Shared) (H : Hp) (vs : List V) (Q : VK) (E : XK), Room k (A.deeper (envOfC qual scope s.heap.objs.size f cdv)) → sp vs H Q E →
      ∃ t, PSs (cxOf (L2.CX P w) P w K mg base N qual scope f cdv A outer s H E) body t ∧ t { nx := fun _ H' => Q .non H', rt := Q } (start N vs) H) : FnOk P w K mg base (L2.CX P w) (k + 1) f fd ps sp :=
  F.ok S len hb
end
section
variable {X : Cx} {CX : CXT} {k : Nat} {f : Addr} {fd : FuncData} {ps : List Str} {ds : List Value} {dvs : List V} {sp : Sp} {E : L2.St → XK} {x : Str} {p pos : Pos} {e : Expr} {es : List Expr} {t : TA}
/-- a call whose exceptions go where the try says; defaults filled in -/
def tCallSD (sp : Sp) (dvs : List V) (E : L2.St → XK) (t : TA) : TE := fun σ H Q => t σ H fun vs H1 => sp (vs ++ dvs) H1 Q (E σ)
theorem pe_callSD (F : FnOk X.prog X.w X.K X.mg X.base CX k f fd ps sp) (hr : Room k X.A) (hg : Gl X x) (hm : X.mg x = some (.ref f)) (hk : PySem.W.keepIn X.K (.ref f) = true) (hb : Binds X.K fd ps ds) (hd : Vals dvs ds) (hx : ∀ σ, PassesAt CX X σ (E σ))
    (ha : PA X (e :: es) t) (hdb : (x == ("__debug__" : Str)) = false := by decide) (he : starEach (e :: es) X.env = (false, eval e X.env) :: starEach es X.env := by rfl) (hpl : (backTo pos (starEach es X.env)).any (·.1) = false := by rfl) :
    PE X (.Call (.Name x p) (e :: es) [] pos) (tCallSD sp dvs E t) := by
  refine ⟨fun pins s σ H Q I h => wpAny_Call_Name_kw (ld_glob I hg hm (PySem.W.callWith_K (h₀ := X.base) I.ok.mod.kin hk (thn (ha.run pos pins s σ H _ I h) fun us s1 ⟨vs, H1, I1, r, q⟩ => ⟨I1.kIn, ?_⟩) he hpl) hdb)⟩
  have r2 := r.append hd
  refine wpAny_call (codeAny_mono (F.run X.A X.stack s1 H1 ⟨us, []⟩ _ _ Q (E σ) hr I1.env0 (hb s1 us I1.kIn (r2.length.symm.trans (F.len _ _ _ _ q))) r2 q) fun r s' hq => ?_)
  cases r with
  | error e => exact hx σ pins H1 s1 e s' I1 hq
  | ok fl => cases fl with
    | ret u => exact I1.after hq
    | _ => exact False.elim hq
theorem st_callSD {σ : L2.St} {H : Hp} {Q : VK} (h : t σ H fun vs H1 => sp (vs ++ dvs) H1 Q (E σ)) : tCallSD sp dvs E t σ H Q := h
end
theorem passX0 {X : Cx} : Passes (L2.CX X.prog X.w) X E0 := fun _ _ _ _ _ _ _ h => by
  obtain ⟨_, _, _, _, _, _, _, _, _, _, _, _, z⟩ := h
  exact z.elim
/-- an own exception class x at C, its __init__ at fI, its one field n -/
structure ExT (K : PySem.W.Frag) (mg : Str → Option Value) (x n : Str) (C fI : Addr) : Prop where
  gC : mg x = some (.ref C)
  oex : OexC K C
  xf : XfC K C
  xc : ExcC K C
  no : PySem.W.findIn K (.ref C) n = some none
  iC : PySem.W.findIn K (.ref C) "__init__" = some (some (.ref fI))
  tI : PySem.W.typeIn K (.ref fI) = some (.type "function")
  te : PySem.W.exmOne K (.ref C) (.ref C) = some true
  kv : PySem.W.kitOne K (.ref C) (.type "ValueError") = some true
theorem kv_of {K : PySem.W.Frag} {C : Addr} (h : PySem.W.subIn K (.ref C) (.type "ValueError") = some true) : PySem.W.kitOne K (.ref C) (.type "ValueError") = some true := by
  unfold PySem.W.kitOne
  rw [show ((Value.ref C) == (Value.type "ValueError")) = false from rfl]
  show PySem.W.kitCls K (.ref C) (.type "ValueError") = some true
  unfold PySem.W.kitCls
  show (if PySem.W.kitMeta "ValueError" = true then _ else none) = some true
  rw [if_pos (by decide +kernel)]
  exact h
/-- what its __init__ does -/
def sp_init (K : PySem.W.Frag) (C : Addr) (n : Str) : Sp := fun vs H Q _ => ∃ (a : Addr) (v : V), vs = [.ref a, v] ∧ H a = some (exo a C none) ∧ ∀ d, H d = none → d ≠ a → Q .non (upd (upd H d (exd d [(n, v)])) a (exo a C (some d)))
section
variable {K : PySem.W.Frag} {mg : Str → Option Value} {σ : L2.St} {H G : Hp} {W : Wl} {C : Addr} {n : Str} {v : V}
theorem st_mkO {dvs : List V} {ta : TA} {Q : XK} {sp : Sp} (h : ta σ H fun vs H1 => vs.length ≤ 1000 ∧ ∀ a, H1 a = none → sp (.ref a :: (vs ++ dvs)) (upd H1 a (exo a C none))
  (fun v H2 => v = .non ∧ ∃ (d : Addr) (fs : List (Str × V)), H2 a = some (exo a C (some d)) ∧ H2 d = some (exd d fs) ∧ H1 d = none ∧ Q (.ref C) (some d) (upd (del H2 a) d (.xd fs))) (fun _ _ _ => False)) : tMkO C sp dvs ta σ H Q := h
theorem mk_done {Q : XK} (w : Wd G W H) (k : ∀ d G' H', Same G G' → Wd G' W H' → G' d = some (.xd [(n, v)]) → Q (.ref C) (some d) H') (a : Addr) (ha : H a = none) :
    sp_init K C n [.ref a, v] (upd H a (exo a C none)) (fun v H2 => v = .non ∧ ∃ (d : Addr) (fs : List (Str × V)), H2 a = some (exo a C (some d)) ∧ H2 d = some (exd d fs) ∧ H d = none ∧ Q (.ref C) (some d) (upd (del H2 a) d (.xd fs))) (fun _ _ _ => False) := by
  refine ⟨a, v, rfl, upd_same, fun d hd hda => ⟨rfl, d, [(n, v)], upd_same, ?_, ?_, ?_⟩⟩
  · rw [upd_ne hda, upd_same]
  · rw [upd_ne hda] at hd
    exact hd
  · rw [upd_ne hda] at hd
    have e : upd (del (upd (upd (upd H a (exo a C none)) d (exd d [(n, v)])) a (exo a C (some d))) a) d (.xd [(n, v)]) = upd H d (.xd [(n, v)]) := by
      funext b
      by_cases hb : b = d
      · rw [hb, upd_same, upd_same]
      · rw [upd_ne hb, upd_ne hb]
        by_cases hb2 : b = a
        · rw [hb2, del_same, ha]
        · rw [del_ne hb2, upd_ne hb2, upd_ne hb, upd_ne hb2]
    rw [e]
    exact k d _ _ (same_upd (w.free hd)) (w.new hd) upd_same
theorem st_ost {f : Str} {to te : TE} {D : Ends} (h : te σ H fun y H1 => to σ H1 fun x H2 => ∃ a C : Addr, x = .ref a ∧ OexC K C ∧ PySem.W.findIn K (.ref C) f = some none ∧
    ((H2 a = some (exo a C none) ∧ ∀ dx, H2 dx = none → dx ≠ a → D.nx σ (upd (upd H2 dx (exd dx [(f, y)])) a (exo a C (some dx)))) ∨ ∃ (dx : Addr) (fs : List (Str × V)), H2 a = some (exo a C (some dx)) ∧ H2 dx = some (exd dx fs) ∧ fs.length ≤ 900 ∧ D.nx σ (upd H2 dx (exd dx ((f, y) :: fs))))) : tOst K f to te D σ H := h
theorem st_dnew {Q : VK} (h : NewO (.dK []) H Q) : tDNewK σ H Q := h
theorem st_vei {ta : TA} {Q : VK} (h : ta σ H fun vs H1 => ∃ (a C : Addr) (ws : List V), vs = .ref a :: ws ∧ ws.length ≤ 1000 ∧ OexC K C ∧ H1 a = some (exo a C none) ∧ Q .non H1) : tVeI K ta σ H Q := h
theorem st_xf {a : Addr} {cls : Value} {d : Option Addr} {f : Str} {te : TE} {Q : VK} (h : te σ H fun x H1 => x = .ref a ∧ cls = .ref C ∧ ∃ (dd : Addr) (fs : List (Str × V)) (v : V), d = some dd ∧ H1 dd = some (.xd fs) ∧ fs.lookup f = some v ∧ Q v H1) : tXf a cls d C f te σ H Q := h
end
end Z
namespace PySem.W
open PySem PySem.Spec PySem.Calls PyProof.Rows
section
variable {prog : Program} {w : World} {A : Around} {E : Value → Shared → Prop} {s : Shared} {K : Frag} {x D : Addr} {ox od : Obj}
theorem z_found {C : Addr} {name : Str} {a g : Value} (hc : (clsIn K C).isSome = true) (ha : findIn K (.ref C) name = some (some a)) (hg : specialIn K a "__get__" = some (some g)) (ht : takesIn K a = some true) (o : Option Obj) : findObj K C o name = some (.bind g a) := by
  obtain ⟨cd, hcd⟩ := Option.isSome_iff_exists.mp hc
  unfold findObj
  rw [hcd, Option.bind_some, ha, Option.bind_some]
  simp [hg, ht]
theorem z_classE {Q : Option Value → Shared → Prop} (C : L2.ExcC K D) (X : K.In s.heap) (I : InstAt s.heap x ox D (some od)) (h : Q (some (.ref D)) { s with toks := s.toks + 1 }) : wpAny (model prog w) A (getAttr? (.ref x) "__class__") Q E s := by
  have hf : findObj K D (some od) "__class__" = some (.bind (.builtin "getset_descriptor.__get__") (.builtin "object.__class__")) :=
    z_found (by obtain ⟨cd, hc, _⟩ := any_some C.hd; rw [hc]; rfl) C.ha C.hn C.ht (some od)
  obtain ⟨hp, g, d, t, os⟩ := s
  have l0 := I.type (M := model prog w)
  have l1 := looks_findIn (M := model prog w) X C.hg
  have l2 := looks_findIn (M := model prog w) X C.hk
  have l3 := looks_find (M := model prog w) X I hf
  have ls : Looks (model prog w) hp (isInstance (.ref x) (.type "BaseException")) true := l0.andThen (looks_subIn X C.hs)
  have z2 : (Value.builtin "BaseException.__getattribute__" == Value.builtin "object.__getattribute__") = false := by decide +kernel
  have z1 : (onTheHeap (Value.ref D) && Value.builtin "BaseException.__getattribute__" == Value.builtin "object.__getattribute__") = false := by rw [z2]; rfl
  unfold getAttr? getAttrBy? getAttrBy
  refine wpAny_bind (wpAny_mkText (wpAny_bind (wpAny_attempt (wpAny_holding (wpAny_bind (l0.at (wpAny_bind (l1.at ?_))))))))
  show wpAny _ _ (if (onTheHeap (Value.ref D) && Value.builtin "BaseException.__getattribute__" == Value.builtin "object.__getattribute__") = true then _ else _) _ _ _
  rw [z1, if_neg Bool.false_ne_true]
  unfold getAttrByItsOwn hookBefore
  refine wpAny_bind ?_
  rw [if_pos (show onTheHeap (Value.ref D) = true from rfl)]
  refine l2.at (wpAny_bind (wpAny_attempt (wpAny_holding ?_)))
  unfold callGetattribute
  rw [show (false && onTheHeap (Value.builtin "BaseException.__getattribute__")) = false from rfl, if_neg Bool.false_ne_true]
  unfold boundAndCalled
  rw [PySem.F.excAttr_ValueError.ga.bind (.ref x)]
  refine wpAny_bind (wpAny_pure ?_)
  refine wpAny_call (pos := [.ref x, .str "__class__" t]) (codeAny_call_builtin PySem.F.excAttr_ValueError.ga.plain PySem.F.entry_bexc_ga (@check_slot (model prog w) _ _ ⟨hp, g, d, t + 1, os⟩ "BaseException.__getattribute__" "BaseException" "__getattribute__" (.ref x) [.str "__class__" t] [] _ (by decide +kernel) (by decide +kernel) ls (PySem.F.args_bexc_ga (.ref x) (.str "__class__" t)) ?_))
  unfold Builtin.«object.__getattribute__»
  refine wpAny_bind (wpAny_of_eq (a := ((Value.ref x : Value), [Value.str "__class__" t])) (by first | rfl | (simp only [slotArgs]; rfl)) (wpAny_bind (wpAny_pure (wpAny_bind (l0.at (wpAny_bind (l3.at ?_)))))))
  show wpAny _ _ (holding [Value.builtin "object.__class__"] (call (.builtin "getset_descriptor.__get__") [.builtin "object.__class__", .ref x, .ref D]) >>= ret) _ _ _
  refine wpAny_bind (wpAny_holding (wpAny_call (class_get (s := ⟨hp, g, d, t + 1, os⟩) (ox := ox) (od := some od) X I C.hm (wpAny_pure ?_))))
  show wpAny _ _ (handedOut (.ref D)) _ _ _
  rw [handedOut_of (v := .ref D) rfl]
  first
    | exact wpAny_pure (wpAny_pure h)
    | exact wpAny_pure h
    | exact wpAny_pure (wpAny_bind (wpAny_pure (wpAny_pure h)))
theorem z_kit (C : L2.ExcC K D) : KitX K (.ref x) (.ref D) (fun h => ∃ od, InstAt h x ox D (some od)) where
  ty := fun _ _ _ ⟨_, I⟩ => I.type
  it := fun _ _ X _ => by
    obtain ⟨cd, hc, _⟩ := any_some C.hd
    unfold clsIn at hc
    split at hc
    · rename_i ho
      intro A' Q' E' s' k q
      unfold isType loadHead
      exact wpAny_bind (wpAny_loadPart (k _ _ (X _ _ ho)) (wpAny_pure q))
    · cases hc
  ne := fun h tp dd its n sl X htp => by
    obtain ⟨cd, hc, _⟩ := any_some C.hd
    refine Bool.eq_false_iff.mpr fun q => ?_
    obtain rfl : D = tp := Value.ref.inj (beq_iff_eq.mp q)
    unfold clsIn at hc
    split at hc
    · rename_i ho
      exact nomatch (X _ _ ho).symm.trans htp
    · cases hc
  ca := fun X ⟨_, I⟩ k => z_classE C X I k
end
end PySem.W
namespace Z
open PySem PySem.Spec PyProof.Rows L2
/-- isinstance(e, c), e the exception that the suite holds, with its dict -/
def rIsEd (K : PySem.W.Frag) (D a : Addr) (cls : Value) (d : Option Addr) : List V → Hp → VK → Prop := fun xs H Q => ∃ (c : V) (cv : Value) (b : Bool) (dd : Addr) (fs : List (Str × V)), xs = [.ref a, c] ∧ cls = .ref D ∧ d = some dd ∧ H dd = some (.xd fs) ∧ (∀ u, RelV c u → u = cv) ∧ PySem.W.kitOne K (.ref D) cv = some b ∧ Q (.bl b) H
theorem call_isEd {X : Cx} {a D : Addr} {oe : Obj} {cls : Value} {d : Option Addr} {pn : List (Addr × Obj)} (C : ExcC X.K D) (hz : Zc cls d oe) (hf : ∃ vs, oe.data = .fields vs) : CallR (X.suite a ((a, oe) :: pn)) (.builtin "isinstance") (rIsEd X.K D a cls d) := by
  intro pins s σ H xs us Q I r h
  obtain ⟨c, cv, b, dd, fs, rfl, rfl, rfl, ea, hcv, e, q⟩ := h
  obtain ⟨u1, u2, rfl, r1, r2⟩ := vals2 r
  cases r1
  obtain rfl := hcv _ r2
  obtain ⟨hget, _⟩ := I.pin (a, oe) (List.mem_append.mpr (.inl List.mem_cons_self))
  obtain ⟨vs, hv⟩ := hf
  obtain ⟨mA, hns, _⟩ : ObjOk _ _ _ _ dd (.xd fs) := I.hok dd _ ea
  obtain ⟨od, ho, _⟩ := lookIn_ns hns
  have J : PySem.W.InstAt s.heap a oe D (some od) := ⟨hget, hz.1, by unfold PySem.W.notCls; rw [hv] <;> rfl, by rw [hz.2]; exact ho⟩
  exact PySem.W.kia_one (PySem.W.z_kit C) I.kIn ⟨_, J⟩ e (fun z => nomatch z) fun tk => ⟨.bl b, H, I.kept (t' := tk) fun _ _ z => z, rfl, q⟩
end Z

/-! own exceptions over any base, with one field -/
namespace PySem
namespace ZEX
open PySem.W PySem.Calls PyProof.Rows PySem.HandSPX
open Builtin Builtin.ObjectAttr
section
variable {prog : Program} {w : World} {A : Around} {E : Value → Shared → Prop} {R : Result → Shared → Prop} {hp : Heap} {g : Array GenState} {d : Drawn} {t : Nat} {os : OsState}
theorem z_osa {K : W.Frag} {name : Str} {tk : Tok} {v : Value} {x C : Addr} {fv : Array Value} {cd : ClassData} {bmB : List Value} (pass : ∀ self, refuseLoop self "__setattr__" bmB = pure ()) (hob0 : bmB.contains (.type "object") = true)
    (X : K.In hp) (hx : hp.get? x = some { cls := .ref C, data := .fields fv }) (hcd : W.clsIn K C = some cd) (hm : cd.mro = .ref C :: bmB) (hh : cd.hasDict = true) (ha : W.findIn K (.ref C) name = some none)
    (hq : ∀ h' tk' dx, (∀ b o, b ≠ x → hp.get? b = some o → h'.get? b = some o) → hp.objs.size ≤ dx → dx ≠ x → h'.get? x = some { cls := .ref C, dict := some dx, data := .fields fv } → h'.Ns1 dx (fun y => if y = name then some v else none) → R (.ok (.ret .none)) ⟨h', g, d, tk', os⟩) :
    codeAny (model prog w) A (.call (.builtin "object.__setattr__") ⟨[.ref x, .str name tk, v], []⟩) R ⟨hp, g, d, t, os⟩ := by
  have i0 : W.InstAt hp x { cls := .ref C, data := .fields fv } C none := ⟨hx, rfl, rfl, trivial⟩
  have S := F.store_object
  have ne : cd.mro.isEmpty = false := by rw [hm]; rfl
  have hob : cd.mro.contains (.type "object") = true := by rw [hm, List.contains_cons, hob0, Bool.or_true]
  have hps : refuseLoop (.ref x) "__setattr__" cd.mro = pure () := by rw [hm, refuseLoop_ref]; exact pass _
  have nx : x ≠ hp.objs.size := Nat.ne_of_lt (Heap.lt_size hx)
  have li : W.Looks (model prog w) hp (isInstance (.ref x) (.type "object")) true := i0.type.andThen (W.looks_mroIn X (by unfold W.mroIn; rw [hcd, Option.bind_some, if_neg (by rw [ne]; decide), hob]))
  refine codeAny_call_builtin S.slot.plain S.entry (@W.check_slot (model prog w) _ _ ⟨hp, g, d, t, os⟩ "object.__setattr__" "object" "__setattr__" (.ref x) [.str name tk, v] [] _ S.kind S.split li (S.args (.ref x) (.str name tk) v) ?_)
  have lm : W.Looks (model prog w) hp (mroOf (.ref C)) cd.mro := (W.looks_clsIn X hcd).andThen .now
  have lt : W.Looks (model prog w) hp (storeTaker? none) none := .now
  have lc : W.Looks (model prog w) hp (classData C) cd := W.looks_clsIn X hcd
  rw [W.osa_eq, refuse_eq]
  refine wpAny_bind (wpAny_bind (i0.type.at (wpAny_bind (lm.at ?_))))
  rw [hps]
  refine wpAny_pure (wpAny_bind (i0.type.at (wpAny_bind ((W.looks_findIn X ha).at (wpAny_bind (lt.at ?_))))))
  show wpAny (model prog w) _ (storeInOwnDict (.ref x) (.ref C) (.str name tk) name v false) _ _ _
  obtain ⟨nm, bs, mro, ns, qn, hd, sn, sb, ab, col, del⟩ := cd
  dsimp only at hh
  subst hh
  unfold storeInOwnDict ownDictForStores
  repeat first | (with_reducible refine store_in_new ?_ ?_) | (with_reducible refine wpAny_loadPart_at hx ?_) | (with_reducible refine lc.at ?_) | wp_step
  · exact ⟨_, #[], _, (Heap.get?_update_ne _ _ _ _ nx.symm).trans (Heap.get?_push_at rfl rfl), rfl, fun e he => absurd he (by simp), fun _ => rfl⟩
  · intro h' tk' hn' hs
    have hx1 : (hp.push { cls := .type "dict", data := .dict #[] }).get? x = some { cls := .ref C, data := .fields fv } := Heap.get?_push_of_some _ hx
    exact hq h' tk' hp.objs.size (fun b o hb ho => (hs.2 b (Nat.ne_of_lt (Heap.lt_size ho))).trans ((Heap.get?_update_ne _ _ _ _ hb).trans (Heap.get?_push_of_some _ ho))) (Nat.le_refl _) nx.symm ((hs.2 x nx).trans (Heap.get?_update_self _ hx1 rfl)) hn'
end
end ZEX
end PySem
namespace Z
open PySem PySem.Spec PyProof.Rows L2
/-- the class at C: own, directly over the built-in exception B -/
structure OexB (K : PySem.W.Frag) (C : Addr) (B newId initId : String) (bmB : List Value) : Prop where
  cls : ∃ nm q N bs sn sub ab col dd k0 k1 k2 k3 k5, K.lookup C = some (excClassObj nm q C N bs bmB true sn sub ab col dd k0 k1 k2 k3 k5 newId)
  sa : PySem.W.findIn K (.ref C) "__setattr__" = some (some (.builtin "object.__setattr__"))
  exC : PySem.W.subIn K (.ref C) (.type "BaseException") = some true
  tyC : PySem.W.typeIn K (.ref C) = some (.type "type")
  kC : PySem.W.keepIn K (.ref C) = true
  fac : ExcBaseFacts B newId initId bmB
  pass : ∀ self, refuseLoop self "__setattr__" bmB = pure ()
  hob : bmB.contains (.type "object") = true
section
variable {X : Cx} {pins : List (Addr × Obj)} {σ : L2.St} {H : Hp} {s : Shared} {a C : Addr} {f : Str} {y : V} {u : Value} {E : Value → Shared → Prop} {A : Around} {B newId initId : String} {bmB : List Value}
theorem z_ost {Q : Unit → Shared → Prop} (T : OexB X.K C B newId initId bmB) (I : Inv X pins σ H s) (e : H a = some (exo a C none)) (hno : PySem.W.findIn X.K (.ref C) f = some none) (ry : RelV y u)
    (h : ∀ dx s', H dx = none → dx ≠ a → Inv X pins σ (upd (upd H dx (exd dx [(f, y)])) a (exo a C (some dx))) s' → Q () s') : wpAny (model X.prog X.w) A (setAttr (.ref a) f u) Q E s := by
  obtain ⟨nm, q, N, bs, sn, sub, ab, col, dd, k0, k1, k2, k3, k5, hC⟩ := T.cls
  have hcl : PySem.W.clsIn X.K C = some { name := nm, bases := bs, mro := .ref C :: bmB, ns := N, qualname := q, hasDict := true, slotNames := sn, subclasses := sub, abstract := ab, collection := col, hasDel := false } := by
    unfold PySem.W.clsIn
    rw [hC] <;> rfl
  obtain ⟨t1, ho⟩ := exo_at I.hok e
  obtain ⟨hp, g, d, t, os⟩ := s
  refine PySem.W.set_plain I.kIn (od := none) (ox := { cls := .ref C, dict := none, data := .fields #[.ref t1, .none, .none, .none, .bool false, .none] }) ⟨ho, rfl, rfl, trivial⟩ T.sa ?_
  refine PySem.ZEX.z_osa T.pass T.hob I.kIn ho hcl rfl rfl hno fun h' tk' dx k dn dne hx hn => ?_
  have hnd : H dx = none := I.hok.fresh dn
  have nd : ∀ {b : Addr} {o : Obj}, hp.get? b = some o → b ≠ dx := fun {b o} q => Nat.ne_of_lt (Nat.lt_of_lt_of_le (Heap.lt_size q) dn)
  have na : ∀ {b : Addr}, H b = none → b ≠ a := fun {b} n z => nomatch (z ▸ n).symm.trans e
  have un : Un X.fs [] H (upd (upd H dx (exd dx [(f, y)])) a (exo a C (some dx))) hp h' := {
    keep := fun b o q n _ _ => k b o (na n) q, slot := fun b o q n _ _ => ⟨o.slots, k b o (na n) q⟩
    free := fun b o q n _ => (upd_ne (na n)).trans ((upd_ne (nd q)).trans n)
    there := fun b o q _ => if hb : b = a then ⟨_, hb ▸ hx⟩ else ⟨o, k b o hb q⟩
    tups := fun b xs q => (upd_ne (at_ne e q exo_tup)).trans ((upd_ne (ne_of_none q hnd)).trans q)
    frzs := fun b o v q => (upd_ne (at_ne e q exo_frz)).trans ((upd_ne (ne_of_none q hnd)).trans q)
    tbls := fun b ps q => ⟨#[], by rw [upd_ne (at_ne e q exo_tbl), upd_ne (ne_of_none q hnd), q] <;> simp⟩ }
  refine h dx _ hnd dne (I.un (t' := tk') un fun b o q => ?_)
  by_cases hb : b = a
  · rw [hb, upd_same] at q
    cases q
    rw [hb]
    exact exo_ok hx
  · rw [upd_ne hb] at q
    by_cases hd : b = dx
    · rw [hd, upd_same] at q
      cases q
      rw [hd]
      exact exd_ok hn (relO_put (fs := []) ry fun g => True.intro)
    · rw [upd_ne hd] at q
      refine (I.hok b o q).stay (fun c v hc z => k c v (hc.elim (fun h => h ▸ hb) fun h => at_ne e h exo_own) z) (fun c hc => (upd_ne (at_ne e hc exo_own)).trans ((upd_ne (ne_of_none hc hnd)).trans hc)) (fun c xs hc => (upd_ne (at_ne e hc exo_tup)).trans ((upd_ne (ne_of_none hc hnd)).trans hc))
theorem z_oinit {us : List Value} {Q : Value → Shared → Prop} (T : OexB X.K C B newId initId bmB) (I : Inv X pins σ H s) (e : H a = some (exo a C none)) (hl : us.length ≤ sizeLine) (h : ∀ s', Inv X pins σ H s' → Q .none s') :
    wpAny (model X.prog X.w) A (call (.builtin initId) (.ref a :: us)) Q E s := by
  obtain ⟨nm, q, N, bs, sn, sub, ab, col, dd, k0, k1, k2, k3, k5, hC⟩ := T.cls
  obtain ⟨t1, ho⟩ := exo_at I.hok e
  obtain ⟨hp, g, d, t, os⟩ := s
  refine wpAny_call (PySem.HandSPX.init_base T.fac (fun _ => rfl) (I.kIn _ _ hC) ho hl fun h' t2 k hx => ?_)
  have J := I.write (t' := t) (x := a) (e := a) (o := exo a C none) (by rw [e]; exact True.intro) (.inl rfl) k ⟨_, hx⟩ (exo_ok hx)
  have eu : upd H a (exo a C none) = H := funext fun b => if hb : b = a then by rw [hb, upd_same, e] else upd_ne hb
  exact h _ (eu ▸ J)
end
/-- B.__init__(self, ..) -/
def tBei (K : PySem.W.Frag) (B newId initId : String) (bmB : List Value) (ta : TA) : TE := fun σ H Q => ta σ H fun vs H1 => ∃ (a C : Addr) (ws : List V), vs = .ref a :: ws ∧ ws.length ≤ 1000 ∧ OexB K C B newId initId bmB ∧ H1 a = some (exo a C none) ∧ Q .non H1
/-- self.f = e, the one field -/
def tBst (K : PySem.W.Frag) (B newId initId : String) (bmB : List Value) (f : Str) (to te : TE) : TS := fun D σ H => te σ H fun y H1 => to σ H1 fun x H2 => ∃ a C : Addr, x = .ref a ∧ OexB K C B newId initId bmB ∧ PySem.W.findIn K (.ref C) f = some none ∧
  H2 a = some (exo a C none) ∧ ∀ dx, H2 dx = none → dx ≠ a → D.nx σ (upd (upd H2 dx (exd dx [(f, y)])) a (exo a C (some dx)))
section
variable {X : Cx} {o e : Expr} {es : List Expr} {to te : TE} {ta : TA} {f bx : Str} {p p' p1 p2 pos : Pos} {B newId initId : String} {bmB : List Value}
theorem pe_beinit {pl : Sem Bool} (typ : typeOf (.type B) = pure (.type "type")) (stub : Manifest.isStub B = false) (hbt : bootBuiltins bx = some (.type B)) (hh : PySem.W.handedIn (.builtin initId) = true) (hg : Gl X bx) (hm : X.mg bx = none) (vV : PySem.W.findCls X.K (.type B) (.type "type") "__init__" = some (.val (.builtin initId))) (ha : PA X (e :: es) ta)
    (hn : bx ≠ "__name__" := by decide) (hdb : (bx == ("__debug__" : Str)) = false := by decide)
    (hc : eval (.Call (.Attribute (.Name bx p1) "__init__" p2) (e :: es) [] pos) X.env = (do let ov ← eval (.Name bx p1) X.env; standAt p2.atName; let (f, first) ← holding [ov] (getMethod ov "__init__" pl); callWith pos f first (backTo pos (starEach (e :: es) X.env)) (backToKw pos (keywordEach [] X.env))) := by rfl)
    (he : starEach (e :: es) X.env = (false, eval e X.env) :: starEach es X.env := by rfl) (hpl : (backTo pos (starEach es X.env)).any (·.1) = false := by rfl) : PE X (.Call (.Attribute (.Name bx p1) "__init__" p2) (e :: es) [] pos) (tBei X.K B newId initId bmB ta) := by
  refine ⟨fun pins s σ H Q I h => PySem.W.methodCall_KW (ld_blt I hg hm hbt ?_ hn hdb) hc⟩
  obtain ⟨m, fr⟩ := I.fr
  refine PySem.W.method_type fr I.ok.mod.kin typ stub vV hh ?_
  show wpAny (model X.prog X.w) _ (callWith pos (Value.builtin initId) [] (backTo pos (starEach (e :: es) X.env)) []) _ _ _
  refine PyProof.Rows.callWith_method1 (thn (ha.run pos pins _ σ H _ (I.tok _) h) fun us s1 ⟨vs, H1, I1, r1, a, C, ws, ev, hl, T, ea, q⟩ => ?_) he hpl
  subst ev
  cases r1 with
  | @cons _ u0 _ ur ra rw' =>
    cases (show u0 = Value.ref a from ra)
    exact z_oinit T I1 ea (by rw [← Paired.length rw', sizeLine_eq]; omega) fun s' J => ⟨.non, H1, J, rfl, q⟩
theorem ps_bst (ho : PE X o to) (he : PE X e te) (hs : swapsWith e (some (.Attribute o f p')) pos.line X.env = pure false := by rfl) : PS X (.Assign [.Attribute o f p'] e pos) (tBst X.K B newId initId bmB f to te) := by
  refine ⟨fun pins s σ H D I h => plainObj_wpAny_Assign_Attribute (thn (he.run pins s σ H _ I h) fun v s1 ⟨y, H1, I1, r1, q1⟩ => thn (ho.run pins s1 σ H1 _ I1 q1) fun u s2 ⟨x, H2, I2, r2, a, C, ex, T, hno, ea, q⟩ => ?_) hs⟩
  subst ex
  cases (show u = Value.ref a from r2)
  exact z_ost T I2 ea hno r1 fun dx s' n ne J => ⟨σ, _, J, q dx n ne⟩
theorem pmk_bex {CX : CXT} {x : Str} {C fI : Addr} {k : Nat} {fd : FuncData} {ps : List Str} {sp : Sp} {ds : List Value} {dvs : List V} (T : OexB X.K C B newId initId bmB) (iC : PySem.W.findIn X.K (.ref C) "__init__" = some (some (.ref fI))) (tI : PySem.W.typeIn X.K (.ref fI) = some (.type "function"))
    (F1 : FnOk X.prog X.w X.K X.mg X.base CX k fI fd ps sp) (hr : Room (k + 1) X.A) (hb : Binds X.K fd ps ds) (hd : Vals dvs ds) (hx : Passes CX X (fun _ _ _ => False)) (hg : Gl X x) (hm : X.mg x = some (.ref C)) (ha : PA X (e :: es) ta)
    (hdb : (x == ("__debug__" : Str)) = false := by decide) (he : starEach (e :: es) X.env = (false, eval e X.env) :: starEach es X.env := by rfl) (hpl : (backTo pos (starEach es X.env)).any (·.1) = false := by rfl) : PMk X (.Call (.Name x p) (e :: es) [] pos) (tMkO C sp dvs ta) := by
  intro pins s σ H Q I h
  obtain ⟨nm, q, N, bs, sn, sub, ab, col, dd, k0, k1, k2, k3, k5, hC⟩ := T.cls
  refine wpAny_Call_Name_kw (ld_glob I hg hm (PySem.W.callWith_K (h₀ := X.base) I.ok.mod.kin T.kC (thn (ha.run pos pins s σ H _ I h) fun us s1 ⟨vs, H1, I1, r1, hz, q1⟩ => ⟨I1.kIn, ?_⟩) he hpl) hdb)
  show wpAny (model X.prog X.w) _ (call (.ref C) us) _ _ _
  obtain ⟨hp, g, dr, tk, os⟩ := s1
  have z1 : hp.objs.size ≤ hp.objs.size + 1 := Nat.le_succ _
  have hq := q1 (hp.objs.size + 1) (I1.hok.fresh z1)
  have kk : ∀ b o, hp.get? b = some o → ((hp.push (PySem.W.kdv_tup us)).push (PySem.HandSPX.excO C hp.objs.size)).get? b = some o := fun _ _ e => Heap.get?_push_of_some _ (Heap.get?_push_of_some _ e)
  have gg : ((hp.push (PySem.W.kdv_tup us)).push (PySem.HandSPX.excO C hp.objs.size)).get? (hp.objs.size + 1) = some (PySem.HandSPX.excO C hp.objs.size) := by heap_get
  have I2 : Inv X pins σ (upd H1 (hp.objs.size + 1) (exo (hp.objs.size + 1) C none)) ⟨(hp.push (PySem.W.kdv_tup us)).push (PySem.HandSPX.excO C hp.objs.size), g, dr, tk, os⟩ := I1.laid (t' := tk) (a := hp.objs.size + 1) (o := exo (hp.objs.size + 1) C none) kk z1 (exo_ok gg)
  have r2 : Vals (V.ref (hp.objs.size + 1) :: (vs ++ dvs)) (Value.ref (hp.objs.size + 1) :: (us ++ ds)) := .cons rfl (r1.append hd)
  have hl : (Value.ref (hp.objs.size + 1) :: us ++ ds).length = ps.length := (r2.length.symm.trans (F1.len _ _ _ _ hq))
  have hus : us.length ≤ sizeLine := by rw [← Paired.length r1, sizeLine_eq]; omega
  refine wpAny_call (PySem.HandSPX.call_own T.fac (fun _ => rfl) (I1.kIn _ _ hC) (PySem.W.looks_findIn I1.kIn iC) (fun self => PySem.W.bind_fn I1.kIn self tI) hus
    (codeAny_mono (F1.run _ X.stack _ _ ⟨Value.ref (hp.objs.size + 1) :: us, []⟩ (Value.ref (hp.objs.size + 1) :: (us ++ ds)) _ _ (fun _ _ _ => False) (hr.make C us []) (I2.env0.make C us []) (hb _ (Value.ref (hp.objs.size + 1) :: us) I2.kIn hl) r2 hq) fun r s' hz2 => ?_))
  cases r with
  | error er => exact hx pins σ _ _ er s' I2 hz2
  | ok fl => cases fl with
    | ret u =>
      obtain ⟨v, H2, os2, bare2, un2, hok2, rv, ev, d, fs, ea, ed, hd1, q2⟩ := hz2
      subst ev
      obtain ⟨h2, g2, d2, t2, os'⟩ := s'
      exact ⟨rv, mk_end (raises_own T.exC T.tyC) I1 z1 kk un2 hok2 os2 bare2 ea ed hd1 q2⟩
    | _ => exact False.elim hz2
end
end Z
namespace Z
open PySem PySem.Spec PyProof.Rows L2
/-- a built-in base: what of it is the same in every program -/
structure BaseX (B newId initId : String) (bx : Str) (bmB : List Value) : Prop where
  fac : ExcBaseFacts B newId initId bmB
  pass : ∀ self, refuseLoop self "__setattr__" bmB = pure ()
  hob : bmB.contains (.type "object") = true
  typ : typeOf (.type B) = pure (.type "type")
  stub : Manifest.isStub B = false
  hbt : bootBuiltins bx = some (.type B)
  hh : PySem.W.handedIn (.builtin initId) = true
  kmt : PySem.W.kitMeta B = true
abbrev tl_ValueError : List Value := [.type "ValueError", .type "Exception", .type "BaseException", .type "object"]
theorem bx_ValueError : BaseX "ValueError" "ValueError.__new__" "ValueError.__init__" "ValueError" tl_ValueError := ⟨PySem.F.excBase_ValueError, PySem.F.store_ValueError.passes, by decide +kernel, by kernel_rfl, by decide +kernel, by decide +kernel, by decide +kernel, by decide +kernel⟩
abbrev tl_LookupError : List Value := [.type "LookupError", .type "Exception", .type "BaseException", .type "object"]
theorem bx_LookupError : BaseX "LookupError" "LookupError.__new__" "LookupError.__init__" "LookupError" tl_LookupError := ⟨PySem.F.excBase_LookupError, PySem.F.store_LookupError.passes, by decide +kernel, by kernel_rfl, by decide +kernel, by decide +kernel, by decide +kernel, by decide +kernel⟩
abbrev tl_IndexError : List Value := [.type "IndexError", .type "LookupError", .type "Exception", .type "BaseException", .type "object"]
theorem bx_IndexError : BaseX "IndexError" "IndexError.__new__" "IndexError.__init__" "IndexError" tl_IndexError := ⟨PySem.F.excBase_IndexError, PySem.F.store_IndexError.passes, by decide +kernel, by kernel_rfl, by decide +kernel, by decide +kernel, by decide +kernel, by decide +kernel⟩
abbrev tl_OverflowError : List Value := [.type "OverflowError", .type "ArithmeticError", .type "Exception", .type "BaseException", .type "object"]
theorem bx_OverflowError : BaseX "OverflowError" "OverflowError.__new__" "OverflowError.__init__" "OverflowError" tl_OverflowError := ⟨PySem.F.excBase_OverflowError, PySem.F.store_OverflowError.passes, by decide +kernel, by kernel_rfl, by decide +kernel, by decide +kernel, by decide +kernel, by decide +kernel⟩
abbrev tl_ArithmeticError : List Value := [.type "ArithmeticError", .type "Exception", .type "BaseException", .type "object"]
theorem bx_ArithmeticError : BaseX "ArithmeticError" "ArithmeticError.__new__" "ArithmeticError.__init__" "ArithmeticError" tl_ArithmeticError := ⟨PySem.F.excBase_ArithmeticError, PySem.F.store_ArithmeticError.passes, by decide +kernel, by kernel_rfl, by decide +kernel, by decide +kernel, by decide +kernel, by decide +kernel⟩
abbrev tl_TypeError : List Value := [.type "TypeError", .type "Exception", .type "BaseException", .type "object"]
theorem bx_TypeError : BaseX "TypeError" "TypeError.__new__" "TypeError.__init__" "TypeError" tl_TypeError := ⟨PySem.F.excBase_TypeError, PySem.F.store_TypeError.passes, by decide +kernel, by kernel_rfl, by decide +kernel, by decide +kernel, by decide +kernel, by decide +kernel⟩
abbrev tl_RuntimeError : List Value := [.type "RuntimeError", .type "Exception", .type "BaseException", .type "object"]
theorem bx_RuntimeError : BaseX "RuntimeError" "RuntimeError.__new__" "RuntimeError.__init__" "RuntimeError" tl_RuntimeError := ⟨PySem.F.excBase_RuntimeError, PySem.F.store_RuntimeError.passes, by decide +kernel, by kernel_rfl, by decide +kernel, by decide +kernel, by decide +kernel, by decide +kernel⟩
/-- an own exception class x at C over the base B, its __init__ at fI, its one field n -/
structure ExB (K : PySem.W.Frag) (mg : Str → Option Value) (x n : Str) (C fI : Addr) (B newId initId : String) (bmB : List Value) : Prop where
  gC : mg x = some (.ref C)
  oex : OexB K C B newId initId bmB
  xf : XfC K C
  xc : ExcC K C
  no : PySem.W.findIn K (.ref C) n = some none
  iC : PySem.W.findIn K (.ref C) "__init__" = some (some (.ref fI))
  tI : PySem.W.typeIn K (.ref fI) = some (.type "function")
  te : PySem.W.exmOne K (.ref C) (.ref C) = some true
  kv : PySem.W.kitOne K (.ref C) (.type B) = some true
theorem kvB_of {K : PySem.W.Frag} {C : Addr} {B : String} (hm : PySem.W.kitMeta B = true) (h : PySem.W.subIn K (.ref C) (.type B) = some true) : PySem.W.kitOne K (.ref C) (.type B) = some true := by
  unfold PySem.W.kitOne
  rw [show ((Value.ref C) == (Value.type B)) = false from rfl]
  show PySem.W.kitCls K (.ref C) (.type B) = some true
  unfold PySem.W.kitCls
  show (if PySem.W.kitMeta B = true then _ else none) = some true
  rw [if_pos hm]
  exact h
section
variable {K : PySem.W.Frag} {σ : L2.St} {H : Hp} {B newId initId : String} {bmB : List Value}
theorem st_bei {ta : TA} {Q : VK} (h : ta σ H fun vs H1 => ∃ (a C : Addr) (ws : List V), vs = .ref a :: ws ∧ ws.length ≤ 1000 ∧ OexB K C B newId initId bmB ∧ H1 a = some (exo a C none) ∧ Q .non H1) : tBei K B newId initId bmB ta σ H Q := h
theorem st_bst {f : Str} {to te : TE} {D : Ends} (h : te σ H fun y H1 => to σ H1 fun x H2 => ∃ a C : Addr, x = .ref a ∧ OexB K C B newId initId bmB ∧ PySem.W.findIn K (.ref C) f = some none ∧
    H2 a = some (exo a C none) ∧ ∀ dx, H2 dx = none → dx ≠ a → D.nx σ (upd (upd H2 dx (exd dx [(f, y)])) a (exo a C (some dx)))) : tBst K B newId initId bmB f to te D σ H := h
end
section
variable {K : PySem.W.Frag} {x qual : Str} {params : Arguments} {body : List Stmt} {scope : Scope} {kws : List (Str × V)} {f : Addr} {fd : FuncData} {ps ks : List Str} {n : Nat}
theorem kbnK (F : FunD K x qual params body scope [] kws f fd) (g : List Value → List Value → List Value) {gV : List V → List V → List V} (rel : ∀ {vs : List V} {us : List Value} {zs : List V} {ws : List Value}, Vals vs us → Vals zs ws → Vals (gV vs zs) (g us ws))
    (h : ∀ (kV doc pm : Value) (an : Option Addr) (cdv ct : Value) (us ws : List Value), us.length = n → ws.length = ks.length → bindArgs (PySem.W.fnOf x qual params body scope .none kV doc pm an cdv ct) ⟨us, ks.zip ws⟩ = pure (ps.zip (g us ws))) : KBn K fd ps n ks g gV := by
  obtain ⟨oc, od, dV, kV, doc, pm, an, cdv, ct, osl, rfl, lk, hcd, hD, hK⟩ := F.ex
  rcases hD with ⟨_, rfl⟩ | ⟨e, _⟩
  · exact ⟨fun s us ws _ l1 l2 => .of_eq (h kV doc pm an cdv ct us ws l1 l2), rel⟩
  · exact absurd rfl e
end
/-- f(e, .., k = v, ..) whose exceptions go where the try says -/
def tCallNS (n m : Nat) (sp : Sp) (gV : List V → List V → List V) (E : L2.St → XK) (t tk : TA) : TE := fun σ H Q => t σ H fun vs H1 => tk σ H1 fun zs H2 => vs.length = n ∧ zs.length = m ∧ sp (gV vs zs) H2 Q (E σ)
section
variable {X : Cx} {CX : CXT} {k n : Nat} {f : Addr} {fd : FuncData} {ps ks : List Str} {sp : Sp} {E : L2.St → XK} {x : Str} {p pos : Pos} {e : Expr} {es : List Expr} {kws : List Keyword} {t tk : TA} {g : List Value → List Value → List Value} {gV : List V → List V → List V}
theorem pe_callNS (F : FnOk X.prog X.w X.K X.mg X.base CX k f fd ps sp) (hr : Room k X.A) (hg : Gl X x) (hm : X.mg x = some (.ref f)) (hk : PySem.W.keepIn X.K (.ref f) = true) (hb : KBn X.K fd ps n ks g gV) (hx : ∀ σ, PassesAt CX X σ (E σ)) (ha : PA X (e :: es) t) (hkw : PK X kws tk)
    (hall : (backToKw pos (keywordEach kws X.env)).all (·.1.isSome) = true := by rfl) (hks : (backToKw pos (keywordEach kws X.env)).filterMap (·.1) = ks := by rfl) (hdb : (x == ("__debug__" : Str)) = false := by decide) (he : starEach (e :: es) X.env = (false, eval e X.env) :: starEach es X.env := by rfl) (hpl : ((backTo pos (starEach (e :: es) X.env)).any (·.1) || (backToKw pos (keywordEach kws X.env)).any (·.1.isNone)) = false := by rfl) : PE X (.Call (.Name x p) (e :: es) kws pos) (tCallNS n ks.length sp gV E t tk) := by
  refine ⟨fun pins s σ H Q I h => wpAny_Call_Name_kw (ld_glob I hg hm (PySem.W.callWith_KW (h₀ := X.base) I.ok.mod.kin hk hall (thn (ha.run pos pins s σ H _ I h) fun us s1 ⟨vs, H1, I1, r, q⟩ => thn (hkw.run pos pins s1 σ H1 _ I1 q) fun ws s2 ⟨zs, H2, I2, rz, l1, l2, q2⟩ => ⟨I2.kIn, ?_⟩) hpl he) hdb)⟩
  rw [hks]
  have r2 := hb.rel r rz
  refine wpAny_call (codeAny_mono (F.run X.A X.stack s2 H2 ⟨us, ks.zip ws⟩ (g us ws) (gV vs zs) Q (E σ) hr I2.env0 (hb.to s2 us ws I2.kIn (r.length.symm.trans l1) (rz.length.symm.trans l2)) r2 q2) fun r s' hq => ?_)
  cases r with
  | error e => exact hx σ pins H2 s2 e s' I2 hq
  | ok fl => cases fl with
    | ret u => exact I2.after hq
    | _ => exact False.elim hq
theorem st_callNS {m : Nat} {σ : L2.St} {H : Hp} {Q : VK} (h : t σ H fun vs H1 => tk σ H1 fun zs H2 => vs.length = n ∧ zs.length = m ∧ sp (gV vs zs) H2 Q (E σ)) : tCallNS n m sp gV E t tk σ H Q := h
end
end Z

local macro_rules | `(tactic| walk_at "cond") => `(tactic| first
  | (show (0 : Int) < _; first | decide | omega) | (show (0 : Int) ≤ _; first | decide | omega) | ((refine (show L2.CDiv _ _ from ⟨?_, ?_⟩)) <;> omega) | ((refine (show L2.CMul _ _ from Or.inl ⟨?_, ?_⟩)) <;> omega) | ((refine (show L2.CMul _ _ from Or.inr ⟨?_, ?_⟩)) <;> omega)
  | (refine (show Z.CPowW _ _ from ⟨?_, ?_⟩) <;> decide) | (refine (show L2.CPow _ _ from ⟨?_, ?_, ?_⟩); omega; omega; decide))
local macro_rules | `(tactic| walk_at "z") => `(tactic| first
  | with_reducible refine Z.st_seq ?_ | with_reducible refine Z.st_asg ?_ | with_reducible refine Z.st_if ?_ | with_reducible refine Z.st_ret ?_ | with_reducible refine Z.st_drop ?_ | with_reducible refine Z.st_next ?_ | with_reducible refine Z.st_retN ?_ | with_reducible refine Z.st_brk ?_ | with_reducible refine Z.st_cont ?_
  | with_reducible refine Z.st_gname ?_ | with_reducible refine Z.st_par ?_ | with_reducible refine Z.st_two ?_
  | ((with_reducible refine' Z.st_var ?hv ?hq); (case hv => exact rfl)) | with_reducible refine Z.st_c ?_ | with_reducible refine Z.st_op ?_ | with_reducible refine Z.st_un ?_ | with_reducible refine Z.st_i0 ?_ | with_reducible refine Z.st_u ?_
  | with_reducible refine Z.st_test ?_ | with_reducible refine Z.st_tB ?_ | with_reducible refine Z.st_bl ?_ | with_reducible refine Z.st_not ?_ | with_reducible refine Z.st_and ?_ | with_reducible refine Z.st_or ?_
  | with_reducible refine Z.st_andV ?_ | with_reducible refine Z.st_orV ?_ | with_reducible refine Z.st_notV ?_
  | with_reducible refine Z.st_nil ?_ | with_reducible refine Z.st_cons ?_ | with_reducible refine Z.st_cb ?_ | with_reducible refine Z.st_call ?_ | with_reducible refine Z.st_callN ?_
  | with_reducible refine Z.st_lst ?_ | with_reducible refine Z.st_tup ?_
  | ((with_reducible refine Z.st_eq ?_ ?_); exact rfl) | ((with_reducible refine Z.st_ne ?_ ?_); exact rfl)
  | with_reducible refine Z.st_for ?_ | with_reducible refine Z.st_iEnumA ?_ | with_reducible refine Z.st_iList ?_ | with_reducible refine Z.st_iTup ?_ | with_reducible refine Z.st_iR1 ?_ | with_reducible refine Z.st_iR2 ?_
  | ((with_reducible refine' Z.st_i ?hc ?hq); (case hc => walk_at "cond"))
  | with_reducible refine Z.st_gsub ?_ | with_reducible refine Z.st_bm ?_ | with_reducible refine Z.st_bm0 ?_
  | with_reducible refine Z.st_lc ?_ | with_reducible refine Z.st_yes ?_ | with_reducible refine Z.st_sl ?_ | with_reducible refine Z.st_chain ?_ | with_reducible refine Z.st_gcons ?_ | with_reducible refine Z.st_gnil ?_ | with_reducible refine Z.st_noPart ?_ | with_reducible refine Z.st_part ?_
  | with_reducible refine L2.iteT ?_ | with_reducible refine L2.iteF ?_ | with_reducible refine Z.iteNT ?_ | with_reducible refine Z.iteNF ?_)
local macro_rules | `(tactic| walk_at "zz") => `(tactic| repeat walk_at "z")
local macro_rules | `(tactic| walk_at "sm") => `(tactic| first | exact L2.Same.refl _ | assumption | (refine' L2.Same.trans ?ha ?hb; (case hb => assumption); (case ha => walk_at "sm")))
local macro_rules | `(tactic| walk_at "up") => `(tactic| first
  | assumption
  | (refine' Z.seq_up ?w ?h; (case w => assumption); (case h => walk_at "up")) | (refine' Z.tup_up ?w ?h; (case w => assumption); (case h => walk_at "up")) | (refine' Z.dUp ?w ?h; (case w => assumption); (case h => walk_at "up")) | (refine' Z.hUp ?w ?h; (case w => assumption); (case h => walk_at "up"))
  | (refine' L2.Same.seq ?e ?h; (case e => assumption); (case h => walk_at "up")) | (refine' Z.seqT ?e ?h; (case e => assumption); (case h => walk_at "up")) | (refine' Z.dmono ?e ?h; (case e => assumption); (case h => walk_at "up")) | (refine' Z.atUp ?e ?h; (case e => assumption); (case h => walk_at "up")))
local macro_rules | `(tactic| walk_at "zi") => `(tactic| with_reducible refine Z.st_ifE ?_)
local macro_rules | `(tactic| walk_at "nw") => `(tactic| first
  | refine ⟨by first | decide | exact Z.small (by simp), Z.NewO.good (by assumption) fun p G1 H1 e1 w1 h1 => ?_⟩
  | refine Z.st_catV (by walk_at "up") (by walk_at "up") (by first | decide | (simp; done) | (simp; omega)) (by assumption) fun p G1 H1 e1 w1 h1 => ?_)
local macro_rules | `(tactic| walk_at "zn") => `(tactic| repeat first
  | walk_at "z"
  | walk_at "nw")
local macro_rules | `(tactic| walk_at "dp") => `(tactic| first
  | exact L2.Dp.non
  | exact L2.Dp.bl _
  | exact L2.Dp.int _
  | exact L2.Dp.str _
  | assumption
  | (refine' L2.Dp.lst (L2.SqL.of ?h) ?t; (case h => walk_at "up"); (case t => walk_at "dps"))
  | (refine' L2.Dp.tup (L2.SqT.of ?h) ?t; (case h => walk_at "up"); (case t => walk_at "dps"))
  | walk_at "up")
local macro_rules | `(tactic| walk_at "dps") => `(tactic| first
  | exact L2.DpAll.nil
  | (refine' L2.DpAll.cons ?a ?b; (case a => walk_at "dp"); (case b => walk_at "dps")))
local macro_rules | `(tactic| walk_at "od") => `(tactic| first
  | decide +kernel
  | (refine Z.Od.int ?_; omega)
  | exact Z.Od.strInt (by omega)
  | exact Z.Od.bool _
  | assumption
  | (refine Z.Od.mono ?_ ?_ <;> first | assumption | decide))
local macro_rules | `(tactic| walk_at "al") => `(tactic| first
  | exact trivial
  | (refine' Z.AllP.app ?a ?b; (case a => walk_at "al"); (case b => walk_at "al"))
  | (refine' And.intro (Exists.intro _ (And.intro ?a ?b)) ?c; (case a => walk_at "dp"); (case b => walk_at "od"); (case c => walk_at "al")))
local macro_rules | `(tactic| walk_at "ib") => `(tactic| first
  | refine Z.iteBT (by rfl) ?_
  | refine Z.iteBF (by rfl) ?_)

namespace Z
open PySem PySem.Spec PyProof.Rows L2

local macro_rules | `(tactic| walk_at "zx") => `(tactic| repeat first
  | walk_at "z"
  | with_reducible refine Z.st_mkO ?_ | with_reducible refine Z.st_vei ?_ | with_reducible refine Z.st_ost ?_ | with_reducible refine Z.st_xf ?_ | with_reducible refine Z.st_callSD ?_)

local macro_rules | `(tactic| walk_at "zy") => `(tactic| repeat first
  | walk_at "z"
  | with_reducible refine Z.st_mkO ?_ | with_reducible refine Z.st_bei ?_ | with_reducible refine Z.st_bst ?_ | with_reducible refine Z.st_xf ?_ | with_reducible refine Z.st_callSD ?_ | with_reducible refine Z.st_callNS ?_)

def top (i : Nat) : Stmt := PySem.Challenge.pw_deflatehall_k16_tokens_expanded.main.body.getD i (.Pass ⟨0, 0, 0, 0⟩)
abbrev s_BadData___init__ : Stmt := inClass (top 1) 0
abbrev s_BadToken___init__ : Stmt := inClass (top 2) 0
abbrev s_Far___init__ : Stmt := inClass (top 3) 0
abbrev s_is_integer : Stmt := top 6
abbrev s_in_range : Stmt := top 7
abbrev s_is_byte : Stmt := top 8
abbrev s_checked_data : Stmt := top 9
abbrev s_is_token : Stmt := top 14
abbrev s_check_tokens : Stmt := top 15
abbrev s_copy_into : Stmt := top 16
abbrev s_expand : Stmt := top 17
abbrev s__law_bag : Stmt := top 19
abbrev s__law_take : Stmt := top 20
abbrev s__law_one : Stmt := top 21
abbrev s__law_whole : Stmt := top 22
abbrev s__law_token : Stmt := top 23
abbrev s__law_expanded : Stmt := top 24
abbrev s__law_tokens : Stmt := top 25
abbrev s__law_told : Stmt := top 26
abbrev s_law : Stmt := top 27
abbrev sN_BadData___init__ : List Str := ["self", "position"]
abbrev sP_BadData___init__ : List Str := ["self", "position"]
theorem sc_BadData___init__ : FnScope sN_BadData___init__ sP_BadData___init__ (defScope s_BadData___init__) := ⟨rfl, rfl, rfl, by decide +kernel, rfl, by decide +kernel, by decide +kernel⟩
abbrev sN_BadToken___init__ : List Str := ["self", "position"]
abbrev sP_BadToken___init__ : List Str := ["self", "position"]
theorem sc_BadToken___init__ : FnScope sN_BadToken___init__ sP_BadToken___init__ (defScope s_BadToken___init__) := ⟨rfl, rfl, rfl, by decide +kernel, rfl, by decide +kernel, by decide +kernel⟩
abbrev sN_Far___init__ : List Str := ["self", "position"]
abbrev sP_Far___init__ : List Str := ["self", "position"]
theorem sc_Far___init__ : FnScope sN_Far___init__ sP_Far___init__ (defScope s_Far___init__) := ⟨rfl, rfl, rfl, by decide +kernel, rfl, by decide +kernel, by decide +kernel⟩
abbrev sN_is_integer : List Str := ["value"]
abbrev sP_is_integer : List Str := ["value"]
theorem sc_is_integer : FnScope sN_is_integer sP_is_integer (defScope s_is_integer) := ⟨rfl, rfl, rfl, by decide +kernel, rfl, by decide +kernel, by decide +kernel⟩
abbrev sN_in_range : List Str := ["value", "least", "most"]
abbrev sP_in_range : List Str := ["value", "least", "most"]
theorem sc_in_range : FnScope sN_in_range sP_in_range (defScope s_in_range) := ⟨rfl, rfl, rfl, by decide +kernel, rfl, by decide +kernel, by decide +kernel⟩
abbrev sN_is_byte : List Str := ["value"]
abbrev sP_is_byte : List Str := ["value"]
theorem sc_is_byte : FnScope sN_is_byte sP_is_byte (defScope s_is_byte) := ⟨rfl, rfl, rfl, by decide +kernel, rfl, by decide +kernel, by decide +kernel⟩
abbrev sN_checked_data : List Str := ["value", "position", "item"]
abbrev sP_checked_data : List Str := ["value"]
theorem sc_checked_data : FnScope sN_checked_data sP_checked_data (defScope s_checked_data) := ⟨rfl, rfl, rfl, by decide +kernel, rfl, by decide +kernel, by decide +kernel⟩
abbrev sN_is_token : List Str := ["value"]
abbrev sP_is_token : List Str := ["value"]
theorem sc_is_token : FnScope sN_is_token sP_is_token (defScope s_is_token) := ⟨rfl, rfl, rfl, by decide +kernel, rfl, by decide +kernel, by decide +kernel⟩
abbrev sN_check_tokens : List Str := ["tokens", "position", "token"]
abbrev sP_check_tokens : List Str := ["tokens"]
theorem sc_check_tokens : FnScope sN_check_tokens sP_check_tokens (defScope s_check_tokens) := ⟨rfl, rfl, rfl, by decide +kernel, rfl, by decide +kernel, by decide +kernel⟩
abbrev sN_copy_into : List Str := ["row", "token", "length", "distance", "turn"]
abbrev sP_copy_into : List Str := ["row", "token"]
theorem sc_copy_into : FnScope sN_copy_into sP_copy_into (defScope s_copy_into) := ⟨rfl, rfl, rfl, by decide +kernel, rfl, by decide +kernel, by decide +kernel⟩
abbrev sN_expand : List Str := ["tokens", "before", "row", "start", "position", "token"]
abbrev sP_expand : List Str := ["tokens", "before"]
theorem sc_expand : FnScope sN_expand sP_expand (defScope s_expand) := ⟨rfl, rfl, rfl, by decide +kernel, rfl, by decide +kernel, by decide +kernel⟩
abbrev sN__law_bag : List Str := ["_law_script", "_law_at", "_law_cell", "_law_digits"]
abbrev sP__law_bag : List Str := ["_law_script", "_law_at"]
theorem sc__law_bag : FnScope sN__law_bag sP__law_bag (defScope s__law_bag) := ⟨rfl, rfl, rfl, by decide +kernel, rfl, by decide +kernel, by decide +kernel⟩
abbrev sN__law_take : List Str := ["_law_bag_here", "_law_many", "_law_digit"]
abbrev sP__law_take : List Str := ["_law_bag_here", "_law_many"]
theorem sc__law_take : FnScope sN__law_take sP__law_take (defScope s__law_take) := ⟨rfl, rfl, rfl, by decide +kernel, rfl, by decide +kernel, by decide +kernel⟩
abbrev sN__law_one : List Str := ["_law_bag_here", "_law_things"]
abbrev sP__law_one : List Str := ["_law_bag_here", "_law_things"]
theorem sc__law_one : FnScope sN__law_one sP__law_one (defScope s__law_one) := ⟨rfl, rfl, rfl, by decide +kernel, rfl, by decide +kernel, by decide +kernel⟩
abbrev sN__law_whole : List Str := ["_law_value"]
abbrev sP__law_whole : List Str := ["_law_value"]
theorem sc__law_whole : FnScope sN__law_whole sP__law_whole (defScope s__law_whole) := ⟨rfl, rfl, rfl, by decide +kernel, rfl, by decide +kernel, by decide +kernel⟩
abbrev sN__law_token : List Str := ["_law_bag_here", "_law_far", "_law_size"]
abbrev sP__law_token : List Str := ["_law_bag_here", "_law_far"]
theorem sc__law_token : FnScope sN__law_token sP__law_token (defScope s__law_token) := ⟨rfl, rfl, rfl, by decide +kernel, rfl, by decide +kernel, by decide +kernel⟩
abbrev sN__law_expanded : List Str := ["_law_row", "_law_tokens_row", "_law_some", "_law_at", "_law_token_here", "_law_turn"]
abbrev sP__law_expanded : List Str := ["_law_row", "_law_tokens_row"]
theorem sc__law_expanded : FnScope sN__law_expanded sP__law_expanded (defScope s__law_expanded) := ⟨rfl, rfl, rfl, by decide +kernel, rfl, by decide +kernel, by decide +kernel⟩
abbrev sN__law_tokens : List Str := ["_law_bag_here", "_law_known", "_law_row", "_law_size", "_law_turn", "_law_token_here"]
abbrev sP__law_tokens : List Str := ["_law_bag_here", "_law_known"]
theorem sc__law_tokens : FnScope sN__law_tokens sP__law_tokens (defScope s__law_tokens) := ⟨rfl, rfl, rfl, by decide +kernel, rfl, by decide +kernel, by decide +kernel⟩
abbrev sN__law_told : List Str := ["_law_tokens_row", "_law_row", "e"]
abbrev sP__law_told : List Str := ["_law_tokens_row", "_law_row"]
theorem sc__law_told : FnScope sN__law_told sP__law_told (defScope s__law_told) := ⟨rfl, rfl, rfl, by decide +kernel, rfl, by decide +kernel, by decide +kernel⟩
abbrev sN_law : List Str := ["_law_script", "_law_at", "_law_bag_here", "_law_turn", "_law_row", "_law_some", "_law_due", "_law_kept", "_law_told_here"]
abbrev sP_law : List Str := ["_law_script"]
theorem sc_law : FnScope sN_law sP_law (defScope s_law) := ⟨rfl, rfl, rfl, by decide +kernel, rfl, by decide +kernel, by decide +kernel⟩
structure Adr where
  f_BadData___init__ : Addr
  fd_BadData___init__ : FuncData
  f_BadToken___init__ : Addr
  fd_BadToken___init__ : FuncData
  f_Far___init__ : Addr
  fd_Far___init__ : FuncData
  f_is_integer : Addr
  fd_is_integer : FuncData
  f_in_range : Addr
  fd_in_range : FuncData
  f_is_byte : Addr
  fd_is_byte : FuncData
  f_checked_data : Addr
  fd_checked_data : FuncData
  f_is_token : Addr
  fd_is_token : FuncData
  f_check_tokens : Addr
  fd_check_tokens : FuncData
  f_copy_into : Addr
  fd_copy_into : FuncData
  f_expand : Addr
  fd_expand : FuncData
  f__law_bag : Addr
  fd__law_bag : FuncData
  f__law_take : Addr
  fd__law_take : FuncData
  f__law_one : Addr
  fd__law_one : FuncData
  f__law_whole : Addr
  fd__law_whole : FuncData
  f__law_token : Addr
  fd__law_token : FuncData
  f__law_expanded : Addr
  fd__law_expanded : FuncData
  f__law_tokens : Addr
  fd__law_tokens : FuncData
  f__law_told : Addr
  fd__law_told : FuncData
  f_law : Addr
  fd_law : FuncData
  d_expand_before : Addr
  x_BadData : Addr
  x_BadToken : Addr
  x_Far : Addr
  t_MOST_DATA : Tok
  t_LEAST_LENGTH : Tok
  t_MOST_LENGTH : Tok
  t_MOST_DISTANCE : Tok
structure Txt (K : PySem.W.Frag) (mg : Str → Option Value) (A : Adr) : Prop where
  F_BadData___init__ : FunD K "__init__" "BadData.__init__" (defArgs s_BadData___init__) (defBody s_BadData___init__) (defScope s_BadData___init__) [] [] A.f_BadData___init__ A.fd_BadData___init__
  b_BadData___init__ : Binds K A.fd_BadData___init__ sP_BadData___init__ []
  F_BadToken___init__ : FunD K "__init__" "BadToken.__init__" (defArgs s_BadToken___init__) (defBody s_BadToken___init__) (defScope s_BadToken___init__) [] [] A.f_BadToken___init__ A.fd_BadToken___init__
  b_BadToken___init__ : Binds K A.fd_BadToken___init__ sP_BadToken___init__ []
  F_Far___init__ : FunD K "__init__" "Far.__init__" (defArgs s_Far___init__) (defBody s_Far___init__) (defScope s_Far___init__) [] [] A.f_Far___init__ A.fd_Far___init__
  b_Far___init__ : Binds K A.fd_Far___init__ sP_Far___init__ []
  F_is_integer : FunD K "is_integer" "is_integer" (defArgs s_is_integer) (defBody s_is_integer) (defScope s_is_integer) [] [] A.f_is_integer A.fd_is_integer
  b_is_integer : Binds K A.fd_is_integer sP_is_integer []
  m_is_integer : mg "is_integer" = some (.ref A.f_is_integer)
  F_in_range : FunD K "in_range" "in_range" (defArgs s_in_range) (defBody s_in_range) (defScope s_in_range) [] [] A.f_in_range A.fd_in_range
  b_in_range : Binds K A.fd_in_range sP_in_range []
  m_in_range : mg "in_range" = some (.ref A.f_in_range)
  F_is_byte : FunD K "is_byte" "is_byte" (defArgs s_is_byte) (defBody s_is_byte) (defScope s_is_byte) [] [] A.f_is_byte A.fd_is_byte
  b_is_byte : Binds K A.fd_is_byte sP_is_byte []
  m_is_byte : mg "is_byte" = some (.ref A.f_is_byte)
  F_checked_data : FunD K "checked_data" "checked_data" (defArgs s_checked_data) (defBody s_checked_data) (defScope s_checked_data) [] [] A.f_checked_data A.fd_checked_data
  b_checked_data : Binds K A.fd_checked_data sP_checked_data []
  m_checked_data : mg "checked_data" = some (.ref A.f_checked_data)
  F_is_token : FunD K "is_token" "is_token" (defArgs s_is_token) (defBody s_is_token) (defScope s_is_token) [] [] A.f_is_token A.fd_is_token
  b_is_token : Binds K A.fd_is_token sP_is_token []
  m_is_token : mg "is_token" = some (.ref A.f_is_token)
  F_check_tokens : FunD K "check_tokens" "check_tokens" (defArgs s_check_tokens) (defBody s_check_tokens) (defScope s_check_tokens) [] [] A.f_check_tokens A.fd_check_tokens
  b_check_tokens : Binds K A.fd_check_tokens sP_check_tokens []
  m_check_tokens : mg "check_tokens" = some (.ref A.f_check_tokens)
  F_copy_into : FunD K "copy_into" "copy_into" (defArgs s_copy_into) (defBody s_copy_into) (defScope s_copy_into) [] [] A.f_copy_into A.fd_copy_into
  b_copy_into : Binds K A.fd_copy_into sP_copy_into []
  m_copy_into : mg "copy_into" = some (.ref A.f_copy_into)
  F_expand : FunD K "expand" "expand" (defArgs s_expand) (defBody s_expand) (defScope s_expand) [] [("before", .ref A.d_expand_before)] A.f_expand A.fd_expand
  dt_expand_before : ∀ H, SqT K H A.d_expand_before []
  m_expand : mg "expand" = some (.ref A.f_expand)
  F__law_bag : FunD K "_law_bag" "_law_bag" (defArgs s__law_bag) (defBody s__law_bag) (defScope s__law_bag) [] [] A.f__law_bag A.fd__law_bag
  b__law_bag : Binds K A.fd__law_bag sP__law_bag []
  m__law_bag : mg "_law_bag" = some (.ref A.f__law_bag)
  F__law_take : FunD K "_law_take" "_law_take" (defArgs s__law_take) (defBody s__law_take) (defScope s__law_take) [] [] A.f__law_take A.fd__law_take
  b__law_take : Binds K A.fd__law_take sP__law_take []
  m__law_take : mg "_law_take" = some (.ref A.f__law_take)
  F__law_one : FunD K "_law_one" "_law_one" (defArgs s__law_one) (defBody s__law_one) (defScope s__law_one) [] [] A.f__law_one A.fd__law_one
  b__law_one : Binds K A.fd__law_one sP__law_one []
  m__law_one : mg "_law_one" = some (.ref A.f__law_one)
  F__law_whole : FunD K "_law_whole" "_law_whole" (defArgs s__law_whole) (defBody s__law_whole) (defScope s__law_whole) [] [] A.f__law_whole A.fd__law_whole
  b__law_whole : Binds K A.fd__law_whole sP__law_whole []
  m__law_whole : mg "_law_whole" = some (.ref A.f__law_whole)
  F__law_token : FunD K "_law_token" "_law_token" (defArgs s__law_token) (defBody s__law_token) (defScope s__law_token) [] [] A.f__law_token A.fd__law_token
  b__law_token : Binds K A.fd__law_token sP__law_token []
  m__law_token : mg "_law_token" = some (.ref A.f__law_token)
  F__law_expanded : FunD K "_law_expanded" "_law_expanded" (defArgs s__law_expanded) (defBody s__law_expanded) (defScope s__law_expanded) [] [] A.f__law_expanded A.fd__law_expanded
  b__law_expanded : Binds K A.fd__law_expanded sP__law_expanded []
  m__law_expanded : mg "_law_expanded" = some (.ref A.f__law_expanded)
  F__law_tokens : FunD K "_law_tokens" "_law_tokens" (defArgs s__law_tokens) (defBody s__law_tokens) (defScope s__law_tokens) [] [] A.f__law_tokens A.fd__law_tokens
  b__law_tokens : Binds K A.fd__law_tokens sP__law_tokens []
  m__law_tokens : mg "_law_tokens" = some (.ref A.f__law_tokens)
  F__law_told : FunD K "_law_told" "_law_told" (defArgs s__law_told) (defBody s__law_told) (defScope s__law_told) [] [] A.f__law_told A.fd__law_told
  b__law_told : Binds K A.fd__law_told sP__law_told []
  m__law_told : mg "_law_told" = some (.ref A.f__law_told)
  F_law : FunD K "law" "law" (defArgs s_law) (defBody s_law) (defScope s_law) [] [] A.f_law A.fd_law
  b_law : Binds K A.fd_law sP_law []
  m_law : mg "law" = some (.ref A.f_law)
  b1_expand : ∃ ds, Vals [.ref A.d_expand_before] ds ∧ Binds K A.fd_expand sP_expand ds
  kb_expand_1_before : ∃ g, KBn K A.fd_expand sP_expand 1 ["before"] g (fun us ws => [us.getD 0 .non, ws.getD 0 .non])
  kb_expand_0_tokens_before : ∃ g, KBn K A.fd_expand sP_expand 0 ["tokens", "before"] g (fun us ws => [ws.getD 0 .non, ws.getD 1 .non])
  m_MOST_DATA : mg "MOST_DATA" = some (.int 70000 A.t_MOST_DATA)
  m_LEAST_LENGTH : mg "LEAST_LENGTH" = some (.int 3 A.t_LEAST_LENGTH)
  m_MOST_LENGTH : mg "MOST_LENGTH" = some (.int 258 A.t_MOST_LENGTH)
  m_MOST_DISTANCE : mg "MOST_DISTANCE" = some (.int 32768 A.t_MOST_DISTANCE)
  z_ValueError : mg "ValueError" = none
  z_LookupError : mg "LookupError" = none
  z_isinstance : mg "isinstance" = none
  z_int : mg "int" = none
  z_bool : mg "bool" = none
  z_enumerate : mg "enumerate" = none
  z_list : mg "list" = none
  z_len : mg "len" = none
  z_tuple : mg "tuple" = none
  z_range : mg "range" = none
  z_abs : mg "abs" = none
  z_max : mg "max" = none
  z_min : mg "min" = none
  z_repr : mg "repr" = none
  x_BadData : ExB K mg "BadData" "position" A.x_BadData A.f_BadData___init__ "ValueError" "ValueError.__new__" "ValueError.__init__" tl_ValueError
  x_BadToken : ExB K mg "BadToken" "position" A.x_BadToken A.f_BadToken___init__ "ValueError" "ValueError.__new__" "ValueError.__init__" tl_ValueError
  x_Far : ExB K mg "Far" "position" A.x_Far A.f_Far___init__ "LookupError" "LookupError.__new__" "LookupError.__init__" tl_LookupError
  vV_ValueError : PySem.W.findCls K (.type "ValueError") (.type "type") "__init__" = some (.val (.builtin "ValueError.__init__"))
  vV_LookupError : PySem.W.findCls K (.type "LookupError") (.type "type") "__init__" = some (.val (.builtin "LookupError.__init__"))
section
variable {P : Program} {w : World} {K : PySem.W.Frag} {mg : Str → Option Value} {base : Heap} {A : Adr}
/-! ### integers, bytes -/
def sp_is_integer (K : PySem.W.Frag) : Sp := fun vs H Q _ => ∃ x, vs = [x] ∧ Knd K H x ∧ Q (.bl (isInt x)) H
theorem ok_is_integer (T : Txt K mg A) : FnOk P w K mg base CX0 1 A.f_is_integer A.fd_is_integer sP_is_integer (sp_is_integer K) := by
  refine okD T.F_is_integer sc_is_integer (fun vs H Q E h => ?_) (fun cdv Ar outer s H vs Q E hr h => ⟨_, (pss_one (ps_ret ((pe_and (pe_callB call_isi (by rfl) T.z_isinstance (by decide +kernel) (pa_cons (pv 0) (pa_cons (pe_bltn (v := .ty "int") (u := .type "int") (by rfl) T.z_int (by decide +kernel) rfl) pa_nil))) (pe_one (pe_not (pe_callB call_isi (by rfl) T.z_isinstance (by decide +kernel) (pa_cons (pv 0) (pa_cons (pe_bltn (v := .ty "bool") (u := .type "bool") (by rfl) T.z_bool (by decide +kernel) rfl) pa_nil))))))))), ?_⟩)
  · obtain ⟨x, rfl, _⟩ := h
    rfl
  · obtain ⟨x, rfl, hk, k⟩ := h
    obtain ⟨n, b1, b2, ty, e1, e2, e⟩ := hk.ty
    rw [e] at k
    repeat walk_at "z"
    refine ⟨_, _, _, _, b1, rfl, .ty _, ty, kit_ty e1, _, rfl, ?_⟩
    cases b1 with
    | false => exact k
    | true =>
      refine iteT ?_
      repeat walk_at "z"
      exact ⟨_, _, _, _, b2, rfl, .ty _, ty, kit_ty e2, _, rfl, k⟩

def sp_in_range (K : PySem.W.Frag) : Sp := fun vs H Q _ => ∃ x lo hi, vs = [x, .int lo, .int hi] ∧ Knd K H x ∧ Q (.bl (inRange lo hi x)) H
theorem ok_in_range (T : Txt K mg A) : FnOk P w K mg base CX0 2 A.f_in_range A.fd_in_range sP_in_range (sp_in_range K) := by
  refine okD T.F_in_range sc_in_range (fun vs H Q E h => ?_) (fun cdv Ar outer s H vs Q E hr h => ⟨_, (pss_one (ps_ret ((pe_and (pe_call (ok_is_integer T) (hr.mono (by decide)) rfl T.m_is_integer T.F_is_integer.kp T.b_is_integer .nil pass0 (pa_cons (pv 0) pa_nil)) (pe_one (pe_chain op_le op_le (pv 1) (pv 0) (pv 2))))))), ?_⟩)
  · obtain ⟨x, lo, hi, rfl, _⟩ := h
    rfl
  · obtain ⟨x, lo, hi, rfl, hk, k⟩ := h
    repeat walk_at "z"
    refine ⟨_, rfl, hk, _, rfl, ?_⟩
    cases hk with
    | int i =>
      refine iteT ?_
      refine ⟨_, rfl, _, rfl, _, _, rfl, rfl, _, rfl, ?_⟩
      by_cases h1 : lo ≤ i
      · rw [decide_eq_true h1] 
        refine iteT ⟨_, rfl, _, _, rfl, rfl, ?_⟩
        have e : inRange lo hi (.int i) = decide (i ≤ hi) := by simp [inRange, h1]
        rw [e] at k
        exact k
      · rw [decide_eq_false h1]
        have e : inRange lo hi (.int i) = false := by simp [inRange, h1]
        rw [e] at k
        exact iteF k
    | _ => exact iteF k
def sp_is_byte (K : PySem.W.Frag) : Sp := fun vs H Q _ => ∃ x, vs = [x] ∧ Knd K H x ∧ Q (.bl (inRange 0 255 x)) H
theorem ok_is_byte (T : Txt K mg A) : FnOk P w K mg base CX0 3 A.f_is_byte A.fd_is_byte sP_is_byte (sp_is_byte K) := by
  refine okD T.F_is_byte sc_is_byte (fun vs H Q E h => ?_) (fun cdv Ar outer s H vs Q E hr h => ⟨_, (pss_one (ps_ret (pe_call (ok_in_range T) (hr.mono (by decide)) rfl T.m_in_range T.F_in_range.kp T.b_in_range .nil pass0 (pa_cons (pv 0) (pa_cons (pe_int) (pa_cons (pe_int) pa_nil)))))), ?_⟩)
  · obtain ⟨x, rfl, _⟩ := h
    rfl
  · obtain ⟨x, rfl, hk, k⟩ := h
    repeat walk_at "z"
    exact ⟨_, _, _, rfl, hk, k⟩

/-! ### own exceptions are made -/
theorem ok_BadData___init__ (T : Txt K mg A) : FnOk P w K mg base CX0 1 A.f_BadData___init__ A.fd_BadData___init__ sP_BadData___init__ (sp_init K A.x_BadData "position") := by
  refine okD T.F_BadData___init__ sc_BadData___init__ (fun vs H Q E h => ?_) (fun cdv Ar outer s H vs Q E hr h => ⟨_, (pss_cons (ps_expr (pe_beinit (B := "ValueError") (newId := "ValueError.__new__") (initId := "ValueError.__init__") (bmB := tl_ValueError) bx_ValueError.typ bx_ValueError.stub bx_ValueError.hbt bx_ValueError.hh rfl T.z_ValueError T.vV_ValueError (pa_cons (pv 0) (pa_cons (pe_str) pa_nil))))
      (pss_one (ps_bst (B := "ValueError") (newId := "ValueError.__new__") (initId := "ValueError.__init__") (bmB := tl_ValueError) (pv 0) (pv 1)))), ?_⟩)
  · obtain ⟨a, v, rfl, _⟩ := h
    rfl
  · obtain ⟨a, v, rfl, ha, k⟩ := h
    walk_at "zy"
    refine ⟨a, A.x_BadData, _, rfl, by simp, T.x_BadData.oex, ha, ?_⟩
    walk_at "zy"
    exact ⟨a, A.x_BadData, rfl, T.x_BadData.oex, T.x_BadData.no, ha, fun d h1 h2 => k d h1 h2⟩
theorem ok_BadToken___init__ (T : Txt K mg A) : FnOk P w K mg base CX0 1 A.f_BadToken___init__ A.fd_BadToken___init__ sP_BadToken___init__ (sp_init K A.x_BadToken "position") := by
  refine okD T.F_BadToken___init__ sc_BadToken___init__ (fun vs H Q E h => ?_) (fun cdv Ar outer s H vs Q E hr h => ⟨_, (pss_cons (ps_expr (pe_beinit (B := "ValueError") (newId := "ValueError.__new__") (initId := "ValueError.__init__") (bmB := tl_ValueError) bx_ValueError.typ bx_ValueError.stub bx_ValueError.hbt bx_ValueError.hh rfl T.z_ValueError T.vV_ValueError (pa_cons (pv 0) (pa_cons (pe_str) pa_nil))))
      (pss_one (ps_bst (B := "ValueError") (newId := "ValueError.__new__") (initId := "ValueError.__init__") (bmB := tl_ValueError) (pv 0) (pv 1)))), ?_⟩)
  · obtain ⟨a, v, rfl, _⟩ := h
    rfl
  · obtain ⟨a, v, rfl, ha, k⟩ := h
    walk_at "zy"
    refine ⟨a, A.x_BadToken, _, rfl, by simp, T.x_BadToken.oex, ha, ?_⟩
    walk_at "zy"
    exact ⟨a, A.x_BadToken, rfl, T.x_BadToken.oex, T.x_BadToken.no, ha, fun d h1 h2 => k d h1 h2⟩
theorem ok_Far___init__ (T : Txt K mg A) : FnOk P w K mg base CX0 1 A.f_Far___init__ A.fd_Far___init__ sP_Far___init__ (sp_init K A.x_Far "position") := by
  refine okD T.F_Far___init__ sc_Far___init__ (fun vs H Q E h => ?_) (fun cdv Ar outer s H vs Q E hr h => ⟨_, (pss_cons (ps_expr (pe_beinit (B := "LookupError") (newId := "LookupError.__new__") (initId := "LookupError.__init__") (bmB := tl_LookupError) bx_LookupError.typ bx_LookupError.stub bx_LookupError.hbt bx_LookupError.hh rfl T.z_LookupError T.vV_LookupError (pa_cons (pv 0) (pa_cons (pe_str) pa_nil))))
      (pss_one (ps_bst (B := "LookupError") (newId := "LookupError.__new__") (initId := "LookupError.__init__") (bmB := tl_LookupError) (pv 0) (pv 1)))), ?_⟩)
  · obtain ⟨a, v, rfl, _⟩ := h
    rfl
  · obtain ⟨a, v, rfl, ha, k⟩ := h
    walk_at "zy"
    refine ⟨a, A.x_Far, _, rfl, by simp, T.x_Far.oex, ha, ?_⟩
    walk_at "zy"
    exact ⟨a, A.x_Far, rfl, T.x_Far.oex, T.x_Far.no, ha, fun d h1 h2 => k d h1 h2⟩

/-! ### data that may be refused -/
def Byt (ns : List Int) : Prop := ∀ n ∈ ns, 0 ≤ n ∧ n ≤ 255
def NoSeq (G : Hp) (x : V) : Prop := x = .non ∨ (∃ s, x = .str s) ∨ ∃ a kvs, x = .ref a ∧ G a = some (.dK kvs)
theorem isiNo {p : Addr} {G H : Hp} {W : Wl} {x : V} {Q : VK} (w : Wd G W H) (hp : H p = some (.tup [.ty "list", .ty "tuple"])) (h : NoSeq G x) (q : Q (.bl false) H) : rIsiT K [x, .ref p] H Q := by
  rcases h with rfl | ⟨s, rfl⟩ | ⟨a, kvs, rfl, ha⟩
  · exact ⟨_, p, _, _, _, false, rfl, hp, .cons (.ty _) (.cons (.ty _) .nil), .base .non, kB (r := false) (by decide +kernel) (fun _ => kB (r := false) (by decide +kernel) (fun _ => rfl) (fun h => nomatch h)) (fun h => nomatch h), q⟩
  · exact ⟨_, p, _, _, _, false, rfl, hp, .cons (.ty _) (.cons (.ty _) .nil), .base (.str s), kB (r := false) (by decide +kernel) (fun _ => kB (r := false) (by decide +kernel) (fun _ => rfl) (fun h => nomatch h)) (fun h => nomatch h), q⟩
  · exact ⟨_, p, _, _, _, false, rfl, hp, .cons (.ty _) (.cons (.ty _) .nil), .base (.dK (w.at ha)), kB (r := false) (by decide +kernel) (fun _ => kB (r := false) (by decide +kernel) (fun _ => rfl) (fun h => nomatch h)) (fun h => nomatch h), q⟩
/-- the way out: a BadData whose position is i -/
def Out (C : Addr) (G : Hp) (W : Wl) (i : Int) (E : XK) : Prop := ∀ d G' H', Same G G' → Wd G' W H' → G' d = some (.xd [("position", .int i)]) → E (.ref C) (some d) H'
def OkD (K : PySem.W.Frag) (G : Hp) (x : V) (ns : List Int) : Prop := ∃ a, x = .ref a ∧ (SqL K G a (ns.map V.int) ∨ SqT K G a (ns.map V.int)) ∧ Byt ns ∧ ns.length ≤ 70000
def BadAt (K : PySem.W.Frag) (G : Hp) (x : V) (i : Nat) : Prop := ∃ a xs y, x = .ref a ∧ SqL K G a xs ∧ xs.length ≤ 70000 ∧ xs[i]? = some y ∧ (∀ G' H' W, Same G G' → Wd G' W H' → Knd K H' y) ∧ inRange 0 255 y = false ∧ ∀ j z, j < i → xs[j]? = some z → ∃ n : Int, z = .int n ∧ 0 ≤ n ∧ n ≤ 255
def sp_checked_data (K : PySem.W.Frag) (C : Addr) : Sp := fun vs H Q E => ∃ (G : Hp) (W : Wl) (x : V), Wd G W H ∧ vs = [x] ∧
  ((∃ ns, OkD K G x ns ∧ ∀ p G' H', Same G G' → Wd G' ((p, Is (.lst (ns.map V.int))) :: W) H' → Q (.ref p) H') ∨ (NoSeq G x ∧ Out C G W (-1) E) ∨ ∃ i : Nat, BadAt K G x i ∧ Out C G W i E)
theorem ok_checked_data (T : Txt K mg A) : FnOk P w K mg base (L2.CX P w) 4 A.f_checked_data A.fd_checked_data sP_checked_data (sp_checked_data K A.x_BadData) := by
  refine okX T.F_checked_data sc_checked_data (fun vs H Q E h => ?_) (fun cdv Ar outer s H vs Q E hr h => ⟨_, (pss_cons (ps_if (PW.pt (pw_or (pt_not (pt_val (pe_callB call_isiT (by rfl) T.z_isinstance (by decide +kernel) (pa_cons (pv 0) (pa_cons (pe_tup (pa_cons (pe_bltn (v := .ty "list") (u := .type "list") (by rfl) T.z_list (by decide +kernel) rfl) (pa_cons (pe_bltn (v := .ty "tuple") (u := .type "tuple") (by rfl) T.z_tuple (by decide +kernel) rfl) pa_nil))) pa_nil))))) (pw_or1 (pt_cmpR op_gt (pe_callB call_len_seq (by rfl) T.z_len PySem.boot_len (pa_cons (pv 0) pa_nil)) (pe_glob (v := .int 70000) rfl T.m_MOST_DATA ⟨_, rfl⟩) (nomark _))))) (pss_one (ps_raise rfl (takes_of rfl rfl rfl rfl) (pmk_bex T.x_BadData.oex T.x_BadData.iC T.x_BadData.tI (ok_BadData___init__ T) (hr.mono (by decide)) T.b_BadData___init__ .nil pass0 rfl T.x_BadData.gC (pa_cons (pe_un un_neg (pe_int)) pa_nil)))) pss_nil)
      (pss_cons (ps_for (passes_of rfl) rfl (pi_enumA (by rfl) T.z_enumerate (pa_cons (pv 0) pa_nil)) (pg_tup rfl (pgs_cons (pg_name (i := 1) sc_checked_data.nd rfl (Or.inl rfl)) (pgs_cons (pg_name (i := 2) sc_checked_data.nd rfl (Or.inl rfl)) pgs_nil))) (pss_one (ps_if (pt_not (pt_val (pe_call (ok_is_byte T) (hr.mono (by decide)) rfl T.m_is_byte T.F_is_byte.kp T.b_is_byte .nil pass0 (pa_cons (pv 2) pa_nil)))) (pss_one (ps_raise rfl (takes_of rfl rfl rfl rfl) (pmk_bex T.x_BadData.oex T.x_BadData.iC T.x_BadData.tI (ok_BadData___init__ T) (hr.mono (by decide)) T.b_BadData___init__ .nil pass0 rfl T.x_BadData.gC (pa_cons (pv 1) pa_nil)))) pss_nil)))
      (pss_one (ps_ret (pe_callTy call_list_of (by rfl) T.z_list (by decide +kernel) (pa_cons (pv 0) pa_nil)))))), ?_⟩)
  · obtain ⟨G, W, x, _, rfl, _⟩ := h
    rfl
  · obtain ⟨G, W, x, w, rfl, h⟩ := h
    walk_at "zz"
    refine ⟨by decide, NewO.good w fun p G1 H1 e1 w1 hp => ?_⟩
    walk_at "zz"
    rcases h with ⟨ns, ⟨a, rfl, ha, hb, hl⟩, k⟩ | ⟨hx, k⟩ | ⟨i, ⟨a, xs, y, rfl, ha, hl, hy, hk, hyb, hj⟩, k⟩
    · refine isiSeq (w1.at hp) (ha.elim (fun h => .inl (by walk_at "up")) fun h => .inr (by walk_at "up")) ?_
      walk_at "zz"
      refine ⟨_, _, rfl, ha.elim (fun h => .inl (by walk_at "up")) (fun h => .inr (by walk_at "up")), ?_⟩
      walk_at "zz"
      rw [decide_eq_false (show ¬ (70000 < ((ns.map V.int).length : Int)) by rw [List.length_map]; omega)]
      walk_at "zz"
      refine for_enumA (i1 := 1) (i2 := 2) (ha.elim (fun h => .inl (e1.seq h)) fun h => .inr (seqT e1 h)) (fun i σ G' W' => W' = W ∧ ∃ x y, σ = [some (.ref a), x, y]) w1 ⟨rfl, _, _, rfl⟩ ?_ ?_
      · rintro i x σ' G2 G3 W' H3 hx e2 ⟨rfl, x1, x2, rfl⟩ e3 w3
        obtain ⟨n, _, rfl, hn⟩ := getI hx
        walk_at "zz"
        refine ⟨_, rfl, .int n, ?_⟩
        rw [show inRange 0 255 (.int n) = true by have := hb n hn; simp [inRange, this]]
        walk_at "zz"
        exact st_btw (by walk_at "sm") w3 ⟨rfl, _, _, rfl⟩
      · rintro σ' G2 W' H3 e2 w2 ⟨rfl, x1, x2, rfl⟩
        walk_at "zz"
        exact ⟨_, _, rfl, ha.elim (fun h => .inl (by walk_at "up")) (fun h => .inr (by walk_at "up")), fun l hn => k l G2 _ (by walk_at "sm") (w2.newM hn rfl)⟩
    · have hx1 : NoSeq G1 x := hx.imp id (Or.imp id fun ⟨a, kvs, h1, h2⟩ => ⟨a, kvs, h1, e1 _ _ h2⟩)
      refine isiNo w1 (w1.at hp) hx1 ?_
      walk_at "zz"
      walk_at "zx"
      exact ⟨by simp, fun b hb => mk_done w1 (fun d G' H' e w hd => k d G' H' (e1.trans e) w hd) b hb⟩
    · refine isiSeq (w1.at hp) (.inl (by walk_at "up")) ?_
      walk_at "zz"
      refine ⟨_, _, rfl, .inl (by walk_at "up"), ?_⟩
      walk_at "zz"
      rw [decide_eq_false (show ¬ (70000 < (xs.length : Int)) by omega)]
      walk_at "zz"
      have hil : i < xs.length := by
        rcases Nat.lt_or_ge i xs.length with h | h
        · exact h
        · rw [List.getElem?_eq_none h] at hy
          exact nomatch hy
      refine for_enumA (i1 := 1) (i2 := 2) (.inl (e1.seq ha)) (fun j σ G' W' => j ≤ i ∧ W' = W ∧ ∃ x y, σ = [some (.ref a), x, y]) w1 ⟨Nat.zero_le _, rfl, _, _, rfl⟩ ?_ ?_
      · rintro j z σ' G2 G3 W' H3 hz e2 ⟨hji, rfl, x1, x2, rfl⟩ e3 w3
        walk_at "zz"
        by_cases hlt : j < i
        · obtain ⟨n, rfl, hn⟩ := hj j z hlt hz
          refine ⟨_, rfl, .int n, ?_⟩
          rw [show inRange 0 255 (.int n) = true by simp [inRange, hn]]
          walk_at "zz"
          exact st_btw (by walk_at "sm") w3 ⟨hlt, rfl, _, _, rfl⟩
        · obtain rfl : j = i := by omega
          rw [hy] at hz
          cases hz
          refine ⟨_, rfl, hk G3 _ _ ((e1.trans e2).trans e3) w3, ?_⟩
          rw [hyb]
          walk_at "zx"
          exact ⟨by simp, fun b hb => mk_done w3 (fun d G' H' e w hd => k d G' H' (((e1.trans e2).trans e3).trans e) w hd) b hb⟩
      · rintro σ' G2 W' H3 e2 w2 ⟨hji, rfl, x1, x2, rfl⟩
        omega

/-! ### draws -/
def BagI : HO → Prop := fun o => ∃ x y z : Int, o = .lst [.int x, .int y, .int z] ∧ 0 ≤ x ∧ 0 ≤ y ∧ y ≤ 2147483600
def sp_take : Sp := fun vs H Q _ => ∃ G W b m, Wd G W H ∧ (b, BagI) ∈ W ∧ vs = [.ref b, .int m] ∧ 0 < m ∧ m < 1073741824 ∧ ∀ r H', 0 ≤ r → r < m → Wd G W H' → Q (.int r) H'
theorem ok__law_take (T : Txt K mg A) : FnOk P w K mg base CX0 1 A.f__law_take A.fd__law_take sP__law_take sp_take := by
  refine okD T.F__law_take sc__law_take (fun vs H Q E h => ?_) (fun cdv Ar outer s H vs Q E hr h => ⟨_, (pss_cons (ps_if (pt_cmpR op_gt (pe_ix ix_list (pv 0) (pe_int) (fun _ _ => rfl)) (pe_int) (nomark _)) (pss_cons (ps_set (i := 2) sc__law_take.nd rfl (Or.inl rfl) (pe_op op_mod (pe_ix ix_list (pv 0) (pe_int) (fun _ _ => rfl)) (pv 1)))
      (pss_cons (ps_asg (pe_op op_fdiv (pe_ix ix_list (pv 0) (pe_int) (fun _ _ => rfl)) (pv 1)) (pg_sub (pv 0) (pe_int) set_list))
      (pss_one (ps_ret (pv 2))))) pss_nil)
      (pss_cons (ps_asg (pe_op op_add (pe_ix ix_list (pv 0) (pe_int) (fun _ _ => rfl)) (pe_int)) (pg_sub (pv 0) (pe_int) set_list))
      (pss_cons (ps_asg (pe_op op_add (pe_op op_mod (pe_op op_add (pe_op op_mul (pe_ix ix_list (pv 0) (pe_int) (fun _ _ => rfl)) (pe_int)) (pe_op op_mul (pe_int) (pe_ix ix_list (pv 0) (pe_int) (fun _ _ => rfl)))) (pe_int)) (pe_int)) (pg_sub (pv 0) (pe_int) set_list))
      (pss_one (ps_ret (pe_op op_mod (pe_op op_fdiv (pe_op op_mod (pe_op op_mul (pe_ix ix_list (pv 0) (pe_int) (fun _ _ => rfl)) (pe_op op_add (pe_op op_fdiv (pe_ix ix_list (pv 0) (pe_int) (fun _ _ => rfl)) (pe_int)) (pe_int))) (pe_int)) (pe_int)) (pv 1))))))), ?_⟩)
  · obtain ⟨G, W, b, m, _, _, rfl, _⟩ := h
    rfl
  · obtain ⟨G, W, b, m, w, hm, rfl, h0, h1, k⟩ := h
    obtain ⟨o, hb, x, y, z, rfl, hx, hy, hy2⟩ := w.get hm
    walk_at "zz"
    refine st_ixL (SqL.of hb) rfl ?_
    walk_at "zz"
    by_cases hx0 : 0 < x
    · rw [decide_eq_true hx0]
      refine iteT ?_
      walk_at "zz"
      refine st_ixL (SqL.of hb) rfl ?_
      walk_at "zz"
      refine st_ixL (SqL.of hb) rfl ?_
      walk_at "zz"
      refine st_setL hb rfl ?_
      walk_at "zz"
      refine k _ _ (Int.emod_nonneg _ (by omega)) (Int.emod_lt_of_pos _ h0) (w.put' hm ⟨_, _, _, rfl, Int.ediv_nonneg hx (by omega), hy, hy2⟩)
    · rw [decide_eq_false hx0]
      refine iteF ?_
      walk_at "zz"
      refine st_ixL (SqL.of hb) rfl ?_
      walk_at "zz"
      refine st_setL hb rfl ?_
      walk_at "zz"
      refine st_ixL (SqL.of upd_same) rfl ?_
      walk_at "zz"
      refine st_ixL (SqL.of upd_same) rfl ?_
      walk_at "zz"
      refine st_setL upd_same rfl ?_
      walk_at "zz"
      refine st_ixL (SqL.of upd_same) rfl ?_
      walk_at "zz"
      refine st_ixL (SqL.of upd_same) rfl ?_
      walk_at "zz"
      refine k _ _ (Int.emod_nonneg _ (by omega)) (Int.emod_lt_of_pos _ h0) ((w.put' hm ⟨_, _, _, rfl, hx, hy, hy2⟩).put' hm ⟨_, _, _, rfl, hx, ?_, ?_⟩) <;> omega
def sp_bag (K : PySem.W.Frag) : Sp := fun vs H Q _ => ∃ (G : Hp) (W : Wl) (a : Addr) (ns : List Int) (i : Int), Wd G W H ∧ vs = [.ref a, .int i] ∧ SqL K G a (ns.map V.int) ∧ 0 ≤ i ∧ i < 1000000 ∧ ∀ p H', Wd G ((p, BagI) :: W) H' → Q (.ref p) H'
theorem ok__law_bag (T : Txt K mg A) : FnOk P w K mg base CX0 1 A.f__law_bag A.fd__law_bag sP__law_bag (sp_bag K) := by
  refine okD T.F__law_bag sc__law_bag (fun vs H Q E h => ?_) (fun cdv Ar outer s H vs Q E hr h => ⟨_, (pss_cons (ps_set (i := 2) sc__law_bag.nd rfl (Or.inl rfl) (pe_int))
      (pss_cons (ps_if (pt_cmpR op_lt (pv 1) (pe_callB call_len_seq (by rfl) T.z_len PySem.boot_len (pa_cons (pv 0) pa_nil)) (nomark _)) (pss_one (ps_set (i := 2) sc__law_bag.nd rfl (Or.inl rfl) (pe_ix ix_list (pv 0) (pv 1) (fun _ _ => rfl)))) pss_nil)
      (pss_cons (ps_set (i := 3) sc__law_bag.nd rfl (Or.inl rfl) (pe_op op_mul (pe_callB call_abs (by rfl) T.z_abs (by decide +kernel) (pa_cons (pv 2) pa_nil)) (pe_callTy call_int1 (by rfl) T.z_int (by decide +kernel) (pa_cons (pe_cmpR op_ge (pe_callB call_abs (by rfl) T.z_abs (by decide +kernel) (pa_cons (pv 2) pa_nil)) (pe_op op_powW (pe_int) (pe_int)) (nomark _)) pa_nil))))
      (pss_one (ps_ret (pe_lst (pa_cons (pv 3) (pa_cons (pe_op op_add (pe_op op_mod (pe_op op_add (pe_op op_add (pe_op op_mul (pe_op op_mod (pv 2) (pe_int)) (pe_int)) (pe_op op_mul (pe_int) (pv 1))) (pe_int)) (pe_int)) (pe_int)) (pa_cons (pe_int) pa_nil))))))))), ?_⟩)
  · obtain ⟨G, W, a, ns, i, _, rfl, _⟩ := h
    rfl
  · obtain ⟨G, W, a, ns, i, w, rfl, ha, h0, h1, k⟩ := h
    walk_at "zz"
    refine ⟨_, _, rfl, .inl (by walk_at "up"), ?_⟩
    walk_at "zz"
    by_cases hi : i < ((ns.map V.int).length : Int)
    case' pos =>
      rw [decide_eq_true hi]
      refine iteT ?_
      walk_at "zz"
      obtain ⟨n, hn⟩ : ∃ n, ns[i.toNat]? = some n := ⟨_, List.getElem?_eq_getElem (by rw [List.length_map] at hi; omega)⟩
      refine st_ixL (v := .int n) (by walk_at "up") (by rw [show i = (i.toNat : Int) by omega]; exact atI_nat (by rw [List.getElem?_map, hn]; rfl)) ?_
    case' neg =>
      rw [decide_eq_false hi]
      refine iteF ?_
    all_goals
      walk_at "zz"
      refine ⟨_, rfl, ?_⟩
      walk_at "zz"
      refine ⟨_, rfl, ?_⟩
      walk_at "zz"
      refine .inr ⟨_, rfl, ?_⟩
      refine st_i (.inr (by split <;> omega)) ?_
      walk_at "zz"
      refine ⟨small (by simp), fun p hp => k p _ (w.newM hp ⟨_, _, _, rfl, ?_, ?_, ?_⟩)⟩
      · refine Int.mul_nonneg ?_ ?_
        · split <;> omega
        · split <;> omega
      all_goals omega

/-! ### what a token is -/
def sp_one (K : PySem.W.Frag) : Sp := fun vs H Q _ => ∃ (G : Hp) (W : Wl) (b a : Addr) (xs : List V), Wd G W H ∧ (b, BagI) ∈ W ∧ vs = [.ref b, .ref a] ∧ SqL K G a xs ∧ 0 < xs.length ∧ xs.length < 1000 ∧ ∀ v H', v ∈ xs → Wd G W H' → Q v H'
theorem ok__law_one (T : Txt K mg A) : FnOk P w K mg base CX0 2 A.f__law_one A.fd__law_one sP__law_one (sp_one K) := by
  refine okD T.F__law_one sc__law_one (fun vs H Q E h => ?_) (fun cdv Ar outer s H vs Q E hr h => ⟨_, (pss_one (ps_ret (pe_ix ix_list (pv 1) (pe_call (ok__law_take T) (hr.mono (by decide)) rfl T.m__law_take T.F__law_take.kp T.b__law_take .nil pass0 (pa_cons (pv 0) (pa_cons (pe_callB call_len_seq (by rfl) T.z_len PySem.boot_len (pa_cons (pv 1) pa_nil)) pa_nil))) (fun _ _ => rfl)))), ?_⟩)
  · obtain ⟨G, W, b, a, xs, _, _, rfl, _⟩ := h
    rfl
  · obtain ⟨G, W, b, a, xs, w, hm, rfl, ha, h0, h1, k⟩ := h
    walk_at "zz"
    refine ⟨_, _, rfl, .inl (by walk_at "up"), ?_⟩
    walk_at "zz"
    refine ⟨G, W, b, _, w, hm, rfl, by omega, by omega, fun r H1 hr0 hr1 w1 => ?_⟩
    obtain ⟨v, hv⟩ : ∃ v, xs[r.toNat]? = some v := ⟨_, List.getElem?_eq_getElem (by omega)⟩
    refine st_ixL (v := v) (by walk_at "up") (by rw [show r = (r.toNat : Int) by omega]; exact atI_nat hv) ?_
    exact k v H1 (List.mem_of_getElem? hv) w1

def tokB : PyData → Bool
  | .tuple [a, b] => inR 3 258 a && inR 1 32768 b
  | d => inR 0 255 d
def sp_is_token (K : PySem.W.Frag) : Sp := fun vs H Q _ => ∃ x d, vs = [x] ∧ Dp K H x d ∧ Q (.bl (tokB d)) H
theorem inR_seq {lo hi : Int} {d : PyData} (h : isTup d = true) : inR lo hi d = false := by
  cases d with
  | tuple _ => rfl
  | _ => exact nomatch h
theorem tok_no {d : PyData} (h1 : inR 0 255 d = false) (h2 : isTup d = false) : tokB d = false := by
  cases d with
  | tuple _ => exact nomatch h2
  | _ => exact h1
theorem tok_len {ds : List PyData} (h : ds.length ≠ 2) : tokB (.tuple ds) = false := by
  match ds, h with
  | [], _ => rfl
  | [_], _ => rfl
  | [_, _], h => exact absurd rfl h
  | _ :: _ :: _ :: _, _ => rfl
theorem dpAll_len {H : Hp} : ∀ {xs : List V} {ds : List PyData}, DpAll K H xs ds → xs.length = ds.length
  | _, _, .nil => rfl
  | _, _, .cons _ t => by rw [List.length_cons, List.length_cons, dpAll_len t]
theorem two_of {H : Hp} {xs : List V} {ds : List PyData} (h : DpAll K H xs ds) (hl : ds.length = 2) : ∃ x1 x2 d1 d2, xs = [x1, x2] ∧ ds = [d1, d2] ∧ Dp K H x1 d1 ∧ Dp K H x2 d2 := by
  cases h with
  | nil => exact nomatch hl
  | cons a h =>
    cases h with
    | nil => exact nomatch hl
    | cons b h =>
      cases h with
      | nil => exact ⟨_, _, _, _, rfl, rfl, a, b⟩
      | cons c h =>
        rw [List.length_cons, List.length_cons, List.length_cons] at hl
        omega
theorem ok_is_token (T : Txt K mg A) : FnOk P w K mg base CX0 4 A.f_is_token A.fd_is_token sP_is_token (sp_is_token K) := by
  refine okD T.F_is_token sc_is_token (fun vs H Q E h => ?_) (fun cdv Ar outer s H vs Q E hr h => ⟨_, (pss_cons (ps_if (pt_val (pe_call (ok_is_byte T) (hr.mono (by decide)) rfl T.m_is_byte T.F_is_byte.kp T.b_is_byte .nil pass0 (pa_cons (pv 0) pa_nil))) (pss_one (ps_ret (pe_bl))) pss_nil)
      (pss_cons (ps_if (PW.pt (pw_or (pt_not (pt_val (pe_callB call_isi (by rfl) T.z_isinstance (by decide +kernel) (pa_cons (pv 0) (pa_cons (pe_bltn (v := .ty "tuple") (u := .type "tuple") (by rfl) T.z_tuple (by decide +kernel) rfl) pa_nil))))) (pw_or1 (pt_cmpR op_ne (pe_callB call_len_seq (by rfl) T.z_len PySem.boot_len (pa_cons (pv 0) pa_nil)) (pe_int) (nomark _))))) (pss_one (ps_ret (pe_bl))) pss_nil)
      (pss_one (ps_ret ((pe_and (pe_call (ok_in_range T) (hr.mono (by decide)) rfl T.m_in_range T.F_in_range.kp T.b_in_range .nil pass0 (pa_cons (pe_ix ix_tup (pv 0) (pe_int) (fun _ _ => rfl)) (pa_cons (pe_glob (v := .int 3) rfl T.m_LEAST_LENGTH ⟨_, rfl⟩) (pa_cons (pe_glob (v := .int 258) rfl T.m_MOST_LENGTH ⟨_, rfl⟩) pa_nil)))) (pe_one (pe_call (ok_in_range T) (hr.mono (by decide)) rfl T.m_in_range T.F_in_range.kp T.b_in_range .nil pass0 (pa_cons (pe_ix ix_tup (pv 0) (pe_int) (fun _ _ => rfl)) (pa_cons (pe_int) (pa_cons (pe_glob (v := .int 32768) rfl T.m_MOST_DISTANCE ⟨_, rfl⟩) pa_nil))))))))))), ?_⟩)
  · obtain ⟨x, d, rfl, _⟩ := h
    rfl
  · obtain ⟨x, d, rfl, hd, k⟩ := h
    walk_at "zz"
    refine ⟨x, rfl, dp_knd hd, ?_⟩
    rw [inRange_d hd]
    cases h1 : inR 0 255 d with
    | true =>
      have e : tokB d = true := by
        cases d with
        | int i => exact h1
        | _ => exact nomatch h1
      rw [e] at k
      walk_at "zz"
      exact k
    | false =>
      walk_at "zz"
      refine isiD hd kit_tup ⟨_, rfl, ?_⟩
      cases h2 : isTup d with
      | false =>
        rw [tok_no h1 h2] at k
        walk_at "zz"
        exact k
      | true =>
        cases hd with
        | tup hs hall =>
          rename_i a xs ds
          walk_at "zz"
          refine ⟨_, _, rfl, .inr hs, ?_⟩
          walk_at "zz"
          by_cases hl : ds.length = 2
          · obtain ⟨x1, x2, d1, d2, rfl, rfl, y1, y2⟩ := two_of hall hl
            · walk_at "zz"
              rw [show decide (V.int (([x1, x2] : List V).length : Int) = V.int 2) = true by rfl]
              walk_at "zz"
              refine st_ixT (v := x1) hs rfl ?_
              walk_at "zz"
              refine ⟨x1, _, _, rfl, dp_knd y1, ?_⟩
              rw [inRange_d y1]
              have e : tokB (.tuple [d1, d2]) = (inR 3 258 d1 && inR 1 32768 d2) := rfl
              rw [e] at k
              cases h3 : inR 3 258 d1 with
              | false =>
                rw [h3] at k
                walk_at "zz"
                exact k
              | true =>
                rw [h3] at k
                walk_at "zz"
                refine st_ixT (v := x2) hs rfl ?_
                walk_at "zz"
                refine ⟨x2, _, _, rfl, dp_knd y2, ?_⟩
                rw [inRange_d y2]
                exact k
          · rw [tok_len hl] at k
            rw [decide_eq_false (show ¬ V.int (xs.length : Int) = V.int 2 from fun e => hl (by injection e with e; rw [dpAll_len hall] at e; omega))]
            walk_at "zz"
            exact k
        | _ => exact nomatch h2

def sp_whole (K : PySem.W.Frag) : Sp := fun vs H Q _ => ∃ x, vs = [x] ∧ Knd K H x ∧ Q (.bl (isInt x)) H
theorem ok__law_whole (T : Txt K mg A) : FnOk P w K mg base CX0 1 A.f__law_whole A.fd__law_whole sP__law_whole (sp_whole K) := by
  refine okD T.F__law_whole sc__law_whole (fun vs H Q E h => ?_) (fun cdv Ar outer s H vs Q E hr h => ⟨_, (pss_one (ps_ret ((pe_and (pe_callB call_isi (by rfl) T.z_isinstance (by decide +kernel) (pa_cons (pv 0) (pa_cons (pe_bltn (v := .ty "int") (u := .type "int") (by rfl) T.z_int (by decide +kernel) rfl) pa_nil))) (pe_one (pe_not (pe_callB call_isi (by rfl) T.z_isinstance (by decide +kernel) (pa_cons (pv 0) (pa_cons (pe_bltn (v := .ty "bool") (u := .type "bool") (by rfl) T.z_bool (by decide +kernel) rfl) pa_nil))))))))), ?_⟩)
  · obtain ⟨x, rfl, _⟩ := h
    rfl
  · obtain ⟨x, rfl, hk, k⟩ := h
    obtain ⟨n, b1, b2, ty, e1, e2, e⟩ := hk.ty
    rw [e] at k
    repeat walk_at "z"
    refine ⟨_, _, _, _, b1, rfl, .ty _, ty, kit_ty e1, _, rfl, ?_⟩
    cases b1 with
    | false => 
      walk_at "zz"
      exact k
    | true =>
      walk_at "zz"
      exact ⟨_, _, _, _, b2, rfl, .ty _, ty, kit_ty e2, _, rfl, k⟩

/-- a token that was drawn: as far as m -/
def TokM (m : Int) (d : PyData) : Prop := (∃ i, d = .int i ∧ 0 ≤ i ∧ i ≤ 255) ∨ ∃ s f, d = .tuple [.int s, .int f] ∧ 3 ≤ s ∧ s ≤ 258 ∧ 1 ≤ f ∧ f ≤ m
def sp_token (K : PySem.W.Frag) : Sp := fun vs H Q _ => ∃ (G : Hp) (W : Wl) (b : Addr) (m : Int), Wd G W H ∧ (b, BagI) ∈ W ∧ vs = [.ref b, .int m] ∧ 0 < m ∧ m ≤ 32768 ∧ ∀ v d G' H', Same G G' → Wd G' W H' → Dp K G' v d → TokM m d → Q v H'
theorem ok__law_token (T : Txt K mg A) : FnOk P w K mg base CX0 3 A.f__law_token A.fd__law_token sP__law_token (sp_token K) := by
  refine okD T.F__law_token sc__law_token (fun vs H Q E h => ?_) (fun cdv Ar outer s H vs Q E hr h => ⟨_, (pss_cons (ps_if (pt_cmpR op_eq (pe_call (ok__law_take T) (hr.mono (by decide)) rfl T.m__law_take T.F__law_take.kp T.b__law_take .nil pass0 (pa_cons (pv 0) (pa_cons (pe_int) pa_nil))) (pe_int) (nomark _)) (pss_one (ps_ret (pe_call (ok__law_take T) (hr.mono (by decide)) rfl T.m__law_take T.F__law_take.kp T.b__law_take .nil pass0 (pa_cons (pv 0) (pa_cons (pe_int) pa_nil))))) pss_nil)
      (pss_cons (ps_set (i := 2) sc__law_token.nd rfl (Or.inl rfl) (pe_call (ok__law_one T) (hr.mono (by decide)) rfl T.m__law_one T.F__law_one.kp T.b__law_one .nil pass0 (pa_cons (pv 0) (pa_cons (pe_lst (pa_cons (pe_int) (pa_cons (pe_int) (pa_cons (pe_int) (pa_cons (pe_int) (pa_cons (pe_int) (pa_cons (pe_int) (pa_cons (pe_int) (pa_cons (pe_int) (pa_cons (pe_op op_add (pe_int) (pe_call (ok__law_take T) (hr.mono (by decide)) rfl T.m__law_take T.F__law_take.kp T.b__law_take .nil pass0 (pa_cons (pv 0) (pa_cons (pe_int) pa_nil)))) pa_nil)))))))))) pa_nil))))
      (pss_one (ps_ret (pe_tup (pa_cons (pv 2) (pa_cons (pe_op op_add (pe_int) (pe_call (ok__law_take T) (hr.mono (by decide)) rfl T.m__law_take T.F__law_take.kp T.b__law_take .nil pass0 (pa_cons (pv 0) (pa_cons (pv 1) pa_nil)))) pa_nil))))))), ?_⟩)
  · obtain ⟨G, W, b, m, _, _, rfl, _⟩ := h
    rfl
  · obtain ⟨G, W, b, m, w, hm, rfl, hm0, hm1, k⟩ := h
    walk_at "zz"
    refine ⟨G, W, b, _, w, hm, rfl, by omega, by omega, fun r H1 hr0 hr1 w1 => ?_⟩
    walk_at "zz"
    refine ite2 (fun _ => ?_) (fun _ => ?_)
    · walk_at "zz"
      exact ⟨G, W, b, _, w1, hm, rfl, by omega, by omega, fun r H2 hr0 hr1 w2 => k _ _ G H2 (Same.refl _) w2 (.int r) (.inl ⟨r, rfl, by omega, by omega⟩)⟩
    · walk_at "zz"
      refine ⟨G, W, b, _, w1, hm, rfl, by omega, by omega, fun r2 H2 hr2 hr3 w2 => ?_⟩
      walk_at "zn"
      refine ⟨_, W, b, _, _, by assumption, hm, rfl, SqL.of (by walk_at "up"), by simp, by simp, fun v H3 hv w3 => ?_⟩
      obtain ⟨n, rfl, hn⟩ := (show AllP (fun v : V => ∃ n : Int, v = .int n ∧ 3 ≤ n ∧ n ≤ 258) [.int 3, .int 4, .int 5, .int 10, .int 11, .int 12, .int 258, .int 257, .int (3 + r2)] from ⟨⟨_, rfl, by omega, by omega⟩, ⟨_, rfl, by omega, by omega⟩, ⟨_, rfl, by omega, by omega⟩, ⟨_, rfl, by omega, by omega⟩, ⟨_, rfl, by omega, by omega⟩, ⟨_, rfl, by omega, by omega⟩, ⟨_, rfl, by omega, by omega⟩, ⟨_, rfl, by omega, by omega⟩, ⟨_, rfl, by omega, by omega⟩, trivial⟩).of v hv
      walk_at "zz"
      refine ⟨_, W, b, _, w3, hm, rfl, by omega, by omega, fun r4 H4 hr4 hr5 w4 => ?_⟩
      walk_at "zz"
      refine ⟨small (by simp), NewO.good w4 fun p G5 H5 e5 w5 h5 => k _ _ G5 H5 (by walk_at "sm") w5 (.tup (SqT.of h5) (.cons (.int _) (.cons (.int _) .nil))) (.inr ⟨_, _, rfl, hn.1, hn.2, by omega, by omega⟩)⟩

/-! ### tokens -/
def sp_check_tokens (K : PySem.W.Frag) : Sp := fun vs H Q _ => ∃ (G : Hp) (W : Wl) (x : V) (a : Addr) (xs : List V), Wd G W H ∧ vs = [.ref a] ∧ (SqL K G a xs ∨ SqT K G a xs) ∧ (∀ y ∈ xs, ∃ d, Dp K G y d ∧ tokB d = true) ∧ ∀ G' H', Same G G' → Wd G' W H' → Q .non H'
theorem ok_check_tokens (T : Txt K mg A) : FnOk P w K mg base (L2.CX P w) 5 A.f_check_tokens A.fd_check_tokens sP_check_tokens (sp_check_tokens K) := by
  refine okX T.F_check_tokens sc_check_tokens (fun vs H Q E h => ?_) (fun cdv Ar outer s H vs Q E hr h => ⟨_, (pss_cons (ps_if (pt_not (pt_val (pe_callB call_isiT (by rfl) T.z_isinstance (by decide +kernel) (pa_cons (pv 0) (pa_cons (pe_tup (pa_cons (pe_bltn (v := .ty "list") (u := .type "list") (by rfl) T.z_list (by decide +kernel) rfl) (pa_cons (pe_bltn (v := .ty "tuple") (u := .type "tuple") (by rfl) T.z_tuple (by decide +kernel) rfl) pa_nil))) pa_nil))))) (pss_one (ps_raise rfl (takes_of rfl rfl rfl rfl) (pmk_bex T.x_BadToken.oex T.x_BadToken.iC T.x_BadToken.tI (ok_BadToken___init__ T) (hr.mono (by decide)) T.b_BadToken___init__ .nil pass0 rfl T.x_BadToken.gC (pa_cons (pe_un un_neg (pe_int)) pa_nil)))) pss_nil)
      (pss_one (ps_for (passes_of rfl) rfl (pi_enumA (by rfl) T.z_enumerate (pa_cons (pv 0) pa_nil)) (pg_tup rfl (pgs_cons (pg_name (i := 1) sc_check_tokens.nd rfl (Or.inl rfl)) (pgs_cons (pg_name (i := 2) sc_check_tokens.nd rfl (Or.inl rfl)) pgs_nil))) (pss_one (ps_if (pt_not (pt_val (pe_call (ok_is_token T) (hr.mono (by decide)) rfl T.m_is_token T.F_is_token.kp T.b_is_token .nil pass0 (pa_cons (pv 2) pa_nil)))) (pss_one (ps_raise rfl (takes_of rfl rfl rfl rfl) (pmk_bex T.x_BadToken.oex T.x_BadToken.iC T.x_BadToken.tI (ok_BadToken___init__ T) (hr.mono (by decide)) T.b_BadToken___init__ .nil pass0 rfl T.x_BadToken.gC (pa_cons (pv 1) pa_nil)))) pss_nil))))), ?_⟩)
  · obtain ⟨G, W, x, a, xs, _, rfl, _⟩ := h
    rfl
  · obtain ⟨G, W, x, a, xs, w, rfl, ha, hx, k⟩ := h
    walk_at "zz"
    refine ⟨by decide, NewO.good w fun p G1 H1 e1 w1 hp => ?_⟩
    walk_at "zz"
    refine isiSeq (w1.at hp) (ha.elim (fun h => .inl (by walk_at "up")) fun h => .inr (by walk_at "up")) ?_
    walk_at "zz"
    refine for_enumA (i1 := 1) (i2 := 2) (ha.elim (fun h => .inl (e1.seq h)) fun h => .inr (seqT e1 h)) (fun i σ G' W' => W' = W ∧ ∃ x y, σ = [some (.ref a), x, y]) w1 ⟨rfl, _, _, rfl⟩ ?_ ?_
    · rintro i y σ' G2 G3 W' H3 hy e2 ⟨rfl, x1, x2, rfl⟩ e3 w3
      obtain ⟨d, hd, ht⟩ := hx y (List.mem_of_getElem? hy)
      walk_at "zz"
      refine ⟨y, d, rfl, dUp w3 (dmono ((e1.trans e2).trans e3) hd), ?_⟩
      rw [ht]
      walk_at "zz"
      exact st_btw (by walk_at "sm") w3 ⟨rfl, _, _, rfl⟩
    · rintro σ' G2 W' H3 e2 w2 ⟨rfl, x1, x2, rfl⟩
      walk_at "zz"
      exact k G2 H3 (by walk_at "sm") w2
def cp (m : Nat) (row : List Int) : Nat → List Int
  | 0 => row
  | i + 1 => cp m row i ++ [(cp m row i).getD ((cp m row i).length - m) 0]
theorem cp_len (m : Nat) (row : List Int) : ∀ i, (cp m row i).length = row.length + i
  | 0 => rfl
  | i + 1 => by
    unfold cp
    rw [List.length_append, cp_len m row i]
    rfl
def tkrow (d : PyData) (row : List Int) : List Int := match d with
  | .int i => row ++ [i]
  | .tuple [.int l, .int m] => cp m.toNat row l.toNat
  | _ => row
def farB (d : PyData) (row : List Int) : Bool := match d with
  | .tuple [.int _, .int m] => decide ((row.length : Int) < m)
  | _ => false
/-- a token in its bounds -/
def TokB (d : PyData) : Prop := (∃ i, d = .int i ∧ 0 ≤ i ∧ i ≤ 255) ∨ ∃ l m, d = .tuple [.int l, .int m] ∧ 3 ≤ l ∧ l ≤ 258 ∧ 1 ≤ m ∧ m ≤ 32768
theorem TokB.of {d : PyData} (h : tokB d = true) : TokB d := by
  cases d with
  | int i =>
    have h2 : (decide (0 ≤ i) && decide (i ≤ 255)) = true := h
    simp only [Bool.and_eq_true, decide_eq_true_eq] at h2
    exact .inl ⟨i, rfl, h2⟩
  | tuple ds =>
    match ds, h with
    | [], h => exact nomatch h
    | [_], h => exact nomatch h
    | _ :: _ :: _ :: _, h => exact nomatch h
    | [a, b], h =>
      have h1 : (inR 3 258 a && inR 1 32768 b) = true := h
      rw [Bool.and_eq_true] at h1
      obtain ⟨ha, hb⟩ := h1
      cases a with
      | int l =>
        cases b with
        | int m =>
          have ha2 : (decide (3 ≤ l) && decide (l ≤ 258)) = true := ha
          have hb2 : (decide (1 ≤ m) && decide (m ≤ 32768)) = true := hb
          simp only [Bool.and_eq_true, decide_eq_true_eq] at ha2 hb2
          exact .inr ⟨l, m, rfl, ha2.1, ha2.2, hb2.1, hb2.2⟩
        | _ => exact nomatch hb
      | _ => exact nomatch ha
  | _ => exact nomatch h
theorem atI_neg {ns : List Int} {m : Int} (h0 : 0 < m) (h1 : m ≤ ns.length) : atI (ns.map V.int) (-m) = some (.int (ns.getD (ns.length - m.toNat) 0)) := by
  have e : ixN (ns.map V.int).length (-m) = some (ns.length - m.toNat) := by
    rw [List.length_map]
    unfold ixN
    rw [if_neg (by omega), if_pos (by omega)]
    congr 1
    omega
  unfold atI
  rw [e, Option.bind_some, List.getElem?_map, List.getD_eq_getElem?_getD]
  have hlt : ns.length - m.toNat < ns.length := by omega
  rw [List.getElem?_eq_getElem hlt]
  rfl
def sp_copy (K : PySem.W.Frag) : Sp := fun vs H Q _ => ∃ (G : Hp) (W : Wl) (r : Addr) (row : List Int) (x : V) (d : PyData), Wd G ((r, Is (.lst (row.map V.int))) :: W) H ∧ vs = [.ref r, x] ∧ Dp K G x d ∧ TokB d ∧ farB d row = false ∧ row.length ≤ 100000 ∧
  ∀ G' H', Same G G' → Wd G' ((r, Is (.lst ((tkrow d row).map V.int))) :: W) H' → Q .non H'
theorem ok_copy_into (T : Txt K mg A) : FnOk P w K mg base CX0 1 A.f_copy_into A.fd_copy_into sP_copy_into (sp_copy K) := by
  refine okD T.F_copy_into sc_copy_into (fun vs H Q E h => ?_) (fun cdv Ar outer s H vs Q E hr h => ⟨_, (pss_cons (ps_if (pt_val (pe_callB call_isi (by rfl) T.z_isinstance (by decide +kernel) (pa_cons (pv 1) (pa_cons (pe_bltn (v := .ty "int") (u := .type "int") (by rfl) T.z_int (by decide +kernel) rfl) pa_nil)))) (pss_cons (ps_expr (pe_bm PySem.F.plainAttrs_list PySem.F.slot_list_append PySem.F.type_list_append mt_append (pv 0) (pa_cons (pv 1) pa_nil)))
      (pss_one (ps_retN))) pss_nil)
      (pss_cons (ps_asg (pv 1) (pg_tup rfl (pgs_cons (pg_name (i := 2) sc_copy_into.nd rfl (Or.inl rfl)) (pgs_cons (pg_name (i := 3) sc_copy_into.nd rfl (Or.inl rfl)) pgs_nil))))
      (pss_one (ps_for PassesOwn.never rfl (pi_range1 (by rfl) T.z_range (pa_cons (pv 2) pa_nil)) (pg_name (i := 4) sc_copy_into.nd rfl (Or.inl rfl)) (pss_one (ps_expr (pe_bm PySem.F.plainAttrs_list PySem.F.slot_list_append PySem.F.type_list_append mt_append (pv 0) (pa_cons (pe_ix ix_list (pv 0) (pe_un un_neg (pv 3)) (fun _ _ => rfl)) pa_nil)))))))), ?_⟩)
  · obtain ⟨G, W, r, row, x, d, _, rfl, _⟩ := h
    rfl
  · obtain ⟨G, W, r, row, x, d, w, rfl, hd, ht, hf, hl, k⟩ := h
    walk_at "zz"
    rcases ht with ⟨i, rfl, hi⟩ | ⟨l, m, rfl, hl0, hl1, hm0, hm1⟩
    · cases hd
      refine isiD (.int i) (b := true) (show kitB "int" "int" = some true by decide +kernel) ⟨_, rfl, ?_⟩
      walk_at "zz"
      refine ⟨tyL' (Wd.is1 w), ?_⟩
      walk_at "zz"
      refine st_appL (Wd.is1 w) (by rw [List.length_map]; omega) ?_
      walk_at "zz"
      rw [show row.map V.int ++ [V.int i] = (row ++ [i]).map V.int by simp]
      exact k G _ (Same.refl _) w.put1
    · cases hd with
      | tup hs hall =>
        obtain ⟨x1, x2, d1, d2, rfl, e2, y1, y2⟩ := two_of hall rfl
        cases e2
        cases y1
        cases y2
        rename_i t
        refine isiD (.tup (tup_up w hs) (.cons (.int l) (.cons (.int m) .nil))) (b := false) (show kitB "tuple" "int" = some false by decide +kernel) ⟨_, rfl, ?_⟩
        walk_at "zz"
        refine st_gtup (tup_up w hs) rfl ?_
        walk_at "zz"
        have hm : m ≤ row.length := by
          have h2 : decide ((row.length : Int) < m) = false := hf
          have := of_decide_eq_false h2
          omega
        refine for_r1 (by omega) (fun i σ G' W' => W' = (r, Is (.lst ((cp m.toNat row i).map V.int))) :: W ∧ ∃ x4, σ = [some (.ref r), some (.ref t), some (.int l), some (.int m), x4]) w ⟨rfl, _, rfl⟩ ?_ ?_
        · rintro i σ' G1 W1 H1 hi e1 w1 ⟨rfl, x4, rfl⟩
          have hc := cp_len m.toNat row i
          walk_at "zz"
          refine ⟨tyL' (Wd.is1 w1), ?_⟩
          walk_at "zz"
          refine st_ixL (SqL.of (Wd.is1 w1)) (atI_neg (by omega) (by omega)) ?_
          walk_at "zz"
          refine st_appL (Wd.is1 w1) (by rw [List.length_map]; omega) ?_
          refine st_btw (by walk_at "sm") w1.put1 ⟨?_, _, rfl⟩
          rw [show (cp m.toNat row (i + 1)) = cp m.toNat row i ++ [(cp m.toNat row i).getD ((cp m.toNat row i).length - m.toNat) 0] from rfl, List.map_append]
          rfl
        · rintro σ' G1 W1 H1 e1 w1 ⟨rfl, x4, rfl⟩
          walk_at "zz"
          exact k G1 H1 (by walk_at "sm") w1
/-- the row behind the first i tokens -/
def rowAt (ds : List PyData) (row : List Int) (i : Nat) : List Int := (ds.take i).foldl (fun r d => tkrow d r) row
theorem rowAt_succ {ds : List PyData} {row : List Int} {i : Nat} {d : PyData} (h : ds[i]? = some d) : rowAt ds row (i + 1) = tkrow d (rowAt ds row i) := by
  unfold rowAt
  rw [List.take_add_one, h]
  simp
theorem tkrow_len {d : PyData} {row : List Int} (h : TokB d) : (tkrow d row).length ≤ row.length + 258 ∧ row.length ≤ (tkrow d row).length := by
  rcases h with ⟨i, rfl, _⟩ | ⟨l, m, rfl, hl⟩
  · show (row ++ [i]).length ≤ _ ∧ _ ≤ (row ++ [i]).length
    simp
  · show (cp m.toNat row l.toNat).length ≤ _ ∧ _ ≤ (cp m.toNat row l.toNat).length
    rw [cp_len]
    omega
theorem rowAt_len {ds : List PyData} {row : List Int} (h : ∀ d ∈ ds, TokB d) : ∀ i, (rowAt ds row i).length ≤ row.length + 258 * i ∧ row.length ≤ (rowAt ds row i).length
  | 0 => ⟨Nat.le_refl _, Nat.le_refl _⟩
  | i + 1 => by
    have ih := rowAt_len (row := row) h i
    cases e : ds[i]? with
    | some d =>
      rw [rowAt_succ e]
      have := tkrow_len (row := rowAt ds row i) (h d (List.mem_of_getElem? e))
      omega
    | none =>
      have e2 : rowAt ds row (i + 1) = rowAt ds row i := by
        unfold rowAt
        rw [List.take_add_one, e]
        simp
      rw [e2]
      omega
/-- the i-th token lies too far -/
def FarAt (ds : List PyData) (row : List Int) (i : Nat) : Prop := ∃ d, ds[i]? = some d ∧ farB d (rowAt ds row i) = true
theorem dpAll_get {H : Hp} : ∀ {xs : List V} {ds : List PyData} {i : Nat} {x : V}, DpAll K H xs ds → xs[i]? = some x → ∃ d, ds[i]? = some d ∧ Dp K H x d
  | _, _, 0, _, .cons a _, h => by
    cases h
    exact ⟨_, rfl, a⟩
  | _, _, i + 1, _, .cons _ t, h => dpAll_get (i := i) t h
theorem st_slLO {G H : Hp} {W : Wl} {Q : VK} {a : Addr} {xs : List V} {lo hi : Option Int} (h : SqL K H a xs) (w : Wd G W H) (q : ∀ p H', Wd G ((p, Is (.lst (cutV xs lo hi))) :: W) H' → Q (.ref p) H') : rSlL K (.ref a) lo hi H Q := ⟨a, xs, rfl, h, NewO.own w q⟩
def sp_expand (K : PySem.W.Frag) (C : Addr) : Sp := fun vs H Q E => ∃ (G : Hp) (W : Wl) (a : Addr) (xs : List V) (ds : List PyData) (x : V) (row : List Int), Wd G W H ∧ vs = [.ref a, x] ∧ (SqL K G a xs ∨ SqT K G a xs) ∧ DpAll K G xs ds ∧ (∀ d ∈ ds, tokB d = true) ∧ OkD K G x row ∧ xs.length ≤ 300 ∧ row.length ≤ 1000 ∧
  (((∀ i, ¬ FarAt ds row i) ∧ ∀ q G' H', Same G G' → Wd G' ((q, Is (.lst (((rowAt ds row ds.length).drop row.length).map V.int))) :: W) H' → Q (.ref q) H') ∨ ∃ j : Nat, FarAt ds row j ∧ (∀ i, i < j → ¬ FarAt ds row i) ∧ Out C G W j E)
theorem dpAll_up {G G' : Hp} (e : Same G G') : ∀ {xs : List V} {ds : List PyData}, DpAll K G xs ds → DpAll K G' xs ds
  | _, _, .nil => .nil
  | _, _, .cons a t => .cons (dmono e a) (dpAll_up e t)
theorem ok_expand (T : Txt K mg A) : FnOk P w K mg base (L2.CX P w) 6 A.f_expand A.fd_expand sP_expand (sp_expand K A.x_Far) := by
  refine okX T.F_expand sc_expand (fun vs H Q E h => ?_) (fun cdv Ar outer s H vs Q E hr h => ⟨_, (pss_cons (ps_expr (pe_call (ok_check_tokens T) (hr.mono (by decide)) rfl T.m_check_tokens T.F_check_tokens.kp T.b_check_tokens .nil (passes_call (takes_of rfl rfl rfl rfl) (fun _ _ _ _ h => h)) (pa_cons (pv 0) pa_nil)))
      (pss_cons (ps_set (i := 2) sc_expand.nd rfl (Or.inl rfl) (pe_call (ok_checked_data T) (hr.mono (by decide)) rfl T.m_checked_data T.F_checked_data.kp T.b_checked_data .nil (passes_call (takes_of rfl rfl rfl rfl) (fun _ _ _ _ h => h)) (pa_cons (pv 1) pa_nil)))
      (pss_cons (ps_set (i := 3) sc_expand.nd rfl (Or.inl rfl) (pe_callB call_len_seq (by rfl) T.z_len PySem.boot_len (pa_cons (pv 2) pa_nil)))
      (pss_cons (ps_for (passes_of rfl) rfl (pi_enumA (by rfl) T.z_enumerate (pa_cons (pv 0) pa_nil)) (pg_tup rfl (pgs_cons (pg_name (i := 4) sc_expand.nd rfl (Or.inl rfl)) (pgs_cons (pg_name (i := 5) sc_expand.nd rfl (Or.inl rfl)) pgs_nil))) (pss_cons (ps_if (PW.pt (pw_and (pt_not (pt_val (pe_callB call_isi (by rfl) T.z_isinstance (by decide +kernel) (pa_cons (pv 5) (pa_cons (pe_bltn (v := .ty "int") (u := .type "int") (by rfl) T.z_int (by decide +kernel) rfl) pa_nil))))) (pw_and1 (pt_cmpR op_gt (pe_ix ix_tup (pv 5) (pe_int) (fun _ _ => rfl)) (pe_callB call_len_seq (by rfl) T.z_len PySem.boot_len (pa_cons (pv 2) pa_nil)) (nomark _))))) (pss_one (ps_raise rfl (takes_of rfl rfl rfl rfl) (pmk_bex T.x_Far.oex T.x_Far.iC T.x_Far.tI (ok_Far___init__ T) (hr.mono (by decide)) T.b_Far___init__ .nil pass0 rfl T.x_Far.gC (pa_cons (pv 4) pa_nil)))) pss_nil)
      (pss_one (ps_expr (pe_call (ok_copy_into T) (hr.mono (by decide)) rfl T.m_copy_into T.F_copy_into.kp T.b_copy_into .nil pass0 (pa_cons (pv 2) (pa_cons (pv 5) pa_nil)))))))
      (pss_one (ps_ret (pe_slice sl_list (pv 2) (po_some (pv 3)) po_none))))))), ?_⟩)
  · obtain ⟨G, W, a, xs, ds, x, row, _, rfl, _⟩ := h
    rfl
  · obtain ⟨G, W, a, xs, ds, x, row, w, rfl, ha, hx, ht, ho, hl, hr2, h⟩ := h
    have hB : ∀ d ∈ ds, TokB d := fun d hd => TokB.of (ht d hd)
    walk_at "zx"
    refine ⟨G, W, .non, a, xs, w, rfl, ha, fun y hy => ?_, fun G1 H1 e1 w1 => ?_⟩
    · obtain ⟨i, hi⟩ := List.mem_iff_getElem?.mp hy
      obtain ⟨d, h1, h2⟩ := dpAll_get hx hi
      exact ⟨d, h2, ht d (List.mem_of_getElem? h1)⟩
    walk_at "zx"
    obtain ⟨p0, rfl, hp0, hbyt, hlen⟩ := ho
    refine ⟨G1, W, .ref p0, w1, rfl, .inl ⟨row, ⟨p0, rfl, hp0.imp (fun h => e1.seq h) (fun h => seqT e1 h), hbyt, hlen⟩, fun p2 G2 H2 e2 w2 => ?_⟩⟩
    walk_at "zx"
    refine ⟨p2, _, rfl, .inl (SqL.of (Wd.is1 w2)), ?_⟩
    walk_at "zx"
    rw [List.length_map]
    have e02 := e1.trans e2
    refine for_enumA (i1 := 4) (i2 := 5) (ha.imp (fun h => e02.seq h) fun h => seqT e02 h) (fun i σ G' W' => W' = (p2, Is (.lst ((rowAt ds row i).map V.int))) :: W ∧ (∀ j, FarAt ds row j → (∀ i, i < j → ¬ FarAt ds row i) → i ≤ j) ∧ ∃ x4 x5, σ = [some (.ref a), some (.ref p0), some (.ref p2), some (.int row.length), x4, x5]) w2 ⟨rfl, fun _ _ _ => Nat.zero_le _, _, _, rfl⟩ ?_ ?_
    · rintro i y σ' G3 G4 W' H3 hy e3 ⟨rfl, hij, x4, x5, rfl⟩ e4 w4
      obtain ⟨d, hdi, hd0⟩ := dpAll_get hx hy
      have e04 := (e02.trans e3).trans e4
      have hd : Dp K H3 y d := dUp w4 (dmono e04 hd0)
      have hTb := hB d (List.mem_of_getElem? hdi)
      have hrl := rowAt_len (row := row) hB i
      have hix : i < xs.length := by
        rcases Nat.lt_or_ge i xs.length with h | h
        · exact h
        · rw [List.getElem?_eq_none h] at hy
          exact nomatch hy
      have go : farB d (rowAt ds row i) = false → ∀ j, FarAt ds row j → (∀ i, i < j → ¬ FarAt ds row i) → i + 1 ≤ j := fun hf j h1 h2 => by
        have h3 := hij j h1 h2
        rcases Nat.lt_or_ge i j with h | h
        · exact h
        · have : j = i := by omega
          subst this
          obtain ⟨d2, h4, h5⟩ := h1
          rw [hdi] at h4
          cases h4
          rw [hf] at h5
          exact nomatch h5
      walk_at "zx"
      rcases hTb with ⟨i0, rfl, hi0⟩ | ⟨l, m, rfl, hl0, hl1, hm0, hm1⟩
      · cases hd
        refine isiD (.int i0) (b := true) (show kitB "int" "int" = some true by decide +kernel) ⟨_, rfl, ?_⟩
        walk_at "zx"
        refine ⟨G4, W, p2, rowAt ds row i, .int i0, .int i0, w4, rfl, .int i0, .inl ⟨i0, rfl, hi0⟩, rfl, by omega, fun G5 H5 e5 w5 => ?_⟩
        walk_at "zx"
        rw [← rowAt_succ hdi] at w5
        exact st_btw ((e3.trans e4).trans e5) w5 ⟨rfl, go rfl, _, _, rfl⟩
      · have hd4 : Dp K G4 y _ := dmono e04 hd0
        cases hd4 with
        | tup hs hall =>
          obtain ⟨x1, x2, d1, d2, rfl, e9, y1, y2⟩ := two_of hall rfl
          cases e9
          cases y1
          cases y2
          rename_i t
          refine isiD (.tup (tup_up w4 hs) (.cons (.int l) (.cons (.int m) .nil))) (b := false) (show kitB "tuple" "int" = some false by decide +kernel) ⟨_, rfl, ?_⟩
          walk_at "zx"
          refine st_ixT (v := .int m) (tup_up w4 hs) rfl ?_
          walk_at "zx"
          refine ⟨p2, _, rfl, .inl (SqL.of (Wd.is1 w4)), ?_⟩
          walk_at "zx"
          rw [List.length_map]
          by_cases hf : ((rowAt ds row i).length : Int) < m
          · have hF : FarAt ds row i := ⟨_, hdi, decide_eq_true hf⟩
            rw [decide_eq_true hf]
            walk_at "zx"
            rcases h with ⟨hno, _⟩ | ⟨j, hj, hj2, k⟩
            · exact absurd hF (hno i)
            · have hle := hij j hj hj2
              have hji : j = i := by
                rcases Nat.lt_or_ge i j with h | h
                · exact absurd hF (hj2 i h)
                · omega
              subst hji
              exact ⟨by simp, fun b hb => mk_done w4 (fun d' G' H' e w hd' => k d' G' H' (e04.trans e) (Wd.drop1 w) hd') b hb⟩
          · have hfb : farB (.tuple [.int l, .int m]) (rowAt ds row i) = false := decide_eq_false hf
            rw [decide_eq_false hf]
            walk_at "zx"
            refine ⟨G4, W, p2, rowAt ds row i, .ref t, .tuple [.int l, .int m], w4, rfl, .tup hs (.cons (.int l) (.cons (.int m) .nil)), .inr ⟨l, m, rfl, hl0, hl1, hm0, hm1⟩, hfb, by omega, fun G5 H5 e5 w5 => ?_⟩
            walk_at "zx"
            rw [← rowAt_succ hdi] at w5
            exact st_btw ((e3.trans e4).trans e5) w5 ⟨rfl, go hfb, _, _, rfl⟩
    · rintro σ' G3 W' H3 e3 w3 ⟨rfl, hij, x4, x5, rfl⟩
      have hxl : xs.length = ds.length := dpAll_len hx
      rcases h with ⟨hno, k⟩ | ⟨j, hj, hj2, k⟩
      · walk_at "zx"
        have hrl := rowAt_len (row := row) hB xs.length
        refine ⟨_, rfl, ?_⟩
        walk_at "zx"
        refine st_slLO (SqL.of (Wd.is1 w3)) w3 fun q H4 w4 => ?_
        rw [cut_hi (by omega) (by rw [List.length_map]; omega)] at w4
        have w5 := Wd.drop (W1 := [_]) w4
        refine k q G3 H4 (by walk_at "sm") ?_
        rw [List.map_drop, ← hxl]
        exact w5
      · have h1 := hij j hj hj2
        obtain ⟨d, h2, _⟩ := hj
        rw [hxl] at h1
        rw [List.getElem?_eq_none h1] at h2
        exact nomatch h2
def sp_expanded (K : PySem.W.Frag) : Sp := fun vs H Q _ => ∃ (G : Hp) (W : Wl) (a p : Addr) (xs : List V) (ds : List PyData) (row : List Int), Wd G W H ∧ vs = [.ref p, .ref a] ∧ SqL K G a xs ∧ DpAll K G xs ds ∧ (∀ d ∈ ds, tokB d = true) ∧ SqL K G p (row.map V.int) ∧ xs.length ≤ 300 ∧ row.length ≤ 1000 ∧
  (((∀ i, ¬ FarAt ds row i) ∧ ∀ q G' H', Same G G' → Wd G' W H' → HL G' q (rowAt ds row ds.length) → Q (.ref q) H') ∨ ∃ j : Nat, FarAt ds row j ∧ (∀ i, i < j → ¬ FarAt ds row i) ∧ ∀ G' H', Same G G' → Wd G' W H' → Q (.int j) H')
theorem atI_back {ns : List Int} {m : Int} (h0 : 0 < m) (h1 : m ≤ ns.length) : atI (ns.map V.int) ((ns.length : Int) - m) = some (.int (ns.getD (ns.length - m.toNat) 0)) := by
  have hlt : ns.length - m.toNat < ns.length := by omega
  rw [show (ns.length : Int) - m = ((ns.length - m.toNat : Nat) : Int) by omega]
  refine atI_nat ?_
  rw [List.getElem?_map, List.getElem?_eq_getElem hlt, List.getD_eq_getElem?_getD, List.getElem?_eq_getElem hlt]
  rfl
theorem ok__law_expanded (T : Txt K mg A) : FnOk P w K mg base CX0 2 A.f__law_expanded A.fd__law_expanded sP__law_expanded (sp_expanded K) := by
  refine okD T.F__law_expanded sc__law_expanded (fun vs H Q E h => ?_) (fun cdv Ar outer s H vs Q E hr h => ⟨_, (pss_cons (ps_set (i := 2) sc__law_expanded.nd rfl (Or.inl rfl) (pe_callTy call_list_of (by rfl) T.z_list (by decide +kernel) (pa_cons (pv 0) pa_nil)))
      (pss_cons (ps_for PassesOwn.never rfl (pi_range1 (by rfl) T.z_range (pa_cons (pe_callB call_len_seq (by rfl) T.z_len PySem.boot_len (pa_cons (pv 1) pa_nil)) pa_nil)) (pg_name (i := 3) sc__law_expanded.nd rfl (Or.inl rfl)) (pss_cons (ps_set (i := 4) sc__law_expanded.nd rfl (Or.inl rfl) (pe_ix ix_list (pv 1) (pv 3) (fun _ _ => rfl)))
      (pss_one (ps_if (pt_val (pe_call (ok__law_whole T) (hr.mono (by decide)) rfl T.m__law_whole T.F__law_whole.kp T.b__law_whole .nil pass0 (pa_cons (pv 4) pa_nil))) (pss_one (ps_expr (pe_bm PySem.F.plainAttrs_list PySem.F.slot_list_append PySem.F.type_list_append mt_append (pv 2) (pa_cons (pv 4) pa_nil)))) (pss_one (ps_if (pt_cmpR op_gt (pe_ix ix_tup (pv 4) (pe_int) (fun _ _ => rfl)) (pe_callB call_len_seq (by rfl) T.z_len PySem.boot_len (pa_cons (pv 2) pa_nil)) (nomark _)) (pss_one (ps_ret (pv 3))) (pss_one (ps_for PassesOwn.never rfl (pi_range1 (by rfl) T.z_range (pa_cons (pe_ix ix_tup (pv 4) (pe_int) (fun _ _ => rfl)) pa_nil)) (pg_name (i := 5) sc__law_expanded.nd rfl (Or.inl rfl)) (pss_one (ps_expr (pe_bm PySem.F.plainAttrs_list PySem.F.slot_list_append PySem.F.type_list_append mt_append (pv 2) (pa_cons (pe_ix ix_list (pv 2) (pe_op op_sub (pe_callB call_len_seq (by rfl) T.z_len PySem.boot_len (pa_cons (pv 2) pa_nil)) (pe_ix ix_tup (pv 4) (pe_int) (fun _ _ => rfl))) (fun _ _ => rfl)) pa_nil))))))))))))
      (pss_one (ps_ret (pv 2))))), ?_⟩)
  · obtain ⟨G, W, a, p, xs, ds, row, _, rfl, _⟩ := h
    rfl
  · obtain ⟨G, W, a, p, xs, ds, row, w, rfl, ha, hx, ht, hp, hl, hr2, h⟩ := h
    have hB : ∀ d ∈ ds, TokB d := fun d hd => TokB.of (ht d hd)
    have hxl : xs.length = ds.length := dpAll_len hx
    walk_at "zz"
    refine ⟨p, _, rfl, .inl (seq_up w hp), fun p2 hp2 => ?_⟩
    have w2 : Wd G ((p2, Is (.lst (row.map V.int))) :: W) _ := w.newM hp2 rfl
    generalize upd H p2 (.lst (row.map V.int)) = H2 at w2
    walk_at "zz"
    refine ⟨a, _, rfl, .inl (seq_up w2 ha), ?_⟩
    walk_at "zz"
    refine for_r1 (by omega) (fun i σ G' W' => W' = (p2, Is (.lst ((rowAt ds row i).map V.int))) :: W ∧ (∀ j, FarAt ds row j → (∀ i, i < j → ¬ FarAt ds row i) → i ≤ j) ∧ ∃ x3 x4 x5, σ = [some (.ref p), some (.ref a), some (.ref p2), x3, x4, x5]) w2 ⟨rfl, fun _ _ _ => Nat.zero_le _, _, _, _, rfl⟩ ?_ ?_
    · rintro i σ' G3 W3 H3 hi e3 w3 ⟨rfl, hij, x3, x4, x5, rfl⟩
      obtain ⟨y, hy⟩ : ∃ y, xs[i]? = some y := ⟨_, List.getElem?_eq_getElem (by omega)⟩
      obtain ⟨d, hdi, hd0⟩ := dpAll_get hx hy
      have hd4 : Dp K G3 y d := dmono e3 hd0
      have hTb := hB d (List.mem_of_getElem? hdi)
      have hrl := rowAt_len (row := row) hB i
      have go : farB d (rowAt ds row i) = false → ∀ j, FarAt ds row j → (∀ i, i < j → ¬ FarAt ds row i) → i + 1 ≤ j := fun hf j h1 h2 => by
        have h3 := hij j h1 h2
        rcases Nat.lt_or_ge i j with h | h
        · exact h
        · have : j = i := by omega
          subst this
          obtain ⟨d2, h4, h5⟩ := h1
          rw [hdi] at h4
          cases h4
          rw [hf] at h5
          exact nomatch h5
      walk_at "zz"
      refine st_ixL (seq_up w3 (e3.seq ha)) (atI_nat hy) ?_
      walk_at "zz"
      refine ⟨y, rfl, dp_knd (dUp w3 hd4), ?_⟩
      rw [isInt_d (dUp w3 hd4)]
      rcases hTb with ⟨i0, rfl, hi0⟩ | ⟨l, m, rfl, hl0, hl1, hm0, hm1⟩
      · cases hd4
        dsimp only [isI]
        walk_at "zz"
        refine ⟨tyL' (Wd.is1 w3), ?_⟩
        walk_at "zz"
        refine st_appL (Wd.is1 w3) (by rw [List.length_map]; omega) ?_
        rw [show (rowAt ds row i).map V.int ++ [V.int i0] = (tkrow (.int i0) (rowAt ds row i)).map V.int by simp [tkrow], ← rowAt_succ hdi]
        exact st_btw e3 w3.put1 ⟨rfl, go rfl, _, _, _, rfl⟩
      · cases hd4 with
        | tup hs hall =>
          obtain ⟨x1, x2, d1, d2, rfl, e9, y1, y2⟩ := two_of hall rfl
          cases e9
          cases y1
          cases y2
          rename_i t
          dsimp only [isI]
          walk_at "zz"
          refine st_ixT (v := .int m) (tup_up w3 hs) rfl ?_
          walk_at "zz"
          refine ⟨p2, _, rfl, .inl (SqL.of (Wd.is1 w3)), ?_⟩
          walk_at "zz"
          rw [List.length_map]
          by_cases hf : ((rowAt ds row i).length : Int) < m
          · have hF : FarAt ds row i := ⟨_, hdi, decide_eq_true hf⟩
            rw [decide_eq_true hf]
            walk_at "zz"
            rcases h with ⟨hno, _⟩ | ⟨j, hj, hj2, k⟩
            · exact absurd hF (hno i)
            · have hle := hij j hj hj2
              have hji : j = i := by
                rcases Nat.lt_or_ge i j with h | h
                · exact absurd hF (hj2 i h)
                · omega
              subst hji
              exact k G3 H3 e3 (Wd.drop1 w3)
          · have hfb : farB (.tuple [.int l, .int m]) (rowAt ds row i) = false := decide_eq_false hf
            rw [decide_eq_false hf]
            walk_at "zz"
            refine st_ixT (v := .int l) (tup_up w3 hs) rfl ?_
            walk_at "zz"
            refine for_r1 (by omega) (fun i2 σ G' W' => W' = (p2, Is (.lst ((cp m.toNat (rowAt ds row i) i2).map V.int))) :: W ∧ ∃ x5, σ = [some (.ref p), some (.ref a), some (.ref p2), some (.int i), some (.ref t), x5]) w3 ⟨rfl, _, rfl⟩ ?_ ?_
            · rintro i2 σ' G5 W5 H5 hi2 e5 w5 ⟨rfl, x5, rfl⟩
              have hc := cp_len m.toNat (rowAt ds row i) i2
              walk_at "zz"
              refine ⟨tyL' (Wd.is1 w5), ?_⟩
              walk_at "zz"
              refine ⟨p2, _, rfl, .inl (SqL.of (Wd.is1 w5)), ?_⟩
              walk_at "zz"
              refine st_ixT (v := .int m) (tup_up w5 (seqT e5 hs)) rfl ?_
              walk_at "zz"
              rw [List.length_map]
              refine st_ixL (SqL.of (Wd.is1 w5)) (atI_back (by omega) (by omega)) ?_
              walk_at "zz"
              refine st_appL (Wd.is1 w5) (by rw [List.length_map]; omega) ?_
              refine st_btw (by walk_at "sm") w5.put1 ⟨?_, _, rfl⟩
              rw [show (cp m.toNat (rowAt ds row i) (i2 + 1)) = cp m.toNat (rowAt ds row i) i2 ++ [(cp m.toNat (rowAt ds row i) i2).getD ((cp m.toNat (rowAt ds row i) i2).length - m.toNat) 0] from rfl, List.map_append]
              rfl
            · rintro σ' G5 W5 H5 e5 w5 ⟨rfl, x5, rfl⟩
              refine st_btw (e3.trans e5) w5 ⟨?_, go hfb, _, _, _, rfl⟩
              rw [rowAt_succ hdi]
              rfl
    · rintro σ' G3 W3 H3 e3 w3 ⟨rfl, hij, x3, x4, x5, rfl⟩
      rcases h with ⟨hno, k⟩ | ⟨j, hj, hj2, k⟩
      · walk_at "zz"
        obtain ⟨o, rfl, _, e4, w4⟩ := w3.freeze1
        refine k p2 _ H3 (e3.trans e4) w4 ?_
        unfold HL
        rw [upd_same]
        simp [hxl]
      · have h1 := hij j hj hj2
        obtain ⟨d, h2, _⟩ := hj
        rw [List.getElem?_eq_none (by omega)] at h2
        exact nomatch h2
def sp_told (K : PySem.W.Frag) : Sp := fun vs H Q _ => ∃ (G : Hp) (W : Wl) (a : Addr) (xs : List V) (ds : List PyData) (x : V) (row : List Int), Wd G W H ∧ vs = [.ref a, x] ∧ (SqL K G a xs ∨ SqT K G a xs) ∧ DpAll K G xs ds ∧ (∀ d ∈ ds, tokB d = true) ∧ OkD K G x row ∧ xs.length ≤ 300 ∧ row.length ≤ 1000 ∧
  (((∀ i, ¬ FarAt ds row i) ∧ ∀ q G' H', Same G G' → Wd G' W H' → HL G' q ((rowAt ds row ds.length).drop row.length) → Q (.ref q) H') ∨ ∃ j : Nat, FarAt ds row j ∧ (∀ i, i < j → ¬ FarAt ds row i) ∧ ∀ G' H', Same G G' → Wd G' W H' → Q (.int j) H')
theorem ok__law_told (T : Txt K mg A) : FnOk P w K mg base CX0 7 A.f__law_told A.fd__law_told sP__law_told (sp_told K) := by
  refine okD T.F__law_told sc__law_told (fun vs H Q E h => ?_) (fun cdv Ar outer s H vs Q E hr h => ⟨_, (pss_one (ps_try_as (i := 2) (Wout := fun _ _ _ _ => False) rfl rfl sc__law_told.nd rfl rfl ⟨rfl, by decide, Or.inl T.x_Far.gC⟩ takes0 (fun W pn xe tk po => (pss_one (ps_ret (pe_callNS (ok_expand T) (hr.mono (by decide)) rfl T.m_expand T.F_expand.kp T.kb_expand_1_before.choose_spec (fun σ => passAt tk σ) (pa_cons (pv 0) pa_nil) (pk_cons (pv 1) pk_nil))))) (fun a oe cls d pn hz hf => (pss_one (ps_ret (pe_ifExp (pt_val (pe_callB (call_isEd T.x_Far.xc hz hf) (by rfl) T.z_isinstance (by decide +kernel) (pa_cons (pv 2) (pa_cons (pe_bltn (v := .ty "LookupError") (u := .type "LookupError") (by rfl) T.z_LookupError (by decide +kernel) rfl) pa_nil)))) (pe_xf T.x_Far.xf T.x_Far.no hz hf (pv 2)) (pe_str))))))), ?_⟩)
  · obtain ⟨G, W, a, xs, ds, x, row, _, rfl, _⟩ := h
    rfl
  · obtain ⟨G, W, a, xs, ds, x, row, w, rfl, ha, hx, ht, ho, hl, hr2, h⟩ := h
    walk_at "zy"
    refine ⟨rfl, rfl, G, W, a, xs, ds, x, row, w, rfl, ha, hx, ht, ho, hl, hr2, ?_⟩
    rcases h with ⟨hno, k⟩ | ⟨j, hj, hj2, k⟩
    · refine .inl ⟨hno, fun q G1 H1 e1 w1 => ?_⟩
      obtain ⟨o, rfl, ho, e2, w2⟩ := w1.freeze1
      exact k q _ H1 (e1.trans e2) w2 upd_same
    · refine .inr ⟨j, hj, hj2, fun d G1 H1 e1 w1 hd => ?_⟩
      refine ⟨true, T.x_Far.te, fun _ b hb => ?_, fun h => nomatch h⟩
      walk_at "zy"
      walk_at "zi"
      walk_at "zy"
      refine ⟨_, .type "LookupError", true, d, _, rfl, rfl, rfl, w1.at hd, fun u r => r, T.x_Far.kv, ?_⟩
      walk_at "zy"
      exact ⟨rfl, rfl, d, _, _, rfl, w1.at hd, rfl, k G1 H1 e1 w1⟩
theorem TokM.tokB {m : Int} {d : PyData} (h : TokM m d) (hm : m ≤ 32768) : tokB d = true := by
  rcases h with ⟨i, rfl, h0, h1⟩ | ⟨s, f, rfl, h0, h1, h2, h3⟩
  · show (decide (0 ≤ i) && decide (i ≤ 255)) = true
    simp [h0, h1]
  · show ((decide (3 ≤ s) && decide (s ≤ 258)) && (decide (1 ≤ f) && decide (f ≤ 32768))) = true
    simp [h0, h1, h2]
    omega
def Toks (K : PySem.W.Frag) (G : Hp) (xs : List V) : Prop := AllP (fun v => ∃ d, Dp K G v d ∧ tokB d = true) xs
def sp_tokens (K : PySem.W.Frag) : Sp := fun vs H Q _ => ∃ (G : Hp) (W : Wl) (b : Addr) (n : Int), Wd G W H ∧ (b, BagI) ∈ W ∧ vs = [.ref b, .int n] ∧ 0 ≤ n ∧ n ≤ 1000 ∧ ∀ p xs G' H', Same G G' → Wd G' W H' → G' p = some (.lst xs) → Toks K G' xs → xs.length ≤ 12 → Q (.ref p) H'
theorem Toks.up {G G' : Hp} {xs : List V} (e : Same G G') (h : Toks K G xs) : Toks K G' xs := AllP.mk fun x hx => let ⟨d, h1, h2⟩ := AllP.of h x hx; ⟨d, dmono e h1, h2⟩
theorem ok__law_tokens (T : Txt K mg A) : FnOk P w K mg base CX0 4 A.f__law_tokens A.fd__law_tokens sP__law_tokens (sp_tokens K) := by
  refine okD T.F__law_tokens sc__law_tokens (fun vs H Q E h => ?_) (fun cdv Ar outer s H vs Q E hr h => ⟨_, (pss_cons (ps_par (i := 2) (j := 3) (by rfl) sc__law_tokens.nd rfl rfl (by decide) rfl rfl (pa_cons (pe_lst pa_nil) (pa_cons (pv 1) pa_nil)) (by rfl))
      (pss_cons (ps_for PassesOwn.never rfl (pi_range1 (by rfl) T.z_range (pa_cons (pe_call (ok__law_take T) (hr.mono (by decide)) rfl T.m__law_take T.F__law_take.kp T.b__law_take .nil pass0 (pa_cons (pv 0) (pa_cons (pe_int) pa_nil))) pa_nil)) (pg_name (i := 4) sc__law_tokens.nd rfl (Or.inl rfl)) (pss_cons (ps_set (i := 5) sc__law_tokens.nd rfl (Or.inl rfl) (pe_call (ok__law_token T) (hr.mono (by decide)) rfl T.m__law_token T.F__law_token.kp T.b__law_token .nil pass0 (pa_cons (pv 0) (pa_cons (pe_callB (call_max2 rfl) (by rfl) T.z_max (by decide +kernel) (pa_cons (pe_int) (pa_cons (pv 3) pa_nil))) pa_nil))))
      (C8.pss_cut (ps_if (PW.pt (pw_and (pt_not (pt_val (pe_call (ok__law_whole T) (hr.mono (by decide)) rfl T.m__law_whole T.F__law_whole.kp T.b__law_whole .nil pass0 (pa_cons (pv 5) pa_nil)))) (pw_and1 (pt_cmpR op_eq (pe_call (ok__law_take T) (hr.mono (by decide)) rfl T.m__law_take T.F__law_take.kp T.b__law_take .nil pass0 (pa_cons (pv 0) (pa_cons (pe_int) pa_nil))) (pe_int) (nomark _))))) (pss_one (ps_set (i := 5) sc__law_tokens.nd rfl (Or.inl rfl) (pe_tup (pa_cons (pe_ix ix_tup (pv 5) (pe_int) (fun _ _ => rfl)) (pa_cons (pe_op op_add (pe_op op_add (pv 3) (pe_int)) (pe_call (ok__law_take T) (hr.mono (by decide)) rfl T.m__law_take T.F__law_take.kp T.b__law_take .nil pass0 (pa_cons (pv 0) (pa_cons (pe_int) pa_nil)))) pa_nil))))) pss_nil)
      (C8.pss_cut (ps_if (PW.pt (pw_and (pt_not (pt_val (pe_call (ok__law_whole T) (hr.mono (by decide)) rfl T.m__law_whole T.F__law_whole.kp T.b__law_whole .nil pass0 (pa_cons (pv 5) pa_nil)))) (pw_and1 (pt_cmpR op_eq (pv 3) (pe_int) (nomark _))))) (pss_one (ps_set (i := 5) sc__law_tokens.nd rfl (Or.inl rfl) (pe_int))) pss_nil)
      (pss_cons (ps_expr (pe_bm PySem.F.plainAttrs_list PySem.F.slot_list_append PySem.F.type_list_append mt_append (pv 2) (pa_cons (pv 5) pa_nil)))
      (pss_one (ps_set (i := 3) sc__law_tokens.nd rfl (Or.inl rfl) (pe_op op_add (pv 3) (pe_ifExp (pt_val (pe_call (ok__law_whole T) (hr.mono (by decide)) rfl T.m__law_whole T.F__law_whole.kp T.b__law_whole .nil pass0 (pa_cons (pv 5) pa_nil))) (pe_int) (pe_ix ix_tup (pv 5) (pe_int) (fun _ _ => rfl)))))))))))
      (pss_one (ps_ret (pv 2))))), ?_⟩)
  · obtain ⟨G, W, b, n, _, _, rfl, _⟩ := h
    rfl
  · obtain ⟨G, W, b, n, w, hm, rfl, hn0, hn1, k⟩ := h
    walk_at "zz"
    refine ⟨by decide, NewO.own w fun l H1 w1 => ?_⟩
    walk_at "zz"
    refine ⟨G, _, b, _, w1, List.mem_cons_of_mem _ hm, rfl, by decide, by decide, fun r H2 hr0 hr1 w2 => ?_⟩
    refine for_r1 (by omega) (fun i σ G' W' => ∃ xs x2 x5 z, W' = (l, Is (.lst xs)) :: W ∧ Toks K G' xs ∧ xs.length = i ∧ 0 ≤ z ∧ z ≤ 1000 + 300 * (i : Int) ∧ σ = [some (.ref b), some (.int n), some (.ref l), some (.int z), x2, x5]) w2 ⟨[], _, _, _, rfl, trivial, rfl, hn0, by omega, rfl⟩ ?_ ?_
    · rintro i σ' G3 W3 H3 hi e3 w3 ⟨xs, x2, x5, z, rfl, hxs, hlen, hz0, hz1, rfl⟩
      walk_at "zz"
      refine ⟨_, _, rfl, ?_⟩
      walk_at "zz"
      have hm3 : (b, BagI) ∈ ((l, Is (.lst xs)) :: W) := List.mem_cons_of_mem _ hm
      refine ⟨G3, _, b, _, w3, hm3, rfl, by split <;> omega, by split <;> omega, fun v d G4 H4 e4 w4 hd hT => ?_⟩
      have hTok := hT.tokB (by split <;> omega)
      walk_at "zz"
      have hT' : TokM 32768 d := by
        rcases hT with h | ⟨s1, f1, h1, h2, h3, h4, h5⟩
        · exact .inl h
        · exact .inr ⟨s1, f1, h1, h2, h3, h4, Int.le_trans h5 (by split <;> omega)⟩
      refine st_cut (fun σ H => ∃ G' v d, Same G3 G' ∧ Wd G' ((l, Is (.lst xs)) :: W) H ∧ Dp K G' v d ∧ TokM 32768 d ∧ σ = [some (.ref b), some (.int n), some (.ref l), some (.int z), some (.int i), some v]) ?_ ?_
      · walk_at "zz"
        refine ⟨v, rfl, dp_knd (dUp w4 hd), ?_⟩
        rw [isInt_d (dUp w4 hd)]
        rcases hT' with ⟨i0, rfl, hi0⟩ | ⟨s1, f1, rfl, hs0, hs1, hf0, hf1⟩
        · dsimp only [isI]
          walk_at "zz"
          exact ⟨G4, v, _, e4, w4, hd, .inl ⟨i0, rfl, hi0⟩, rfl⟩
        · dsimp only [isI]
          walk_at "zz"
          refine ⟨G4, _, b, _, w4, hm3, rfl, by decide, by decide, fun r5 H5 hr2 hr3 w5 => ?_⟩
          walk_at "zz"
          refine ite2 (fun _ => ?_) (fun _ => ?_)
          · walk_at "zz"
            cases hd with
            | tup hs hall =>
              obtain ⟨y1, y2, d1, d2, rfl, e9, z1, z2⟩ := two_of hall rfl
              cases e9
              cases z1
              cases z2
              refine st_ixT (v := .int s1) (tup_up w5 hs) rfl ?_
              walk_at "zz"
              refine ⟨G4, _, b, _, w5, hm3, rfl, by decide, by decide, fun r6 H6 hr4 hr5 w6 => ?_⟩
              walk_at "zz"
              refine ⟨small (by simp), NewO.good w6 fun p7 G7 H7 e7 w7 h7 => ?_⟩
              walk_at "zz"
              exact ⟨G7, _, _, e4.trans e7, w7, .tup (SqT.of h7) (.cons (.int _) (.cons (.int _) .nil)), .inr ⟨_, _, rfl, hs0, hs1, by omega, by omega⟩, rfl⟩
          · walk_at "zz"
            exact ⟨G4, v, _, e4, w5, hd, .inr ⟨s1, f1, rfl, hs0, hs1, hf0, hf1⟩, rfl⟩
      · clear hd hT' hTok hT e4 w4
        rintro σ5 H5 ⟨G5, v, d, e5, w5, hd, hT, rfl⟩
        refine st_cut (fun σ H => ∃ G' v d, Same G3 G' ∧ Wd G' ((l, Is (.lst xs)) :: W) H ∧ Dp K G' v d ∧ TokM 32768 d ∧ σ = [some (.ref b), some (.int n), some (.ref l), some (.int z), some (.int i), some v]) ?_ ?_
        · walk_at "zz"
          refine ⟨v, rfl, dp_knd (dUp w5 hd), ?_⟩
          rw [isInt_d (dUp w5 hd)]
          rcases hT with ⟨i0, rfl, hi0⟩ | ⟨s1, f1, rfl, hs0, hs1, hf0, hf1⟩
          · dsimp only [isI]
            walk_at "zz"
            exact ⟨G5, v, _, e5, w5, hd, .inl ⟨i0, rfl, hi0⟩, rfl⟩
          · dsimp only [isI]
            walk_at "zz"
            refine ite2 (fun _ => ?_) (fun _ => ?_)
            · walk_at "zz"
              exact ⟨G5, _, _, e5, w5, .int 65, .inl ⟨65, rfl, by decide, by decide⟩, rfl⟩
            · walk_at "zz"
              exact ⟨G5, v, _, e5, w5, hd, .inr ⟨s1, f1, rfl, hs0, hs1, hf0, hf1⟩, rfl⟩
        · clear hd hT e5 w5
          rintro σ6 H6 ⟨G6, v, d, e6, w6, hd, hT, rfl⟩
          have htk := hT.tokB (by decide)
          walk_at "zz"
          refine ⟨tyL' (Wd.is1 w6), ?_⟩
          walk_at "zz"
          refine st_appL (Wd.is1 w6) (by omega) ?_
          have w7 : Wd G6 ((l, Is (.lst (xs ++ [v]))) :: W) _ := w6.put1
          generalize upd H6 l (.lst (xs ++ [v])) = H7 at w7
          have hxs7 : Toks K G6 (xs ++ [v]) := AllP.app (hxs.up e6) ⟨⟨d, hd, htk⟩, trivial⟩
          walk_at "zz"
          walk_at "zi"
          walk_at "zz"
          refine ⟨v, rfl, dp_knd (dUp w7 hd), ?_⟩
          rw [isInt_d (dUp w7 hd)]
          rcases hT with ⟨i0, rfl, hi0⟩ | ⟨s1, f1, rfl, hs0, hs1, hf0, hf1⟩
          · dsimp only [isI]
            walk_at "zz"
            exact st_btw (e3.trans e6) w7 ⟨xs ++ [v], _, _, z + 1, rfl, hxs7, by simp [hlen], by omega, by omega, rfl⟩
          · dsimp only [isI]
            walk_at "zz"
            cases hd with
            | tup hs hall =>
              obtain ⟨y1, y2, d1, d2, rfl, e9, z1, z2⟩ := two_of hall rfl
              cases e9
              cases z1
              cases z2
              refine st_ixT (v := .int s1) (tup_up w7 hs) rfl ?_
              walk_at "zz"
              exact st_btw (e3.trans e6) w7 ⟨xs ++ [_], _, _, z + s1, rfl, hxs7, by simp [hlen], by omega, by omega, rfl⟩
    · rintro σ' G3 W3 H3 e3 w3 ⟨xs, x2, x5, z, rfl, hxs, hlen, hz0, hz1, rfl⟩
      obtain ⟨o, rfl, ho, e4, w4⟩ := w3.freeze1
      walk_at "zz"
      exact k l xs _ H3 (e3.trans e4) w4 upd_same (hxs.up e4) (by omega)
theorem least_of {p : Nat → Prop} (n : Nat) (h : p n) : ∃ j, p j ∧ ∀ i, i < j → ¬ p i := by
  induction n using Nat.strongRecOn with
  | _ n ih =>
    by_cases e : ∃ m, m < n ∧ p m
    · obtain ⟨m, hm, hp⟩ := e
      exact ih m hm hp
    · exact ⟨n, h, fun i hi hp => e ⟨i, hi, hp⟩⟩
theorem far_or (ds : List PyData) (row : List Int) : (∀ i, ¬ FarAt ds row i) ∨ ∃ j, FarAt ds row j ∧ ∀ i, i < j → ¬ FarAt ds row i := by
  by_cases h : ∃ i, FarAt ds row i
  · obtain ⟨i, hi⟩ := h
    exact .inr (least_of i hi)
  · exact .inl fun i hi => h ⟨i, hi⟩
theorem Toks.all {G : Hp} : ∀ {xs : List V}, Toks K G xs → ∃ ds, DpAll K G xs ds ∧ ∀ d ∈ ds, tokB d = true
  | [], _ => ⟨[], .nil, (fun _ h => nomatch h)⟩
  | x :: xs, h => by
    obtain ⟨d, h1, h2⟩ := h.1
    obtain ⟨ds, h3, h4⟩ := Toks.all (xs := xs) h.2
    refine ⟨d :: ds, .cons h1 h3, fun y hy => ?_⟩
    rcases List.mem_cons.mp hy with rfl | hy
    · exact h2
    · exact h4 y hy
theorem od_tok {d : PyData} (h : TokB d) : Od 1 d ∧ d.weight ≤ 402 := by
  rcases h with ⟨i, rfl, h0, h1⟩ | ⟨l, m, rfl, h0, h1, h2, h3⟩
  · have o : Od 0 (.int i) := Od.int (by omega)
    exact ⟨o.mono (by decide), Nat.le_trans o.2.2 (by decide)⟩
  · have o : ∀ d ∈ [PyData.int l, .int m], Od 0 d := fun d hd => by
      rcases List.mem_cons.mp hd with rfl | hd
      · exact Od.int (by omega)
      · rw [List.mem_singleton.mp hd]
        exact Od.int (by omega)
    refine ⟨Od.tuple o (Nat.le_of_ble_eq_true rfl), ?_⟩
    unfold PyData.weight
    exact Nat.le_trans (od_all o).2.2 (Nat.le_of_ble_eq_true rfl)
theorem od_kept {row : List Int} {ds : List PyData} (hr : Byt row) (hl : row.length ≤ 10) (hd : ∀ d ∈ ds, TokB d) (hdl : ds.length ≤ 12) : Od 3 (.list [.list (row.map .int), .list ds]) := by
  have o1 : Od 2 (.list (row.map .int)) := (Od.listW (n := 1) (w0 := 200) (fun d hd => by
      obtain ⟨i, hi, rfl⟩ := List.mem_map.mp hd
      have := hr i hi
      exact Od.int (by omega)) (fun d hd => by
      obtain ⟨i, hi, rfl⟩ := List.mem_map.mp hd
      have := hr i hi
      exact Nat.le_trans (Od.int (n := 0) (by omega)).2.2 (by decide)) (show _ ≤ 20000 by rw [List.length_map]; omega)).1
  have o2 : Od 2 (.list ds) := (Od.listW (n := 1) (w0 := 402) (fun d h => (od_tok (hd d h)).1) (fun d h => (od_tok (hd d h)).2) (show _ ≤ 20000 by omega)).1
  refine Od.list (fun d h => ?_) (Nat.le_of_ble_eq_true rfl)
  rcases List.mem_cons.mp h with rfl | h
  · exact o1
  · rw [List.mem_singleton.mp h]
    exact o2
theorem cp_rep (x : Int) (n : Nat) : ∀ i, cp 1 (List.replicate (n + 1) x) i = List.replicate (n + 1 + i) x
  | 0 => rfl
  | i + 1 => by
    unfold cp
    rw [cp_rep x n i, List.length_replicate, List.getD_eq_getElem?_getD, List.getElem?_replicate, if_pos (by omega), ← Nat.add_assoc, List.replicate_succ']
    rfl
theorem row259 : (rowAt [.int 97, .tuple [.int 258, .int 1]] [] [PyData.int 97, .tuple [.int 258, .int 1]].length).drop ([] : List Int).length = List.replicate 259 97 := by
  show cp 1 (List.replicate (0 + 1) 97) 258 = _
  rw [cp_rep]
theorem farA : FarAt [.tuple [.int 3, .int 1]] [] 0 := ⟨_, rfl, by decide +kernel⟩
theorem farC : FarAt [.int 7, .tuple [.int 3, .int 2]] [] 1 := ⟨_, rfl, by decide +kernel⟩
theorem farC0 (i : Nat) (hi : i < 1) : ¬ FarAt [.int 7, .tuple [.int 3, .int 2]] [] i := by
  rintro ⟨d, h1, h2⟩
  have hi0 : i = 0 := by omega
  subst hi0
  cases h1
  exact nomatch h2
def spLaw (K : PySem.W.Frag) : Sp := fun vs H Q _ => ∃ (a : Addr) (ns : List Int), vs = [.ref a] ∧ SqL K H a (ns.map V.int) ∧ ns.length ≤ 63 ∧ ∀ H', Q (.bl true) H'
theorem ok_law (T : Txt K mg A) : FnG P w K mg base 8 A.f_law A.fd_law sP_law (spLaw K) := by
  refine okG T.F_law sc_law (fun vs H Q E h => ?_) (fun cdv Ar outer s H vs Q E hgd hr h => ⟨_, (pss_cons (ps_for PassesOwn.never rfl (pi_range1 (by rfl) T.z_range (pa_cons (pe_callB (call_max2 rfl) (by rfl) T.z_max (by decide +kernel) (pa_cons (pe_int) (pa_cons (pe_callB (call_min2 rfl) (by rfl) T.z_min (by decide +kernel) (pa_cons (pe_int) (pa_cons (pe_callB call_len_seq (by rfl) T.z_len PySem.boot_len (pa_cons (pv 0) pa_nil)) pa_nil))) pa_nil))) pa_nil)) (pg_name (i := 1) sc_law.nd rfl (Or.inl rfl)) (pss_cons (ps_set (i := 2) sc_law.nd rfl (Or.inr rfl) (pe_call (ok__law_bag T) (hr.mono (by decide)) rfl T.m__law_bag T.F__law_bag.kp T.b__law_bag .nil pass0 (pa_cons (pv 0) (pa_cons (pv 1) pa_nil))))
      (pss_one (ps_for PassesOwn.never rfl (pi_range1 (by rfl) T.z_range (pa_cons (pe_int) pa_nil)) (pg_name (i := 3) sc_law.nd rfl (Or.inl rfl)) (pss_cons (ps_setLc (i := 4) (own := [("_law_turn", 3)]) (g := gName 3) (tt := tYes) rfl sc_law.nd rfl rfl (sw_true rfl rfl rfl (by decide +kernel)) (pi_range1 (by rfl) T.z_range (pa_cons (pe_call (ok__law_take T) (hr.mono (by decide)) rfl T.m__law_take T.F__law_take.kp T.b__law_take .nil pass0 (pa_cons (pv 2) (pa_cons (pe_int) pa_nil))) pa_nil)) (blkOk_by (own := [("_law_turn", 3)]) (N := sN_law) (sc := defScope s_law) (by decide +kernel)) (fun _ _ _ _ _ => pg_name (i := 3) sc_law.nd rfl (Or.inl rfl)) (fun _ _ _ _ _ => pts_nil) (fun _ _ _ _ _ => (pe_call (ok__law_take T) (hr.mono (by decide)) rfl T.m__law_take T.F__law_take.kp T.b__law_take .nil pass0 (pa_cons (pv 2) (pa_cons (pe_int) pa_nil)))))
      (pss_cons (ps_set (i := 5) sc_law.nd rfl (Or.inl rfl) (pe_call (ok__law_tokens T) (hr.mono (by decide)) rfl T.m__law_tokens T.F__law_tokens.kp T.b__law_tokens .nil pass0 (pa_cons (pv 2) (pa_cons (pe_callB call_len_seq (by rfl) T.z_len PySem.boot_len (pa_cons (pv 4) pa_nil)) pa_nil))))
      (pss_cons (ps_par (i := 6) (j := 7) (by rfl) sc_law.nd rfl rfl (by decide) rfl rfl (pa_cons (pe_call (ok__law_expanded T) (hr.mono (by decide)) rfl T.m__law_expanded T.F__law_expanded.kp T.b__law_expanded .nil pass0 (pa_cons (pv 4) (pa_cons (pv 5) pa_nil))) (pa_cons (pe_callB (call_reprD hgd hr.units) (by rfl) T.z_repr (by decide +kernel) (pa_cons (pe_lst (pa_cons (pv 4) (pa_cons (pv 5) pa_nil))) pa_nil)) pa_nil)) (by rfl))
      (pss_cons (ps_set (i := 6) sc_law.nd rfl (Or.inl rfl) (pe_ifExp (pt_val (pe_call (ok__law_whole T) (hr.mono (by decide)) rfl T.m__law_whole T.F__law_whole.kp T.b__law_whole .nil pass0 (pa_cons (pv 6) pa_nil))) (pv 6) (pe_slice sl_list (pv 6) (po_some (pe_callB call_len_seq (by rfl) T.z_len PySem.boot_len (pa_cons (pv 4) pa_nil))) po_none)))
      (pss_cons (ps_if (PW.pt (pw_or (pt_cmpR (op_neD hr.units) (pe_call (ok__law_told T) (hr.mono (by decide)) rfl T.m__law_told T.F__law_told.kp T.b__law_told .nil pass0 (pa_cons (pv 5) (pa_cons (pv 4) pa_nil))) (pv 6) (nomark _)) (pw_or (pt_cmpR (op_neD hr.units) (pe_call (ok__law_told T) (hr.mono (by decide)) rfl T.m__law_told T.F__law_told.kp T.b__law_told .nil pass0 (pa_cons (pe_callTy call_tuple_of (by rfl) T.z_tuple (by decide +kernel) (pa_cons (pv 5) pa_nil)) (pa_cons (pe_callTy call_tuple_of (by rfl) T.z_tuple (by decide +kernel) (pa_cons (pv 4) pa_nil)) pa_nil))) (pv 6) (nomark _)) (pw_or1 (pt_cmpR op_ne (pe_callB (call_reprD hgd hr.units) (by rfl) T.z_repr (by decide +kernel) (pa_cons (pe_lst (pa_cons (pv 4) (pa_cons (pv 5) pa_nil))) pa_nil)) (pv 7) (nomark _)))))) (pss_one (ps_ret (pe_bl))) pss_nil)
      (pss_one (ps_if (pt_not (pt_val (pe_call (ok__law_whole T) (hr.mono (by decide)) rfl T.m__law_whole T.F__law_whole.kp T.b__law_whole .nil pass0 (pa_cons (pv 6) pa_nil)))) (pss_cons (ps_set (i := 8) sc_law.nd rfl (Or.inl rfl) (pe_callN (ok_expand T) (hr.mono (by decide)) rfl T.m_expand T.F_expand.kp T.kb_expand_1_before.choose_spec passX0 (pa_cons (pv 5) pa_nil) (pk_cons (pv 4) pk_nil)))
      (pss_cons (ps_expr (pe_bm PySem.F.plainAttrs_list PySem.F.slot_list_append PySem.F.type_list_append mt_append (pv 8) (pa_cons (pe_int) pa_nil)))
      (pss_one (ps_if (pt_cmpR (op_neD hr.units) (pe_callN0 (ok_expand T) (hr.mono (by decide)) rfl T.m_expand T.F_expand.kp T.kb_expand_0_tokens_before.choose_spec passX0 (pk_cons (pv 5) (pk_cons (pv 4) pk_nil))) (pv 6) (nomark _)) (pss_one (ps_ret (pe_bl))) pss_nil)))) pss_nil)))))))))))
      (pss_cons (ps_if (PW.pt (pw_or (pt_cmpR (op_neD hr.units) (pe_call (ok_expand T) (hr.mono (by decide)) rfl T.m_expand T.F_expand.kp T.b1_expand.choose_spec.2 T.b1_expand.choose_spec.1 passX0 (pa_cons (pe_lst (pa_cons (pe_int) (pa_cons (pe_tup (pa_cons (pe_int) (pa_cons (pe_int) pa_nil))) pa_nil))) pa_nil)) (pe_op op_rep (pe_lst (pa_cons (pe_int) pa_nil)) (pe_int)) (nomark _)) (pw_or1 (pt_cmpR (op_neD hr.units) (pe_callN (ok_expand T) (hr.mono (by decide)) rfl T.m_expand T.F_expand.kp T.kb_expand_1_before.choose_spec passX0 (pa_cons (pe_lst (pa_cons (pe_tup (pa_cons (pe_int) (pa_cons (pe_int) pa_nil))) pa_nil)) pa_nil) (pk_cons (pe_lst (pa_cons (pe_int) (pa_cons (pe_int) pa_nil))) pk_nil)) (pe_lst (pa_cons (pe_int) (pa_cons (pe_int) (pa_cons (pe_int) pa_nil)))) (nomark _))))) (pss_one (ps_ret (pe_bl))) pss_nil)
      (pss_one (ps_ret ((pe_and (pe_cmpR (op_eqD hr.units) (pe_call (ok_expand T) (hr.mono (by decide)) rfl T.m_expand T.F_expand.kp T.b1_expand.choose_spec.2 T.b1_expand.choose_spec.1 passX0 (pa_cons (pe_lst pa_nil) pa_nil)) (pe_lst pa_nil) (nomark _)) (pe_and (pe_cmpR op_eq (pe_call (ok__law_told T) (hr.mono (by decide)) rfl T.m__law_told T.F__law_told.kp T.b__law_told .nil pass0 (pa_cons (pe_lst (pa_cons (pe_tup (pa_cons (pe_int) (pa_cons (pe_int) pa_nil))) pa_nil)) (pa_cons (pe_lst pa_nil) pa_nil))) (pe_int) (nomark _)) (pe_one (pe_cmpR op_eq (pe_call (ok__law_told T) (hr.mono (by decide)) rfl T.m__law_told T.F__law_told.kp T.b__law_told .nil pass0 (pa_cons (pe_lst (pa_cons (pe_int) (pa_cons (pe_tup (pa_cons (pe_int) (pa_cons (pe_int) pa_nil))) pa_nil))) (pa_cons (pe_lst pa_nil) pa_nil))) (pe_int) (nomark _)))))))))), ?_⟩)
  · obtain ⟨a, ns, rfl, _⟩ := h
    rfl
  · obtain ⟨a, ns, rfl, hS, hn, k⟩ := h
    have w0 : Wd H [] H := ⟨Same.refl _, (fun _ h => nomatch h), List.nodup_nil⟩
    walk_at "zz"
    refine ⟨a, _, rfl, .inl hS, ?_⟩
    walk_at "zz"
    rw [List.length_map]
    refine ⟨_, _, rfl, ?_⟩
    walk_at "zz"
    refine ⟨_, _, rfl, ?_⟩
    walk_at "zz"
    refine for_r1 (by split <;> split <;> omega) (fun i σ G' W' => W' = [] ∧ ∃ x1 x2 x3 x4 x5 x6 x7 x8, σ = [some (.ref a), x1, x2, x3, x4, x5, x6, x7, x8]) w0 ⟨rfl, _, _, _, _, _, _, _, _, rfl⟩ ?_ ?_
    · rintro i σ' G1 W1 H1 hi e1 w1 ⟨rfl, x1, x2, x3, x4, x5, x6, x7, x8, rfl⟩
      have hi6 : (i : Int) < 6 := by split at hi <;> split at hi <;> omega
      clear w0
      walk_at "zz"
      refine ⟨G1, [], a, ns, _, w1, rfl, e1.seq hS, by omega, by omega, fun b H2 w2 => ?_⟩
      walk_at "zz"
      refine for_r1 (by omega) (fun i2 σ G' W' => W' = [(b, BagI)] ∧ ∃ x3 x4 x5 x6 x7 x8, σ = [some (.ref a), some (.int i), some (.ref b), x3, x4, x5, x6, x7, x8]) w2 ⟨rfl, _, _, _, _, _, _, rfl⟩ ?_ ?_
      · rintro i2 σ' G3 W3 H3 hi2 e3 w3 ⟨rfl, y3, y4, y5, y6, y7, y8, rfl⟩
        have hm : (b, BagI) ∈ [(b, BagI)] := List.mem_cons_self
        walk_at "zz"
        refine ⟨G3, _, b, _, w3, hm, rfl, by decide, by decide, fun r H4 hr0 hr1 w4 => ?_⟩
        refine lc_r1 (by omega) (fun i acc G' => ∃ ns : List Int, acc = ns.map V.int ∧ Byt ns ∧ ns.length = i) w4 ⟨[], rfl, (fun _ h => nomatch h), rfl⟩ (fun _ => rfl) ?_ ?_
        · rintro i D G' H' acc hi e w' ⟨ns, rfl, hL, hl⟩
          walk_at "zz"
          refine ⟨G', _, b, _, w', by simp, rfl, by omega, by omega, fun r4 H4 hr4 hr5 w4 => ?_⟩
          refine lc_put w4 (by walk_at "sm") (by rw [List.length_map]; omega) ⟨ns ++ [r4], by simp, fun n hn => ?_, by simp [hl]⟩
          rcases List.mem_append.mp hn with hn | hn
          · exact hL n hn
          · rw [List.mem_singleton.mp hn]
            omega
        rintro p4 G4 H5 acc e4 w5 ⟨row, rfl, hB, hl⟩
        obtain ⟨o, rfl, ho, e5, w6⟩ := w5.freeze1
        have h4 : HL (upd G4 p4 (.lst (row.map V.int))) p4 row := upd_same
        generalize upd G4 p4 (.lst (row.map V.int)) = G5 at e5 w6 h4
        have e15 : Same G3 G5 := e4.trans e5
        walk_at "zz"
        refine ⟨p4, _, rfl, .inl (seq_up w6 h4.seq), ?_⟩
        walk_at "zz"
        rw [List.length_map]
        refine ⟨G5, _, b, _, w6, hm, rfl, by omega, by omega, fun p6 xs G6 H6 e6 w7 h6 hT hxl => ?_⟩
        obtain ⟨ds, hds, htk⟩ := hT.all
        have hdl := dpAll_len hds
        have hTB : ∀ d ∈ ds, TokB d := fun d hd => TokB.of (htk d hd)
        walk_at "zz"
        refine ⟨G6, _, p6, p4, xs, ds, row, w7, rfl, SqL.of h6, hds, htk, (h4.up e6).seq, by omega, by omega, ?_⟩
        rcases far_or ds row with hno | ⟨j, hj, hj2⟩
        · refine .inl ⟨hno, fun q G7 H7 e7 w8 h7 => ?_⟩
          walk_at "zn"
          rename_i p8 G8 H8 e8 w9 h8
          have e58 : Same G5 G8 := (e6.trans e7).trans e8
          have e68 : Same G6 G8 := e7.trans e8
          have hD8 : Dp K G8 (.ref p8) (.list [.list (row.map .int), .list ds]) := .lst (SqL.of h8) (.cons (.lst (h4.up e58).seq (dpInts row)) (.cons (.lst (SqL.of (e68 _ _ h6)) (dpAll_up e68 hds)) .nil))
          have hO := od_kept hB (by omega) hTB (by omega)
          refine st_repr (dUp w9 hD8) hO (by decide) ?_
          walk_at "zz"
          walk_at "zi"
          walk_at "zz"
          have h78 := h7.up e8
          refine ⟨.ref q, rfl, .lst (SqL.of (hUp w9 h78)), ?_⟩
          dsimp only [isInt]
          walk_at "zz"
          refine ⟨p4, _, rfl, .inl (seq_up w9 (h4.up e58).seq), ?_⟩
          walk_at "zz"
          rw [List.length_map]
          refine ⟨_, rfl, ?_⟩
          walk_at "zz"
          have hrl := rowAt_len (row := row) hTB ds.length
          refine st_slL (SqL.of (hUp w9 h78)) w9 fun q9 G9 H9 e9 w10 h9 => ?_
          rw [cut_hi (by omega) (by rw [List.length_map]; omega)] at h9
          have hD : HL G9 q9 ((rowAt ds row ds.length).drop row.length) := by
            unfold HL
            rw [h9, List.map_drop]
            rfl
          generalize hDD : (rowAt ds row ds.length).drop row.length = D at hD
          have e59 : Same G5 G9 := e58.trans e9
          have e69 : Same G6 G9 := e68.trans e9
          have okd : ∀ G', Same G9 G' → OkD K G' (.ref p4) row := fun G' e => ⟨p4, rfl, .inl (h4.up (e59.trans e)).seq, hB, by omega⟩
          have oks : ∀ G', Same G9 G' → SqL K G' p6 xs := fun G' e => SqL.of ((e69.trans e) _ _ h6)
          have okx : ∀ G', Same G9 G' → DpAll K G' xs ds := fun G' e => dpAll_up (e69.trans e) hds
          have hDl : D.length ≤ 100000 := by
            rw [← hDD, List.length_drop]
            omega
          walk_at "zz"
          refine ⟨G9, _, p6, xs, ds, .ref p4, row, w10, rfl, .inl (oks _ (Same.refl _)), okx _ (Same.refl _), htk, okd _ (Same.refl _), by omega, by omega, .inl ⟨hno, fun q10 G10 H10 e10 w11 h10 => ?_⟩⟩
          rw [hDD] at h10
          walk_at "zz"
          refine st_neI (xs := D) (ys := D) (seq_up w11 h10.seq) (seq_up w11 (hD.up e10).seq) ?_
          rw [decide_eq_true rfl]
          walk_at "zz"
          refine ⟨p6, _, rfl, .inl ⟨seq_up w11 (oks _ e10), fun t ht => ?_⟩⟩
          have e11 : Same G10 (upd G10 t (.tup xs)) := same_upd (w11.free ht)
          have w12 : Wd _ _ (upd H10 t (.tup xs)) := w11.new ht
          have ht11 : SqT K (upd G10 t (.tup xs)) t xs := SqT.of upd_same
          generalize upd G10 t (.tup xs) = G11 at e11 w12 ht11
          generalize upd H10 t (.tup xs) = H11 at w12
          have e911 := e10.trans e11
          walk_at "zz"
          refine ⟨p4, _, rfl, .inl ⟨seq_up w12 (h4.up (e59.trans e911)).seq, fun t2 ht2 => ?_⟩⟩
          have e12 : Same G11 (upd G11 t2 (.tup (row.map V.int))) := same_upd (w12.free ht2)
          have w13 : Wd _ _ (upd H11 t2 (.tup (row.map V.int))) := w12.new ht2
          have ht12 : SqT K (upd G11 t2 (.tup (row.map V.int))) t2 (row.map V.int) := SqT.of upd_same
          generalize upd G11 t2 (.tup (row.map V.int)) = G12 at e12 w13 ht12
          generalize upd H11 t2 (.tup (row.map V.int)) = H12 at w13
          have e912 := e911.trans e12
          walk_at "zz"
          refine ⟨G12, _, t, xs, ds, .ref t2, row, w13, rfl, .inr (seqT e12 ht11), okx _ e912, htk, ⟨t2, rfl, .inr ht12, hB, by omega⟩, by omega, by omega, .inl ⟨hno, fun q13 G13 H13 e13 w14 h13 => ?_⟩⟩
          rw [hDD] at h13
          have e913 := e912.trans e13
          walk_at "zz"
          refine st_neI (xs := D) (ys := D) (seq_up w14 h13.seq) (seq_up w14 (hD.up e913).seq) ?_
          rw [decide_eq_true rfl]
          walk_at "zn"
          rename_i p14 G14 H14 e14 w15 h14
          have e914 := e913.trans e14
          have e5' := e59.trans e914
          have e6' := e69.trans e914
          have hD14 : Dp K G14 (.ref p14) (.list [.list (row.map .int), .list ds]) := .lst (SqL.of h14) (.cons (.lst (h4.up e5').seq (dpInts row)) (.cons (.lst (SqL.of (e6' _ _ h6)) (dpAll_up e6' hds)) .nil))
          refine st_repr (dUp w15 hD14) hO (by decide) ?_
          walk_at "zz"
          rw [ne_self]
          walk_at "zz"
          refine ⟨.ref q9, rfl, .lst (SqL.of (hUp w15 (hD.up e914))), ?_⟩
          dsimp only [isInt]
          walk_at "zz"
          refine ⟨rfl, rfl, G14, _, p6, xs, ds, .ref p4, row, w15, rfl, .inl (oks _ e914), okx _ e914, htk, okd _ e914, by omega, by omega, .inl ⟨hno, fun q15 G15 H15 e15 w16 => ?_⟩⟩
          walk_at "zz"
          refine ⟨tyL' (Wd.is1 w16), ?_⟩
          walk_at "zz"
          rw [hDD] at w16
          refine st_appL (Wd.is1 w16) (by rw [List.length_map]; omega) ?_
          have w17 := (Wd.put1 (o := .lst (D.map V.int ++ [.int 1])) w16).drop1
          generalize upd H15 q15 (.lst (D.map V.int ++ [.int 1])) = H16 at w17
          walk_at "zz"
          have e915 := e914.trans e15
          refine ⟨rfl, rfl, G15, _, p6, xs, ds, .ref p4, row, w17, rfl, .inl (oks _ e915), okx _ e915, htk, okd _ e915, by omega, by omega, .inl ⟨hno, fun q17 G17 H17 e17 w18 => ?_⟩⟩
          walk_at "zz"
          rw [hDD] at w18
          refine st_neI (xs := D) (ys := D) (SqL.of (Wd.is1 w18)) (seq_up w18 (hD.up (e915.trans e17)).seq) ?_
          rw [decide_eq_true rfl]
          walk_at "zz"
          exact st_btw (by walk_at "sm") (Wd.drop1 w18) ⟨rfl, _, _, _, _, _, _, rfl⟩
        · refine .inr ⟨j, hj, hj2, fun G7 H7 e7 w8 => ?_⟩
          walk_at "zn"
          rename_i p8 G8 H8 e8 w9 h8
          have e58 : Same G5 G8 := (e6.trans e7).trans e8
          have e68 : Same G6 G8 := e7.trans e8
          have hD8 : Dp K G8 (.ref p8) (.list [.list (row.map .int), .list ds]) := .lst (SqL.of h8) (.cons (.lst (h4.up e58).seq (dpInts row)) (.cons (.lst (SqL.of (e68 _ _ h6)) (dpAll_up e68 hds)) .nil))
          have hO := od_kept hB (by omega) hTB (by omega)
          refine st_repr (dUp w9 hD8) hO (by decide) ?_
          walk_at "zz"
          walk_at "zi"
          walk_at "zz"
          refine ⟨.int j, rfl, .int _, ?_⟩
          dsimp only [isInt]
          walk_at "zz"
          have okd : ∀ G', Same G8 G' → OkD K G' (.ref p4) row := fun G' e => ⟨p4, rfl, .inl (h4.up (e58.trans e)).seq, hB, by omega⟩
          have oks : ∀ G', Same G8 G' → SqL K G' p6 xs := fun G' e => SqL.of ((e68.trans e) _ _ h6)
          have okx : ∀ G', Same G8 G' → DpAll K G' xs ds := fun G' e => dpAll_up (e68.trans e) hds
          refine ⟨G8, _, p6, xs, ds, .ref p4, row, w9, rfl, .inl (oks _ (Same.refl _)), okx _ (Same.refl _), htk, okd _ (Same.refl _), by omega, by omega, .inr ⟨j, hj, hj2, fun G10 H10 e10 w11 => ?_⟩⟩
          walk_at "zz"
          refine st_neD (.int _) (.int _) (Sh.ok (n := 0) (.int _) (by decide)) (Sh.ok (n := 0) (.int _) (by decide)) (eqv_int _ _) ?_
          rw [decide_eq_true rfl]
          walk_at "zz"
          refine ⟨p6, _, rfl, .inl ⟨seq_up w11 (oks _ e10), fun t ht => ?_⟩⟩
          have e11 : Same G10 (upd G10 t (.tup xs)) := same_upd (w11.free ht)
          have w12 : Wd _ _ (upd H10 t (.tup xs)) := w11.new ht
          have ht11 : SqT K (upd G10 t (.tup xs)) t xs := SqT.of upd_same
          generalize upd G10 t (.tup xs) = G11 at e11 w12 ht11
          generalize upd H10 t (.tup xs) = H11 at w12
          have e911 := e10.trans e11
          walk_at "zz"
          refine ⟨p4, _, rfl, .inl ⟨seq_up w12 (h4.up (e58.trans e911)).seq, fun t2 ht2 => ?_⟩⟩
          have e12 : Same G11 (upd G11 t2 (.tup (row.map V.int))) := same_upd (w12.free ht2)
          have w13 : Wd _ _ (upd H11 t2 (.tup (row.map V.int))) := w12.new ht2
          have ht12 : SqT K (upd G11 t2 (.tup (row.map V.int))) t2 (row.map V.int) := SqT.of upd_same
          generalize upd G11 t2 (.tup (row.map V.int)) = G12 at e12 w13 ht12
          generalize upd H11 t2 (.tup (row.map V.int)) = H12 at w13
          have e912 := e911.trans e12
          walk_at "zz"
          refine ⟨G12, _, t, xs, ds, .ref t2, row, w13, rfl, .inr (seqT e12 ht11), okx _ e912, htk, ⟨t2, rfl, .inr ht12, hB, by omega⟩, by omega, by omega, .inr ⟨j, hj, hj2, fun G13 H13 e13 w14 => ?_⟩⟩
          have e913 := e912.trans e13
          walk_at "zz"
          refine st_neD (.int _) (.int _) (Sh.ok (n := 0) (.int _) (by decide)) (Sh.ok (n := 0) (.int _) (by decide)) (eqv_int _ _) ?_
          rw [decide_eq_true rfl]
          walk_at "zn"
          rename_i p14 G14 H14 e14 w15 h14
          have e914 := e913.trans e14
          have e5' := e58.trans e914
          have e6' := e68.trans e914
          have hD14 : Dp K G14 (.ref p14) (.list [.list (row.map .int), .list ds]) := .lst (SqL.of h14) (.cons (.lst (h4.up e5').seq (dpInts row)) (.cons (.lst (SqL.of (e6' _ _ h6)) (dpAll_up e6' hds)) .nil))
          refine st_repr (dUp w15 hD14) hO (by decide) ?_
          walk_at "zz"
          rw [ne_self]
          walk_at "zz"
          refine ⟨.int j, rfl, .int _, ?_⟩
          dsimp only [isInt]
          walk_at "zz"
          exact st_btw (by walk_at "sm") w15 ⟨rfl, _, _, _, _, _, _, rfl⟩
      · rintro σ' G7 W7 H7 e7 w7 ⟨rfl, y3, y4, y5, y6, y7, y8, rfl⟩
        exact st_btw (by walk_at "sm") w7.drop1 ⟨rfl, _, _, _, _, _, _, _, _, rfl⟩
    · rintro σ' G5 W5 H5 e5 w5 ⟨rfl, x1, x2, x3, x4, x5, x6, x7, x8, rfl⟩
      clear w0
      walk_at "zn"
      rename_i p1 G1 H1 e1 w1 h1 p2 G2 H2 e2 w2 h2
      have hd2 : DpAll K G2 [.int 97, .ref p1] [.int 97, .tuple [.int 258, .int 1]] := .cons (.int 97) (.cons (.tup (SqT.of (e2 _ _ h1)) (.cons (.int 258) (.cons (.int 1) .nil))) .nil)
      refine ⟨G2, _, p2, _, _, .ref A.d_expand_before, [], w2, rfl, .inl (SqL.of h2), hd2, (by decide), ⟨_, rfl, .inr (T.dt_expand_before _), (fun _ h => nomatch h), by decide⟩, Nat.le_of_ble_eq_true rfl, by decide, .inl ⟨?_, fun q3 G3 H3 e3 w3 => ?_⟩⟩
      · rintro i ⟨d, h1, h2⟩
        match i, h1 with
        | 0, h => cases h; exact nomatch h2
        | 1, h => cases h; revert h2; decide +kernel
      · walk_at "zn"
        rename_i p4 G4 H4 e4 w4 h4
        refine st_repI (hUp w4 h4) (by decide) (by decide) w4 fun p5 G5 H5 e5 w5 h5 => ?_
        rw [show (259 : Int).toNat = 259 from rfl] at h5
        have hs := Wd.is1 w5
        rw [row259] at hs
        have w6 := Wd.drop1 w5
        generalize List.replicate 259 (97 : Int) = D at h5 hs
        refine st_neI (xs := D) (ys := D) (SqL.of hs) (seq_up w5 h5.seq) ?_
        rw [decide_eq_true rfl]
        clear hs w5 h5 w4 h4 w3 w2 h2 w1 h1 hd2
        walk_at "zn"
        rename_i p1 G7 H7 e7 w7 h7 p2 G8 H8 e8 w8 h8 p3 G9 H9 e9 w9 h9
        have hd2 : DpAll K G9 [.ref p1] [.tuple [.int 3, .int 2]] := .cons (.tup (SqT.of ((e8.trans e9) _ _ h7)) (.cons (.int 3) (.cons (.int 2) .nil))) .nil
        refine ⟨rfl, rfl, G9, _, p2, [.ref p1], _, .ref p3, [1, 2], w9, rfl, .inl (SqL.of (e9 _ _ h8)), hd2, (by decide), ⟨_, rfl, .inl (SqL.of h9), (show ∀ n ∈ [(1 : Int), 2], 0 ≤ n ∧ n ≤ 255 by decide), by decide⟩, Nat.le_of_ble_eq_true rfl, by decide, .inl ⟨?_, fun q3 G10 H10 e10 w10 => ?_⟩⟩
        · rintro i ⟨d, h1, h2⟩
          match i, h1 with
          | 0, h => cases h; revert h2; decide +kernel
        clear hd2 h7 h8 h9 w6 w7 w8 w9
        walk_at "zn"
        rename_i p4 G11 H11 e11 w11 h11
        refine st_neI (xs := [1, 2, 1]) (ys := [1, 2, 1]) (SqL.of (Wd.is1 w11)) (SqL.of (w11.at h11)) ?_
        rw [decide_eq_true rfl]
        have w12 := Wd.drop1 w11
        clear w11 w10 h11
        walk_at "zn"
        rename_i p5 G13 H13 e13 w13 h13
        refine ⟨G13, _, p5, [], [], .ref A.d_expand_before, [], w13, rfl, .inl (SqL.of h13), .nil, (by decide), ⟨_, rfl, .inr (T.dt_expand_before _), (fun _ h => nomatch h), by decide⟩, by decide, by decide, .inl ⟨fun i h => ?_, fun q14 G14 H14 e14 w14 => ?_⟩⟩
        · obtain ⟨d, h1, h2⟩ := h
          exact nomatch h1
        clear w13 w12 h13
        walk_at "zn"
        rename_i p6 G15 H15 e15 w15 h15
        refine st_eqI (xs := []) (ys := []) (SqL.of (Wd.is1 w15)) (SqL.of (w15.at h15)) ?_
        rw [decide_eq_true rfl]
        have w16 := Wd.drop1 w15
        clear w15 w14 h15
        walk_at "zn"
        rename_i p1 G17 H17 e17 w17 h17 p2 G18 H18 e18 w18 h18 p3 G19 H19 e19 w19 h19
        have hd3 : DpAll K G19 [.ref p1] [.tuple [.int 3, .int 1]] := .cons (.tup (SqT.of ((e18.trans e19) _ _ h17)) (.cons (.int 3) (.cons (.int 1) .nil))) .nil
        refine ⟨G19, _, p2, [.ref p1], _, .ref p3, [], w19, rfl, .inl (SqL.of (e19 _ _ h18)), hd3, (by decide), ⟨_, rfl, .inl (SqL.of h19), (fun _ h => nomatch h), by decide⟩, Nat.le_of_ble_eq_true rfl, by decide, .inr ⟨0, farA, (fun i h => absurd h (Nat.not_lt_zero i)), fun G20 H20 e20 w20 => ?_⟩⟩
        clear hd3 h17 h18 h19 w17 w18 w19 w16
        walk_at "z"
        walk_at "z"
        rw [show decide (V.int ((0 : Nat) : Int) = V.int 0) = true from rfl]
        walk_at "zn"
        rename_i p1 G17 H17 e17 w17 h17 p2 G18 H18 e18 w18 h18 p3 G19 H19 e19 w19 h19
        have hd3 : DpAll K G19 [.int 7, .ref p1] [.int 7, .tuple [.int 3, .int 2]] := .cons (.int 7) (.cons (.tup (SqT.of ((e18.trans e19) _ _ h17)) (.cons (.int 3) (.cons (.int 2) .nil))) .nil)
        refine ⟨G19, _, p2, [.int 7, .ref p1], _, .ref p3, [], w19, rfl, .inl (SqL.of (e19 _ _ h18)), hd3, (by decide), ⟨_, rfl, .inl (SqL.of h19), (fun _ h => nomatch h), by decide⟩, Nat.le_of_ble_eq_true rfl, by decide, .inr ⟨1, farC, farC0, fun G21 H21 e21 w21 => ?_⟩⟩
        clear hd3 h17 h18 h19 w17 w18 w19
        walk_at "z"
        walk_at "z"
        rw [show decide (V.int ((1 : Nat) : Int) = V.int 1) = true from rfl]
        exact k H21

end
theorem all_mk {l : PySem.W.OpenLaw} {w : World} {K : PySem.W.Frag} {h : Heap} {mg : Str → Option Value} {fa : Addr} (X : K.In h) (G : h.Ns mainGlobals mg) (hfa : mg "law" = some (.ref fa))
    {CBadData : Addr} {nmBadData qnBadData : Str} {NBadData : Addr} {bsBadData : List Value} {snBadData : List Str} {subBadData : List Value} {abBadData : Bool} {colBadData : Option Bool} {ddBadData : Option Addr} {k0BadData k1BadData k2BadData k3BadData k5BadData : Option Value}
    {A0 : Addr} {od0 an0 : Option Addr} {sl0 : Array (Option Value)} {oc0 kV0 dc0 pm0 cd0 ct0 : Value}
    {CBadToken : Addr} {nmBadToken qnBadToken : Str} {NBadToken : Addr} {bsBadToken : List Value} {snBadToken : List Str} {subBadToken : List Value} {abBadToken : Bool} {colBadToken : Option Bool} {ddBadToken : Option Addr} {k0BadToken k1BadToken k2BadToken k3BadToken k5BadToken : Option Value}
    {A1 : Addr} {od1 an1 : Option Addr} {sl1 : Array (Option Value)} {oc1 kV1 dc1 pm1 cd1 ct1 : Value}
    {CFar : Addr} {nmFar qnFar : Str} {NFar : Addr} {bsFar : List Value} {snFar : List Str} {subFar : List Value} {abFar : Bool} {colFar : Option Bool} {ddFar : Option Addr} {k0Far k1Far k2Far k3Far k5Far : Option Value}
    {A2 : Addr} {od2 an2 : Option Addr} {sl2 : Array (Option Value)} {oc2 kV2 dc2 pm2 cd2 ct2 : Value}
    {A3 : Addr} {od3 an3 : Option Addr} {sl3 : Array (Option Value)} {oc3 kV3 dc3 pm3 cd3 ct3 : Value}
    {A4 : Addr} {od4 an4 : Option Addr} {sl4 : Array (Option Value)} {oc4 kV4 dc4 pm4 cd4 ct4 : Value}
    {A5 : Addr} {od5 an5 : Option Addr} {sl5 : Array (Option Value)} {oc5 kV5 dc5 pm5 cd5 ct5 : Value}
    {A6 : Addr} {od6 an6 : Option Addr} {sl6 : Array (Option Value)} {oc6 kV6 dc6 pm6 cd6 ct6 : Value}
    {A7 : Addr} {od7 an7 : Option Addr} {sl7 : Array (Option Value)} {oc7 kV7 dc7 pm7 cd7 ct7 : Value}
    {A8 : Addr} {od8 an8 : Option Addr} {sl8 : Array (Option Value)} {oc8 kV8 dc8 pm8 cd8 ct8 : Value}
    {A9 : Addr} {od9 an9 : Option Addr} {sl9 : Array (Option Value)} {oc9 kV9 dc9 pm9 cd9 ct9 : Value}
    {A10 : Addr} {od10 an10 : Option Addr} {sl10 : Array (Option Value)} {oc10 dc10 pm10 cd10 ct10 : Value}
    {KD10 : Addr}
    {KT10_0 : Addr} {kn10_0 : Nat} {ks10_0 : Array (Option Value)} {kd10_0 : Option Addr}
    {A11 : Addr} {od11 an11 : Option Addr} {sl11 : Array (Option Value)} {oc11 kV11 dc11 pm11 cd11 ct11 : Value}
    {A12 : Addr} {od12 an12 : Option Addr} {sl12 : Array (Option Value)} {oc12 kV12 dc12 pm12 cd12 ct12 : Value}
    {A13 : Addr} {od13 an13 : Option Addr} {sl13 : Array (Option Value)} {oc13 kV13 dc13 pm13 cd13 ct13 : Value}
    {A14 : Addr} {od14 an14 : Option Addr} {sl14 : Array (Option Value)} {oc14 kV14 dc14 pm14 cd14 ct14 : Value}
    {A15 : Addr} {od15 an15 : Option Addr} {sl15 : Array (Option Value)} {oc15 kV15 dc15 pm15 cd15 ct15 : Value}
    {A16 : Addr} {od16 an16 : Option Addr} {sl16 : Array (Option Value)} {oc16 kV16 dc16 pm16 cd16 ct16 : Value}
    {A17 : Addr} {od17 an17 : Option Addr} {sl17 : Array (Option Value)} {oc17 kV17 dc17 pm17 cd17 ct17 : Value}
    {A18 : Addr} {od18 an18 : Option Addr} {sl18 : Array (Option Value)} {oc18 kV18 dc18 pm18 cd18 ct18 : Value}
    {A19 : Addr} {od19 an19 : Option Addr} {sl19 : Array (Option Value)} {oc19 kV19 dc19 pm19 cd19 ct19 : Value}
    {tc0 : Tok}
    {tc1 : Tok}
    {tc2 : Tok}
    {tc3 : Tok}
    (xg_BadData : PySem.W.nsIn K mainGlobals "BadData" = some (some (.ref CBadData)))
    (xl_BadData : K.lookup CBadData = some (excClassObj nmBadData qnBadData CBadData NBadData bsBadData tl_ValueError true snBadData subBadData abBadData colBadData ddBadData k0BadData k1BadData k2BadData k3BadData k5BadData "ValueError.__new__"))
    (xsa_BadData : PySem.W.findIn K (.ref CBadData) "__setattr__" = some (some (.builtin "object.__setattr__")))
    (xga_BadData : PySem.W.findIn K (.ref CBadData) "__getattribute__" = some (some (.builtin "BaseException.__getattribute__")))
    (xgg_BadData : PySem.W.findIn K (.ref CBadData) "__getattr__" = some none)
    (xno_BadData : PySem.W.findIn K (.ref CBadData) "position" = some none)
    (xk_BadData : PySem.W.keepIn K (.ref CBadData) = true)
    (xe_BadData : PySem.W.subIn K (.ref CBadData) (.type "BaseException") = some true)
    (xt_BadData : PySem.W.typeIn K (.ref CBadData) = some (.type "type"))
    (xh_BadData : PySem.W.hasDictIn K CBadData = true)
    (xs_BadData : PySem.W.subIn K (.ref CBadData) (.ref CBadData) = some true)
    (xca_BadData : PySem.W.findIn K (.ref CBadData) "__class__" = some (some (.builtin "object.__class__")))
    (xv_BadData : PySem.W.subIn K (.ref CBadData) (.type "ValueError") = some true)
    (xcm_BadData : PySem.W.mroIn K CBadData (.type "object") = some true)
    (a0 : PySem.W.findIn K (.ref CBadData) "__init__" = some (some (.ref A0)))
    (u0 : PySem.W.typeIn K (.ref A0) = some (.type "function"))
    (l0 : K.lookup A0 = some ⟨oc0, od0, .func (PySem.W.fnOf "__init__" "BadData.__init__" (defArgs s_BadData___init__) (defBody s_BadData___init__) (defScope s_BadData___init__) .none kV0 dc0 pm0 an0 cd0 ct0), sl0⟩)
    (c0 : PySem.W.codeIn K cd0 "BadData.__init__" = true) (k0 : PySem.W.keepIn K (.ref A0) = true)
    (xg_BadToken : PySem.W.nsIn K mainGlobals "BadToken" = some (some (.ref CBadToken)))
    (xl_BadToken : K.lookup CBadToken = some (excClassObj nmBadToken qnBadToken CBadToken NBadToken bsBadToken tl_ValueError true snBadToken subBadToken abBadToken colBadToken ddBadToken k0BadToken k1BadToken k2BadToken k3BadToken k5BadToken "ValueError.__new__"))
    (xsa_BadToken : PySem.W.findIn K (.ref CBadToken) "__setattr__" = some (some (.builtin "object.__setattr__")))
    (xga_BadToken : PySem.W.findIn K (.ref CBadToken) "__getattribute__" = some (some (.builtin "BaseException.__getattribute__")))
    (xgg_BadToken : PySem.W.findIn K (.ref CBadToken) "__getattr__" = some none)
    (xno_BadToken : PySem.W.findIn K (.ref CBadToken) "position" = some none)
    (xk_BadToken : PySem.W.keepIn K (.ref CBadToken) = true)
    (xe_BadToken : PySem.W.subIn K (.ref CBadToken) (.type "BaseException") = some true)
    (xt_BadToken : PySem.W.typeIn K (.ref CBadToken) = some (.type "type"))
    (xh_BadToken : PySem.W.hasDictIn K CBadToken = true)
    (xs_BadToken : PySem.W.subIn K (.ref CBadToken) (.ref CBadToken) = some true)
    (xca_BadToken : PySem.W.findIn K (.ref CBadToken) "__class__" = some (some (.builtin "object.__class__")))
    (xv_BadToken : PySem.W.subIn K (.ref CBadToken) (.type "ValueError") = some true)
    (xcm_BadToken : PySem.W.mroIn K CBadToken (.type "object") = some true)
    (a1 : PySem.W.findIn K (.ref CBadToken) "__init__" = some (some (.ref A1)))
    (u1 : PySem.W.typeIn K (.ref A1) = some (.type "function"))
    (l1 : K.lookup A1 = some ⟨oc1, od1, .func (PySem.W.fnOf "__init__" "BadToken.__init__" (defArgs s_BadToken___init__) (defBody s_BadToken___init__) (defScope s_BadToken___init__) .none kV1 dc1 pm1 an1 cd1 ct1), sl1⟩)
    (c1 : PySem.W.codeIn K cd1 "BadToken.__init__" = true) (k1 : PySem.W.keepIn K (.ref A1) = true)
    (xg_Far : PySem.W.nsIn K mainGlobals "Far" = some (some (.ref CFar)))
    (xl_Far : K.lookup CFar = some (excClassObj nmFar qnFar CFar NFar bsFar tl_LookupError true snFar subFar abFar colFar ddFar k0Far k1Far k2Far k3Far k5Far "LookupError.__new__"))
    (xsa_Far : PySem.W.findIn K (.ref CFar) "__setattr__" = some (some (.builtin "object.__setattr__")))
    (xga_Far : PySem.W.findIn K (.ref CFar) "__getattribute__" = some (some (.builtin "BaseException.__getattribute__")))
    (xgg_Far : PySem.W.findIn K (.ref CFar) "__getattr__" = some none)
    (xno_Far : PySem.W.findIn K (.ref CFar) "position" = some none)
    (xk_Far : PySem.W.keepIn K (.ref CFar) = true)
    (xe_Far : PySem.W.subIn K (.ref CFar) (.type "BaseException") = some true)
    (xt_Far : PySem.W.typeIn K (.ref CFar) = some (.type "type"))
    (xh_Far : PySem.W.hasDictIn K CFar = true)
    (xs_Far : PySem.W.subIn K (.ref CFar) (.ref CFar) = some true)
    (xca_Far : PySem.W.findIn K (.ref CFar) "__class__" = some (some (.builtin "object.__class__")))
    (xv_Far : PySem.W.subIn K (.ref CFar) (.type "LookupError") = some true)
    (xcm_Far : PySem.W.mroIn K CFar (.type "object") = some true)
    (a2 : PySem.W.findIn K (.ref CFar) "__init__" = some (some (.ref A2)))
    (u2 : PySem.W.typeIn K (.ref A2) = some (.type "function"))
    (l2 : K.lookup A2 = some ⟨oc2, od2, .func (PySem.W.fnOf "__init__" "Far.__init__" (defArgs s_Far___init__) (defBody s_Far___init__) (defScope s_Far___init__) .none kV2 dc2 pm2 an2 cd2 ct2), sl2⟩)
    (c2 : PySem.W.codeIn K cd2 "Far.__init__" = true) (k2 : PySem.W.keepIn K (.ref A2) = true)
    (a3 : PySem.W.nsIn K mainGlobals "is_integer" = some (some (.ref A3)))
    (l3 : K.lookup A3 = some ⟨oc3, od3, .func (PySem.W.fnOf "is_integer" "is_integer" (defArgs s_is_integer) (defBody s_is_integer) (defScope s_is_integer) .none kV3 dc3 pm3 an3 cd3 ct3), sl3⟩)
    (c3 : PySem.W.codeIn K cd3 "is_integer" = true) (k3 : PySem.W.keepIn K (.ref A3) = true)
    (a4 : PySem.W.nsIn K mainGlobals "in_range" = some (some (.ref A4)))
    (l4 : K.lookup A4 = some ⟨oc4, od4, .func (PySem.W.fnOf "in_range" "in_range" (defArgs s_in_range) (defBody s_in_range) (defScope s_in_range) .none kV4 dc4 pm4 an4 cd4 ct4), sl4⟩)
    (c4 : PySem.W.codeIn K cd4 "in_range" = true) (k4 : PySem.W.keepIn K (.ref A4) = true)
    (a5 : PySem.W.nsIn K mainGlobals "is_byte" = some (some (.ref A5)))
    (l5 : K.lookup A5 = some ⟨oc5, od5, .func (PySem.W.fnOf "is_byte" "is_byte" (defArgs s_is_byte) (defBody s_is_byte) (defScope s_is_byte) .none kV5 dc5 pm5 an5 cd5 ct5), sl5⟩)
    (c5 : PySem.W.codeIn K cd5 "is_byte" = true) (k5 : PySem.W.keepIn K (.ref A5) = true)
    (a6 : PySem.W.nsIn K mainGlobals "checked_data" = some (some (.ref A6)))
    (l6 : K.lookup A6 = some ⟨oc6, od6, .func (PySem.W.fnOf "checked_data" "checked_data" (defArgs s_checked_data) (defBody s_checked_data) (defScope s_checked_data) .none kV6 dc6 pm6 an6 cd6 ct6), sl6⟩)
    (c6 : PySem.W.codeIn K cd6 "checked_data" = true) (k6 : PySem.W.keepIn K (.ref A6) = true)
    (a7 : PySem.W.nsIn K mainGlobals "is_token" = some (some (.ref A7)))
    (l7 : K.lookup A7 = some ⟨oc7, od7, .func (PySem.W.fnOf "is_token" "is_token" (defArgs s_is_token) (defBody s_is_token) (defScope s_is_token) .none kV7 dc7 pm7 an7 cd7 ct7), sl7⟩)
    (c7 : PySem.W.codeIn K cd7 "is_token" = true) (k7 : PySem.W.keepIn K (.ref A7) = true)
    (a8 : PySem.W.nsIn K mainGlobals "check_tokens" = some (some (.ref A8)))
    (l8 : K.lookup A8 = some ⟨oc8, od8, .func (PySem.W.fnOf "check_tokens" "check_tokens" (defArgs s_check_tokens) (defBody s_check_tokens) (defScope s_check_tokens) .none kV8 dc8 pm8 an8 cd8 ct8), sl8⟩)
    (c8 : PySem.W.codeIn K cd8 "check_tokens" = true) (k8 : PySem.W.keepIn K (.ref A8) = true)
    (a9 : PySem.W.nsIn K mainGlobals "copy_into" = some (some (.ref A9)))
    (l9 : K.lookup A9 = some ⟨oc9, od9, .func (PySem.W.fnOf "copy_into" "copy_into" (defArgs s_copy_into) (defBody s_copy_into) (defScope s_copy_into) .none kV9 dc9 pm9 an9 cd9 ct9), sl9⟩)
    (c9 : PySem.W.codeIn K cd9 "copy_into" = true) (k9 : PySem.W.keepIn K (.ref A9) = true)
    (a10 : PySem.W.nsIn K mainGlobals "expand" = some (some (.ref A10)))
    (l10 : K.lookup A10 = some ⟨oc10, od10, .func (PySem.W.fnOf "expand" "expand" (defArgs s_expand) (defBody s_expand) (defScope s_expand) .none (.ref KD10) dc10 pm10 an10 cd10 ct10), sl10⟩)
    (kx10_0 : PySem.W.nsIn K KD10 "before" = some (some (.ref KT10_0)))
    (kl10_0 : K.lookup KT10_0 = some ⟨.type "tuple", kd10_0, .seq #[] kn10_0, ks10_0⟩)
    (c10 : PySem.W.codeIn K cd10 "expand" = true) (k10 : PySem.W.keepIn K (.ref A10) = true)
    (a11 : PySem.W.nsIn K mainGlobals "_law_bag" = some (some (.ref A11)))
    (l11 : K.lookup A11 = some ⟨oc11, od11, .func (PySem.W.fnOf "_law_bag" "_law_bag" (defArgs s__law_bag) (defBody s__law_bag) (defScope s__law_bag) .none kV11 dc11 pm11 an11 cd11 ct11), sl11⟩)
    (c11 : PySem.W.codeIn K cd11 "_law_bag" = true) (k11 : PySem.W.keepIn K (.ref A11) = true)
    (a12 : PySem.W.nsIn K mainGlobals "_law_take" = some (some (.ref A12)))
    (l12 : K.lookup A12 = some ⟨oc12, od12, .func (PySem.W.fnOf "_law_take" "_law_take" (defArgs s__law_take) (defBody s__law_take) (defScope s__law_take) .none kV12 dc12 pm12 an12 cd12 ct12), sl12⟩)
    (c12 : PySem.W.codeIn K cd12 "_law_take" = true) (k12 : PySem.W.keepIn K (.ref A12) = true)
    (a13 : PySem.W.nsIn K mainGlobals "_law_one" = some (some (.ref A13)))
    (l13 : K.lookup A13 = some ⟨oc13, od13, .func (PySem.W.fnOf "_law_one" "_law_one" (defArgs s__law_one) (defBody s__law_one) (defScope s__law_one) .none kV13 dc13 pm13 an13 cd13 ct13), sl13⟩)
    (c13 : PySem.W.codeIn K cd13 "_law_one" = true) (k13 : PySem.W.keepIn K (.ref A13) = true)
    (a14 : PySem.W.nsIn K mainGlobals "_law_whole" = some (some (.ref A14)))
    (l14 : K.lookup A14 = some ⟨oc14, od14, .func (PySem.W.fnOf "_law_whole" "_law_whole" (defArgs s__law_whole) (defBody s__law_whole) (defScope s__law_whole) .none kV14 dc14 pm14 an14 cd14 ct14), sl14⟩)
    (c14 : PySem.W.codeIn K cd14 "_law_whole" = true) (k14 : PySem.W.keepIn K (.ref A14) = true)
    (a15 : PySem.W.nsIn K mainGlobals "_law_token" = some (some (.ref A15)))
    (l15 : K.lookup A15 = some ⟨oc15, od15, .func (PySem.W.fnOf "_law_token" "_law_token" (defArgs s__law_token) (defBody s__law_token) (defScope s__law_token) .none kV15 dc15 pm15 an15 cd15 ct15), sl15⟩)
    (c15 : PySem.W.codeIn K cd15 "_law_token" = true) (k15 : PySem.W.keepIn K (.ref A15) = true)
    (a16 : PySem.W.nsIn K mainGlobals "_law_expanded" = some (some (.ref A16)))
    (l16 : K.lookup A16 = some ⟨oc16, od16, .func (PySem.W.fnOf "_law_expanded" "_law_expanded" (defArgs s__law_expanded) (defBody s__law_expanded) (defScope s__law_expanded) .none kV16 dc16 pm16 an16 cd16 ct16), sl16⟩)
    (c16 : PySem.W.codeIn K cd16 "_law_expanded" = true) (k16 : PySem.W.keepIn K (.ref A16) = true)
    (a17 : PySem.W.nsIn K mainGlobals "_law_tokens" = some (some (.ref A17)))
    (l17 : K.lookup A17 = some ⟨oc17, od17, .func (PySem.W.fnOf "_law_tokens" "_law_tokens" (defArgs s__law_tokens) (defBody s__law_tokens) (defScope s__law_tokens) .none kV17 dc17 pm17 an17 cd17 ct17), sl17⟩)
    (c17 : PySem.W.codeIn K cd17 "_law_tokens" = true) (k17 : PySem.W.keepIn K (.ref A17) = true)
    (a18 : PySem.W.nsIn K mainGlobals "_law_told" = some (some (.ref A18)))
    (l18 : K.lookup A18 = some ⟨oc18, od18, .func (PySem.W.fnOf "_law_told" "_law_told" (defArgs s__law_told) (defBody s__law_told) (defScope s__law_told) .none kV18 dc18 pm18 an18 cd18 ct18), sl18⟩)
    (c18 : PySem.W.codeIn K cd18 "_law_told" = true) (k18 : PySem.W.keepIn K (.ref A18) = true)
    (a19 : PySem.W.nsIn K mainGlobals "law" = some (some (.ref A19)))
    (l19 : K.lookup A19 = some ⟨oc19, od19, .func (PySem.W.fnOf "law" "law" (defArgs s_law) (defBody s_law) (defScope s_law) .none kV19 dc19 pm19 an19 cd19 ct19), sl19⟩)
    (c19 : PySem.W.codeIn K cd19 "law" = true) (k19 : PySem.W.keepIn K (.ref A19) = true)
    (co0 : PySem.W.nsIn K mainGlobals "MOST_DATA" = some (some (.int 70000 tc0)))
    (co1 : PySem.W.nsIn K mainGlobals "LEAST_LENGTH" = some (some (.int 3 tc1)))
    (co2 : PySem.W.nsIn K mainGlobals "MOST_LENGTH" = some (some (.int 258 tc2)))
    (co3 : PySem.W.nsIn K mainGlobals "MOST_DISTANCE" = some (some (.int 32768 tc3)))
    (z_ValueError : PySem.W.nsIn K mainGlobals "ValueError" = some none)
    (z_LookupError : PySem.W.nsIn K mainGlobals "LookupError" = some none)
    (z_isinstance : PySem.W.nsIn K mainGlobals "isinstance" = some none)
    (z_int : PySem.W.nsIn K mainGlobals "int" = some none)
    (z_bool : PySem.W.nsIn K mainGlobals "bool" = some none)
    (z_enumerate : PySem.W.nsIn K mainGlobals "enumerate" = some none)
    (z_list : PySem.W.nsIn K mainGlobals "list" = some none)
    (z_len : PySem.W.nsIn K mainGlobals "len" = some none)
    (z_tuple : PySem.W.nsIn K mainGlobals "tuple" = some none)
    (z_range : PySem.W.nsIn K mainGlobals "range" = some none)
    (z_abs : PySem.W.nsIn K mainGlobals "abs" = some none)
    (z_max : PySem.W.nsIn K mainGlobals "max" = some none)
    (z_min : PySem.W.nsIn K mainGlobals "min" = some none)
    (z_repr : PySem.W.nsIn K mainGlobals "repr" = some none)
    (ecn : PySem.W.specialIn K (.builtin "object.__class__") "__get__" = some (some (.builtin "getset_descriptor.__get__")))
    (ect : PySem.W.takesIn K (.builtin "object.__class__") = some true)
    (evv_ValueError : PySem.W.findCls K (.type "ValueError") (.type "type") "__init__" = some (.val (.builtin "ValueError.__init__")))
    (evv_LookupError : PySem.W.findCls K (.type "LookupError") (.type "type") "__init__" = some (.val (.builtin "LookupError.__init__"))) :
    ∃ fd : FuncData, (∀ (s : Shared) (v : Value), BindsTo s fd ⟨[v], []⟩ [("_law_script", v)]) ∧ ∀ base : Heap, K.In base → base.Ns mainGlobals mg → FnG l.prog w K mg base 8 fa fd ["_law_script"] (spLaw K) := by
  have e := hfa.symm.trans (PySem.W.mg_of X G a19)
  cases e
  have F0 : FunD K "__init__" "BadData.__init__" (defArgs s_BadData___init__) (defBody s_BadData___init__) (defScope s_BadData___init__) [] [] A0 (PySem.W.fnOf "__init__" "BadData.__init__" (defArgs s_BadData___init__) (defBody s_BadData___init__) (defScope s_BadData___init__) .none kV0 dc0 pm0 an0 cd0 ct0) :=
    ⟨⟨oc0, od0, .none, kV0, dc0, pm0, an0, cd0, ct0, sl0, rfl, l0, c0, (.inl ⟨rfl, rfl⟩), .inl rfl⟩, k0⟩
  have F1 : FunD K "__init__" "BadToken.__init__" (defArgs s_BadToken___init__) (defBody s_BadToken___init__) (defScope s_BadToken___init__) [] [] A1 (PySem.W.fnOf "__init__" "BadToken.__init__" (defArgs s_BadToken___init__) (defBody s_BadToken___init__) (defScope s_BadToken___init__) .none kV1 dc1 pm1 an1 cd1 ct1) :=
    ⟨⟨oc1, od1, .none, kV1, dc1, pm1, an1, cd1, ct1, sl1, rfl, l1, c1, (.inl ⟨rfl, rfl⟩), .inl rfl⟩, k1⟩
  have F2 : FunD K "__init__" "Far.__init__" (defArgs s_Far___init__) (defBody s_Far___init__) (defScope s_Far___init__) [] [] A2 (PySem.W.fnOf "__init__" "Far.__init__" (defArgs s_Far___init__) (defBody s_Far___init__) (defScope s_Far___init__) .none kV2 dc2 pm2 an2 cd2 ct2) :=
    ⟨⟨oc2, od2, .none, kV2, dc2, pm2, an2, cd2, ct2, sl2, rfl, l2, c2, (.inl ⟨rfl, rfl⟩), .inl rfl⟩, k2⟩
  have F3 : FunD K "is_integer" "is_integer" (defArgs s_is_integer) (defBody s_is_integer) (defScope s_is_integer) [] [] A3 (PySem.W.fnOf "is_integer" "is_integer" (defArgs s_is_integer) (defBody s_is_integer) (defScope s_is_integer) .none kV3 dc3 pm3 an3 cd3 ct3) :=
    ⟨⟨oc3, od3, .none, kV3, dc3, pm3, an3, cd3, ct3, sl3, rfl, l3, c3, (.inl ⟨rfl, rfl⟩), .inl rfl⟩, k3⟩
  have F4 : FunD K "in_range" "in_range" (defArgs s_in_range) (defBody s_in_range) (defScope s_in_range) [] [] A4 (PySem.W.fnOf "in_range" "in_range" (defArgs s_in_range) (defBody s_in_range) (defScope s_in_range) .none kV4 dc4 pm4 an4 cd4 ct4) :=
    ⟨⟨oc4, od4, .none, kV4, dc4, pm4, an4, cd4, ct4, sl4, rfl, l4, c4, (.inl ⟨rfl, rfl⟩), .inl rfl⟩, k4⟩
  have F5 : FunD K "is_byte" "is_byte" (defArgs s_is_byte) (defBody s_is_byte) (defScope s_is_byte) [] [] A5 (PySem.W.fnOf "is_byte" "is_byte" (defArgs s_is_byte) (defBody s_is_byte) (defScope s_is_byte) .none kV5 dc5 pm5 an5 cd5 ct5) :=
    ⟨⟨oc5, od5, .none, kV5, dc5, pm5, an5, cd5, ct5, sl5, rfl, l5, c5, (.inl ⟨rfl, rfl⟩), .inl rfl⟩, k5⟩
  have F6 : FunD K "checked_data" "checked_data" (defArgs s_checked_data) (defBody s_checked_data) (defScope s_checked_data) [] [] A6 (PySem.W.fnOf "checked_data" "checked_data" (defArgs s_checked_data) (defBody s_checked_data) (defScope s_checked_data) .none kV6 dc6 pm6 an6 cd6 ct6) :=
    ⟨⟨oc6, od6, .none, kV6, dc6, pm6, an6, cd6, ct6, sl6, rfl, l6, c6, (.inl ⟨rfl, rfl⟩), .inl rfl⟩, k6⟩
  have F7 : FunD K "is_token" "is_token" (defArgs s_is_token) (defBody s_is_token) (defScope s_is_token) [] [] A7 (PySem.W.fnOf "is_token" "is_token" (defArgs s_is_token) (defBody s_is_token) (defScope s_is_token) .none kV7 dc7 pm7 an7 cd7 ct7) :=
    ⟨⟨oc7, od7, .none, kV7, dc7, pm7, an7, cd7, ct7, sl7, rfl, l7, c7, (.inl ⟨rfl, rfl⟩), .inl rfl⟩, k7⟩
  have F8 : FunD K "check_tokens" "check_tokens" (defArgs s_check_tokens) (defBody s_check_tokens) (defScope s_check_tokens) [] [] A8 (PySem.W.fnOf "check_tokens" "check_tokens" (defArgs s_check_tokens) (defBody s_check_tokens) (defScope s_check_tokens) .none kV8 dc8 pm8 an8 cd8 ct8) :=
    ⟨⟨oc8, od8, .none, kV8, dc8, pm8, an8, cd8, ct8, sl8, rfl, l8, c8, (.inl ⟨rfl, rfl⟩), .inl rfl⟩, k8⟩
  have F9 : FunD K "copy_into" "copy_into" (defArgs s_copy_into) (defBody s_copy_into) (defScope s_copy_into) [] [] A9 (PySem.W.fnOf "copy_into" "copy_into" (defArgs s_copy_into) (defBody s_copy_into) (defScope s_copy_into) .none kV9 dc9 pm9 an9 cd9 ct9) :=
    ⟨⟨oc9, od9, .none, kV9, dc9, pm9, an9, cd9, ct9, sl9, rfl, l9, c9, (.inl ⟨rfl, rfl⟩), .inl rfl⟩, k9⟩
  have F10 : FunD K "expand" "expand" (defArgs s_expand) (defBody s_expand) (defScope s_expand) [] [("before", .ref KT10_0)] A10 (PySem.W.fnOf "expand" "expand" (defArgs s_expand) (defBody s_expand) (defScope s_expand) .none (.ref KD10) dc10 pm10 an10 cd10 ct10) :=
    ⟨⟨oc10, od10, .none, (.ref KD10), dc10, pm10, an10, cd10, ct10, sl10, rfl, l10, c10, (.inl ⟨rfl, rfl⟩), .inr ⟨KD10, rfl, fun q hq => (List.mem_cons.mp hq).elim (fun e => by cases e; exact ⟨_, kx10_0, rfl⟩) fun hq => (List.not_mem_nil hq).elim⟩⟩, k10⟩
  have F11 : FunD K "_law_bag" "_law_bag" (defArgs s__law_bag) (defBody s__law_bag) (defScope s__law_bag) [] [] A11 (PySem.W.fnOf "_law_bag" "_law_bag" (defArgs s__law_bag) (defBody s__law_bag) (defScope s__law_bag) .none kV11 dc11 pm11 an11 cd11 ct11) :=
    ⟨⟨oc11, od11, .none, kV11, dc11, pm11, an11, cd11, ct11, sl11, rfl, l11, c11, (.inl ⟨rfl, rfl⟩), .inl rfl⟩, k11⟩
  have F12 : FunD K "_law_take" "_law_take" (defArgs s__law_take) (defBody s__law_take) (defScope s__law_take) [] [] A12 (PySem.W.fnOf "_law_take" "_law_take" (defArgs s__law_take) (defBody s__law_take) (defScope s__law_take) .none kV12 dc12 pm12 an12 cd12 ct12) :=
    ⟨⟨oc12, od12, .none, kV12, dc12, pm12, an12, cd12, ct12, sl12, rfl, l12, c12, (.inl ⟨rfl, rfl⟩), .inl rfl⟩, k12⟩
  have F13 : FunD K "_law_one" "_law_one" (defArgs s__law_one) (defBody s__law_one) (defScope s__law_one) [] [] A13 (PySem.W.fnOf "_law_one" "_law_one" (defArgs s__law_one) (defBody s__law_one) (defScope s__law_one) .none kV13 dc13 pm13 an13 cd13 ct13) :=
    ⟨⟨oc13, od13, .none, kV13, dc13, pm13, an13, cd13, ct13, sl13, rfl, l13, c13, (.inl ⟨rfl, rfl⟩), .inl rfl⟩, k13⟩
  have F14 : FunD K "_law_whole" "_law_whole" (defArgs s__law_whole) (defBody s__law_whole) (defScope s__law_whole) [] [] A14 (PySem.W.fnOf "_law_whole" "_law_whole" (defArgs s__law_whole) (defBody s__law_whole) (defScope s__law_whole) .none kV14 dc14 pm14 an14 cd14 ct14) :=
    ⟨⟨oc14, od14, .none, kV14, dc14, pm14, an14, cd14, ct14, sl14, rfl, l14, c14, (.inl ⟨rfl, rfl⟩), .inl rfl⟩, k14⟩
  have F15 : FunD K "_law_token" "_law_token" (defArgs s__law_token) (defBody s__law_token) (defScope s__law_token) [] [] A15 (PySem.W.fnOf "_law_token" "_law_token" (defArgs s__law_token) (defBody s__law_token) (defScope s__law_token) .none kV15 dc15 pm15 an15 cd15 ct15) :=
    ⟨⟨oc15, od15, .none, kV15, dc15, pm15, an15, cd15, ct15, sl15, rfl, l15, c15, (.inl ⟨rfl, rfl⟩), .inl rfl⟩, k15⟩
  have F16 : FunD K "_law_expanded" "_law_expanded" (defArgs s__law_expanded) (defBody s__law_expanded) (defScope s__law_expanded) [] [] A16 (PySem.W.fnOf "_law_expanded" "_law_expanded" (defArgs s__law_expanded) (defBody s__law_expanded) (defScope s__law_expanded) .none kV16 dc16 pm16 an16 cd16 ct16) :=
    ⟨⟨oc16, od16, .none, kV16, dc16, pm16, an16, cd16, ct16, sl16, rfl, l16, c16, (.inl ⟨rfl, rfl⟩), .inl rfl⟩, k16⟩
  have F17 : FunD K "_law_tokens" "_law_tokens" (defArgs s__law_tokens) (defBody s__law_tokens) (defScope s__law_tokens) [] [] A17 (PySem.W.fnOf "_law_tokens" "_law_tokens" (defArgs s__law_tokens) (defBody s__law_tokens) (defScope s__law_tokens) .none kV17 dc17 pm17 an17 cd17 ct17) :=
    ⟨⟨oc17, od17, .none, kV17, dc17, pm17, an17, cd17, ct17, sl17, rfl, l17, c17, (.inl ⟨rfl, rfl⟩), .inl rfl⟩, k17⟩
  have F18 : FunD K "_law_told" "_law_told" (defArgs s__law_told) (defBody s__law_told) (defScope s__law_told) [] [] A18 (PySem.W.fnOf "_law_told" "_law_told" (defArgs s__law_told) (defBody s__law_told) (defScope s__law_told) .none kV18 dc18 pm18 an18 cd18 ct18) :=
    ⟨⟨oc18, od18, .none, kV18, dc18, pm18, an18, cd18, ct18, sl18, rfl, l18, c18, (.inl ⟨rfl, rfl⟩), .inl rfl⟩, k18⟩
  have F19 : FunD K "law" "law" (defArgs s_law) (defBody s_law) (defScope s_law) [] [] fa (PySem.W.fnOf "law" "law" (defArgs s_law) (defBody s_law) (defScope s_law) .none kV19 dc19 pm19 an19 cd19 ct19) :=
    ⟨⟨oc19, od19, .none, kV19, dc19, pm19, an19, cd19, ct19, sl19, rfl, l19, c19, (.inl ⟨rfl, rfl⟩), .inl rfl⟩, k19⟩
  have T : Txt K mg ⟨A0, (PySem.W.fnOf "__init__" "BadData.__init__" (defArgs s_BadData___init__) (defBody s_BadData___init__) (defScope s_BadData___init__) .none kV0 dc0 pm0 an0 cd0 ct0),
      A1, (PySem.W.fnOf "__init__" "BadToken.__init__" (defArgs s_BadToken___init__) (defBody s_BadToken___init__) (defScope s_BadToken___init__) .none kV1 dc1 pm1 an1 cd1 ct1),
      A2, (PySem.W.fnOf "__init__" "Far.__init__" (defArgs s_Far___init__) (defBody s_Far___init__) (defScope s_Far___init__) .none kV2 dc2 pm2 an2 cd2 ct2),
      A3, (PySem.W.fnOf "is_integer" "is_integer" (defArgs s_is_integer) (defBody s_is_integer) (defScope s_is_integer) .none kV3 dc3 pm3 an3 cd3 ct3),
      A4, (PySem.W.fnOf "in_range" "in_range" (defArgs s_in_range) (defBody s_in_range) (defScope s_in_range) .none kV4 dc4 pm4 an4 cd4 ct4),
      A5, (PySem.W.fnOf "is_byte" "is_byte" (defArgs s_is_byte) (defBody s_is_byte) (defScope s_is_byte) .none kV5 dc5 pm5 an5 cd5 ct5),
      A6, (PySem.W.fnOf "checked_data" "checked_data" (defArgs s_checked_data) (defBody s_checked_data) (defScope s_checked_data) .none kV6 dc6 pm6 an6 cd6 ct6),
      A7, (PySem.W.fnOf "is_token" "is_token" (defArgs s_is_token) (defBody s_is_token) (defScope s_is_token) .none kV7 dc7 pm7 an7 cd7 ct7),
      A8, (PySem.W.fnOf "check_tokens" "check_tokens" (defArgs s_check_tokens) (defBody s_check_tokens) (defScope s_check_tokens) .none kV8 dc8 pm8 an8 cd8 ct8),
      A9, (PySem.W.fnOf "copy_into" "copy_into" (defArgs s_copy_into) (defBody s_copy_into) (defScope s_copy_into) .none kV9 dc9 pm9 an9 cd9 ct9),
      A10, (PySem.W.fnOf "expand" "expand" (defArgs s_expand) (defBody s_expand) (defScope s_expand) .none (.ref KD10) dc10 pm10 an10 cd10 ct10),
      A11, (PySem.W.fnOf "_law_bag" "_law_bag" (defArgs s__law_bag) (defBody s__law_bag) (defScope s__law_bag) .none kV11 dc11 pm11 an11 cd11 ct11),
      A12, (PySem.W.fnOf "_law_take" "_law_take" (defArgs s__law_take) (defBody s__law_take) (defScope s__law_take) .none kV12 dc12 pm12 an12 cd12 ct12),
      A13, (PySem.W.fnOf "_law_one" "_law_one" (defArgs s__law_one) (defBody s__law_one) (defScope s__law_one) .none kV13 dc13 pm13 an13 cd13 ct13),
      A14, (PySem.W.fnOf "_law_whole" "_law_whole" (defArgs s__law_whole) (defBody s__law_whole) (defScope s__law_whole) .none kV14 dc14 pm14 an14 cd14 ct14),
      A15, (PySem.W.fnOf "_law_token" "_law_token" (defArgs s__law_token) (defBody s__law_token) (defScope s__law_token) .none kV15 dc15 pm15 an15 cd15 ct15),
      A16, (PySem.W.fnOf "_law_expanded" "_law_expanded" (defArgs s__law_expanded) (defBody s__law_expanded) (defScope s__law_expanded) .none kV16 dc16 pm16 an16 cd16 ct16),
      A17, (PySem.W.fnOf "_law_tokens" "_law_tokens" (defArgs s__law_tokens) (defBody s__law_tokens) (defScope s__law_tokens) .none kV17 dc17 pm17 an17 cd17 ct17),
      A18, (PySem.W.fnOf "_law_told" "_law_told" (defArgs s__law_told) (defBody s__law_told) (defScope s__law_told) .none kV18 dc18 pm18 an18 cd18 ct18),
      fa, (PySem.W.fnOf "law" "law" (defArgs s_law) (defBody s_law) (defScope s_law) .none kV19 dc19 pm19 an19 cd19 ct19),
      KT10_0,
      CBadData,
      CBadToken,
      CFar,
      tc0,
      tc1,
      tc2,
      tc3⟩ :=
   ⟨F0,
    F0.bindsN fun _ _ _ _ _ _ us hl => match us, hl with | [_, _], _ => rfl,
    F1,
    F1.bindsN fun _ _ _ _ _ _ us hl => match us, hl with | [_, _], _ => rfl,
    F2,
    F2.bindsN fun _ _ _ _ _ _ us hl => match us, hl with | [_, _], _ => rfl,
    F3,
    F3.bindsN fun _ _ _ _ _ _ us hl => match us, hl with | [_], _ => rfl,
    PySem.W.mg_of X G a3,
    F4,
    F4.bindsN fun _ _ _ _ _ _ us hl => match us, hl with | [_, _, _], _ => rfl,
    PySem.W.mg_of X G a4,
    F5,
    F5.bindsN fun _ _ _ _ _ _ us hl => match us, hl with | [_], _ => rfl,
    PySem.W.mg_of X G a5,
    F6,
    F6.bindsN fun _ _ _ _ _ _ us hl => match us, hl with | [_], _ => rfl,
    PySem.W.mg_of X G a6,
    F7,
    F7.bindsN fun _ _ _ _ _ _ us hl => match us, hl with | [_], _ => rfl,
    PySem.W.mg_of X G a7,
    F8,
    F8.bindsN fun _ _ _ _ _ _ us hl => match us, hl with | [_], _ => rfl,
    PySem.W.mg_of X G a8,
    F9,
    F9.bindsN fun _ _ _ _ _ _ us hl => match us, hl with | [_, _], _ => rfl,
    PySem.W.mg_of X G a9,
    F10,
    fun H => .inr ⟨_, #[], kn10_0, kl10_0, rfl, rfl, Nat.zero_le _, .nil⟩,
    PySem.W.mg_of X G a10,
    F11,
    F11.bindsN fun _ _ _ _ _ _ us hl => match us, hl with | [_, _], _ => rfl,
    PySem.W.mg_of X G a11,
    F12,
    F12.bindsN fun _ _ _ _ _ _ us hl => match us, hl with | [_, _], _ => rfl,
    PySem.W.mg_of X G a12,
    F13,
    F13.bindsN fun _ _ _ _ _ _ us hl => match us, hl with | [_, _], _ => rfl,
    PySem.W.mg_of X G a13,
    F14,
    F14.bindsN fun _ _ _ _ _ _ us hl => match us, hl with | [_], _ => rfl,
    PySem.W.mg_of X G a14,
    F15,
    F15.bindsN fun _ _ _ _ _ _ us hl => match us, hl with | [_, _], _ => rfl,
    PySem.W.mg_of X G a15,
    F16,
    F16.bindsN fun _ _ _ _ _ _ us hl => match us, hl with | [_, _], _ => rfl,
    PySem.W.mg_of X G a16,
    F17,
    F17.bindsN fun _ _ _ _ _ _ us hl => match us, hl with | [_, _], _ => rfl,
    PySem.W.mg_of X G a17,
    F18,
    F18.bindsN fun _ _ _ _ _ _ us hl => match us, hl with | [_, _], _ => rfl,
    PySem.W.mg_of X G a18,
    F19,
    F19.bindsN fun _ _ _ _ _ _ us hl => match us, hl with | [_], _ => rfl,
    PySem.W.mg_of X G a19,
    F10.binds0 (ps := sP_expand) 1 (by simp) rfl fun _ _ _ _ _ _ us ks hl hk => match us, ks, hl, hk with | [_], [_], _, _ => ⟨_, _, _, _, _, _, rfl, rfl, rfl⟩,
    ⟨_, kbnK F10 (fun us ws => [us.getD 0 .none, ws.getD 0 .none]) (fun r1 r3 => (.cons (valsGet r1 0) (.cons (valsGet r3 0) .nil))) fun _ _ _ _ _ _ us ws hl hw => match us, ws, hl, hw with | [_], [_], _, _ => rfl⟩,
    ⟨_, kbnK F10 (fun us ws => [ws.getD 0 .none, ws.getD 1 .none]) (fun r1 r3 => (.cons (valsGet r3 0) (.cons (valsGet r3 1) .nil))) fun _ _ _ _ _ _ us ws hl hw => match us, ws, hl, hw with | [], [_, _], _, _ => rfl⟩,
    PySem.W.mg_of X G co0,
    PySem.W.mg_of X G co1,
    PySem.W.mg_of X G co2,
    PySem.W.mg_of X G co3,
    PySem.W.mg_none_of X G z_ValueError,
    PySem.W.mg_none_of X G z_LookupError,
    PySem.W.mg_none_of X G z_isinstance,
    PySem.W.mg_none_of X G z_int,
    PySem.W.mg_none_of X G z_bool,
    PySem.W.mg_none_of X G z_enumerate,
    PySem.W.mg_none_of X G z_list,
    PySem.W.mg_none_of X G z_len,
    PySem.W.mg_none_of X G z_tuple,
    PySem.W.mg_none_of X G z_range,
    PySem.W.mg_none_of X G z_abs,
    PySem.W.mg_none_of X G z_max,
    PySem.W.mg_none_of X G z_min,
    PySem.W.mg_none_of X G z_repr,
    ⟨PySem.W.mg_of X G xg_BadData, ⟨⟨nmBadData, qnBadData, NBadData, bsBadData, snBadData, subBadData, abBadData, colBadData, ddBadData, k0BadData, k1BadData, k2BadData, k3BadData, k5BadData, xl_BadData⟩, xsa_BadData, xe_BadData, xt_BadData, xk_BadData, bx_ValueError.fac, bx_ValueError.pass, bx_ValueError.hob⟩, ⟨xga_BadData, xgg_BadData, xe_BadData, xh_BadData⟩, ⟨xga_BadData, xgg_BadData, xe_BadData, xh_BadData, xca_BadData, ecn, ect, xcm_BadData⟩, xno_BadData, a0, u0, PySem.W.exm_ref xe_BadData xh_BadData xt_BadData xs_BadData, kvB_of bx_ValueError.kmt xv_BadData⟩,
    ⟨PySem.W.mg_of X G xg_BadToken, ⟨⟨nmBadToken, qnBadToken, NBadToken, bsBadToken, snBadToken, subBadToken, abBadToken, colBadToken, ddBadToken, k0BadToken, k1BadToken, k2BadToken, k3BadToken, k5BadToken, xl_BadToken⟩, xsa_BadToken, xe_BadToken, xt_BadToken, xk_BadToken, bx_ValueError.fac, bx_ValueError.pass, bx_ValueError.hob⟩, ⟨xga_BadToken, xgg_BadToken, xe_BadToken, xh_BadToken⟩, ⟨xga_BadToken, xgg_BadToken, xe_BadToken, xh_BadToken, xca_BadToken, ecn, ect, xcm_BadToken⟩, xno_BadToken, a1, u1, PySem.W.exm_ref xe_BadToken xh_BadToken xt_BadToken xs_BadToken, kvB_of bx_ValueError.kmt xv_BadToken⟩,
    ⟨PySem.W.mg_of X G xg_Far, ⟨⟨nmFar, qnFar, NFar, bsFar, snFar, subFar, abFar, colFar, ddFar, k0Far, k1Far, k2Far, k3Far, k5Far, xl_Far⟩, xsa_Far, xe_Far, xt_Far, xk_Far, bx_LookupError.fac, bx_LookupError.pass, bx_LookupError.hob⟩, ⟨xga_Far, xgg_Far, xe_Far, xh_Far⟩, ⟨xga_Far, xgg_Far, xe_Far, xh_Far, xca_Far, ecn, ect, xcm_Far⟩, xno_Far, a2, u2, PySem.W.exm_ref xe_Far xh_Far xt_Far xs_Far, kvB_of bx_LookupError.kmt xv_Far⟩,
    evv_ValueError,
    evv_LookupError⟩
  exact ⟨_, fun s v => F19.bindsA (ps := ["_law_script"]) (fun _ _ _ _ _ _ us hl => match us, hl with | [_], _ => rfl) s [v] rfl, fun base _ _ => ok_law T⟩
theorem walk {l : PySem.W.OpenLaw} {q : Program} {loose : List Str} {XP : (Str → Option Value) → Heap → Prop} {YP : World → Heap → Prop} {d : DefRec} {K : Params → PySem.W.Frag}
    (hn : l.most = some 63) (hdf : d.params.defaults = []) (hY : ∀ (w : World) (h : Heap), YP w h → (K w.params).In h)
    (F : ∀ (w : World) (mg : Str → Option Value) (fa : Addr) (h : Heap), (K w.params).In h → h.Ns mainGlobals mg → mg d.name = some (.ref fa) →
      ∃ fd : FuncData, (∀ (s : Shared) (u : Value), BindsTo s fd ⟨[u], []⟩ [("_law_script", u)]) ∧
        ∀ base : Heap, (K w.params).In base → base.Ns mainGlobals mg → FnG l.prog w (K w.params) mg base 8 fa fd ["_law_script"] (spLaw (K w.params))) :
    PySem.W.WalkO q loose XP YP l.row.toRowW d [] (fun f vs => PySem.call f vs) :=
  walk_G (n := 63) (k := 8) (x := "_law_script") (sp := fun w => spLaw (K w.params)) hn (by decide) hdf ⟨rfl, by decide, by decide⟩ hY F
    (fun _ _ a ns hl _ hS => ⟨a, ns, rfl, hS, hl, fun _ => rfl⟩)
end Z
open PySem PySem.W PyProof.Rows
set_option maxRecDepth 100000 in
set_option maxHeartbeats 0 in
theorem PySem.Challenge.cw_deflatehall_k16_tokens_expanded_holds : PySem.Challenge.rw_deflatehall_k16_tokens_expanded.Holds := by
  w_on; o_law; k_head; (case hw => w_witness2)
  k_fill
  refine Z.walk (l := PySem.Challenge.rw_deflatehall_k16_tokens_expanded) rfl rfl (fun w h Y => PySem.W.kIn_of Y) ?F
  case F =>
    intro w mg fa h KX G hmg
    refine' Z.all_mk KX G hmg ?xg_BadData ?xl_BadData ?xsa_BadData ?xga_BadData ?xgg_BadData ?xno_BadData ?xk_BadData ?xe_BadData ?xt_BadData ?xh_BadData ?xs_BadData ?xca_BadData ?xv_BadData ?xcm_BadData ?a0 ?u0 ?l0 ?c0 ?k0 ?xg_BadToken ?xl_BadToken ?xsa_BadToken ?xga_BadToken ?xgg_BadToken ?xno_BadToken ?xk_BadToken ?xe_BadToken ?xt_BadToken ?xh_BadToken ?xs_BadToken ?xca_BadToken ?xv_BadToken ?xcm_BadToken ?a1 ?u1 ?l1 ?c1 ?k1 ?xg_Far ?xl_Far ?xsa_Far ?xga_Far ?xgg_Far ?xno_Far ?xk_Far ?xe_Far ?xt_Far ?xh_Far ?xs_Far ?xca_Far ?xv_Far ?xcm_Far ?a2 ?u2 ?l2 ?c2 ?k2 ?a3 ?l3 ?c3 ?k3 ?a4 ?l4 ?c4 ?k4 ?a5 ?l5 ?c5 ?k5 ?a6 ?l6 ?c6 ?k6 ?a7 ?l7 ?c7 ?k7 ?a8 ?l8 ?c8 ?k8 ?a9 ?l9 ?c9 ?k9 ?a10 ?l10 ?kx10_0 ?kl10_0 ?c10 ?k10 ?a11 ?l11 ?c11 ?k11 ?a12 ?l12 ?c12 ?k12 ?a13 ?l13 ?c13 ?k13 ?a14 ?l14 ?c14 ?k14 ?a15 ?l15 ?c15 ?k15 ?a16 ?l16 ?c16 ?k16 ?a17 ?l17 ?c17 ?k17 ?a18 ?l18 ?c18 ?k18 ?a19 ?l19 ?c19 ?k19 ?co0 ?co1 ?co2 ?co3 ?z_ValueError ?z_LookupError ?z_isinstance ?z_int ?z_bool ?z_enumerate ?z_list ?z_len ?z_tuple ?z_range ?z_abs ?z_max ?z_min ?z_repr ?ecn ?ect ?evv_ValueError ?evv_LookupError
    (case xg_BadData => k_is)
    (case xl_BadData => k_is)
    (case xsa_BadData => k_is)
    (case xga_BadData => k_is)
    (case xgg_BadData => k_is)
    (case xno_BadData => k_is)
    (case xk_BadData => k_is)
    (case xe_BadData => k_is)
    (case xt_BadData => k_is)
    (case xh_BadData => k_is)
    (case xs_BadData => k_is)
    (case xca_BadData => k_is)
    (case xv_BadData => k_is)
    (case xcm_BadData => k_is)
    (case a0 => k_is)
    (case u0 => k_is)
    (case l0 => k_is)
    (case c0 => k_is)
    (case k0 => k_is)
    (case xg_BadToken => k_is)
    (case xl_BadToken => k_is)
    (case xsa_BadToken => k_is)
    (case xga_BadToken => k_is)
    (case xgg_BadToken => k_is)
    (case xno_BadToken => k_is)
    (case xk_BadToken => k_is)
    (case xe_BadToken => k_is)
    (case xt_BadToken => k_is)
    (case xh_BadToken => k_is)
    (case xs_BadToken => k_is)
    (case xca_BadToken => k_is)
    (case xv_BadToken => k_is)
    (case xcm_BadToken => k_is)
    (case a1 => k_is)
    (case u1 => k_is)
    (case l1 => k_is)
    (case c1 => k_is)
    (case k1 => k_is)
    (case xg_Far => k_is)
    (case xl_Far => k_is)
    (case xsa_Far => k_is)
    (case xga_Far => k_is)
    (case xgg_Far => k_is)
    (case xno_Far => k_is)
    (case xk_Far => k_is)
    (case xe_Far => k_is)
    (case xt_Far => k_is)
    (case xh_Far => k_is)
    (case xs_Far => k_is)
    (case xca_Far => k_is)
    (case xv_Far => k_is)
    (case xcm_Far => k_is)
    (case a2 => k_is)
    (case u2 => k_is)
    (case l2 => k_is)
    (case c2 => k_is)
    (case k2 => k_is)
    (case a3 => k_is)
    (case l3 => k_is)
    (case c3 => k_is)
    (case k3 => k_is)
    (case a4 => k_is)
    (case l4 => k_is)
    (case c4 => k_is)
    (case k4 => k_is)
    (case a5 => k_is)
    (case l5 => k_is)
    (case c5 => k_is)
    (case k5 => k_is)
    (case a6 => k_is)
    (case l6 => k_is)
    (case c6 => k_is)
    (case k6 => k_is)
    (case a7 => k_is)
    (case l7 => k_is)
    (case c7 => k_is)
    (case k7 => k_is)
    (case a8 => k_is)
    (case l8 => k_is)
    (case c8 => k_is)
    (case k8 => k_is)
    (case a9 => k_is)
    (case l9 => k_is)
    (case c9 => k_is)
    (case k9 => k_is)
    (case a10 => k_is)
    (case l10 => k_is)
    (case kx10_0 => k_is)
    (case kl10_0 => k_is)
    (case c10 => k_is)
    (case k10 => k_is)
    (case a11 => k_is)
    (case l11 => k_is)
    (case c11 => k_is)
    (case k11 => k_is)
    (case a12 => k_is)
    (case l12 => k_is)
    (case c12 => k_is)
    (case k12 => k_is)
    (case a13 => k_is)
    (case l13 => k_is)
    (case c13 => k_is)
    (case k13 => k_is)
    (case a14 => k_is)
    (case l14 => k_is)
    (case c14 => k_is)
    (case k14 => k_is)
    (case a15 => k_is)
    (case l15 => k_is)
    (case c15 => k_is)
    (case k15 => k_is)
    (case a16 => k_is)
    (case l16 => k_is)
    (case c16 => k_is)
    (case k16 => k_is)
    (case a17 => k_is)
    (case l17 => k_is)
    (case c17 => k_is)
    (case k17 => k_is)
    (case a18 => k_is)
    (case l18 => k_is)
    (case c18 => k_is)
    (case k18 => k_is)
    (case a19 => k_is)
    (case l19 => k_is)
    (case c19 => k_is)
    (case k19 => k_is)
    (case co0 => k_is)
    (case co1 => k_is)
    (case co2 => k_is)
    (case co3 => k_is)
    (case z_ValueError => k_is)
    (case z_LookupError => k_is)
    (case z_isinstance => k_is)
    (case z_int => k_is)
    (case z_bool => k_is)
    (case z_enumerate => k_is)
    (case z_list => k_is)
    (case z_len => k_is)
    (case z_tuple => k_is)
    (case z_range => k_is)
    (case z_abs => k_is)
    (case z_max => k_is)
    (case z_min => k_is)
    (case z_repr => k_is)
    (case ecn => k_is)
    (case ect => k_is)
    (case evv_ValueError => k_is)
    (case evv_LookupError => k_is)
