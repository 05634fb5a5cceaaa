import PyProof.Rows.All
import Wide.All
import OpenK.AllK
import Wide.FinOn
import HandS.ForMost
import HandS.Defaults
import HandS.IsInst
import HandS.TupAny
import HandS.Codes
import HandS.Wide
import HandS.Walk
import HandS.More
import KE.GoesMore
import PySem.Challenge.RW_deflatehall_k05_kinds_of_lengths
set_option Elab.async false
set_option linter.all false
set_option maxRecDepth 100000
set_option maxHeartbeats 4000000
/-! Ghost heaps over the hand layer: what stands for good (G), what may change (W). -/
namespace Z
open PySem PySem.Spec PyProof.Rows L2

/-- it is o -/
def Is (o : HO) : HO → Prop := fun x => x = o
/-- what may change: an address, and what holds of the object there -/
abbrev Wl := List (Addr × (HO → Prop))
structure Wd (G : Hp) (W : Wl) (H : Hp) : Prop where
  ex : Same G H
  own : ∀ p ∈ W, G p.1 = none ∧ ∃ o, H p.1 = some o ∧ p.2 o
  nd : (W.map (·.1)).Nodup

theorem same_upd {H : Hp} {p : Addr} {o : HO} (h : H p = none) : Same H (upd H p o) := fun a u e => by
  rw [upd_ne (ne_of_none e h)]
  exact e
section
variable {G G' H H' : Hp} {W W1 W2 : Wl} {a p : Addr} {o : HO} {P P' : HO → Prop}
theorem Wd.free (w : Wd G W H) (h : H p = none) : G p = none := w.ex.free h
theorem Wd.ext (w : Wd G W H) (e : Same H H') : Wd G W H' :=
  ⟨w.ex.trans e, fun q hq => ⟨(w.own q hq).1, let ⟨o, h1, h2⟩ := (w.own q hq).2; ⟨o, e _ _ h1, h2⟩⟩, w.nd⟩
theorem Wd.at (w : Wd G W H) (h : G a = some o) : H a = some o := w.ex _ _ h
theorem Wd.neOwn (w : Wd G W H) (hp : H p = none) {q : Addr × (HO → Prop)} (hq : q ∈ W) : q.1 ≠ p := by
  obtain ⟨_, o, h, _⟩ := w.own q hq
  exact ne_of_none h hp
/-- a new object that stands for good -/
theorem Wd.new (w : Wd G W H) (hp : H p = none) : Wd (upd G p o) W (upd H p o) := by
  refine ⟨fun b u e => ?_, fun q hq => ?_, w.nd⟩
  · by_cases hb : b = p
    · subst hb
      rw [upd_same] at e ⊢
      exact e
    · rw [upd_ne hb] at e ⊢
      exact w.ex _ _ e
  · have hn := w.neOwn hp hq
    rw [upd_ne hn, upd_ne hn]
    exact w.own q hq
/-- a new object that may change -/
theorem Wd.newM (w : Wd G W H) (hp : H p = none) (h : P o) : Wd G ((p, P) :: W) (upd H p o) := by
  refine ⟨w.ex.trans (same_upd hp), fun q hq => ?_, ?_⟩
  · rcases List.mem_cons.mp hq with rfl | hq
    · exact ⟨w.free hp, o, upd_same, h⟩
    · have hn := w.neOwn hp hq
      rw [upd_ne hn]
      exact w.own q hq
  · rw [List.map_cons, List.nodup_cons]
    refine ⟨fun hm => ?_, w.nd⟩
    obtain ⟨q, hq, e⟩ := List.mem_map.mp hm
    exact w.neOwn hp hq e
theorem mem_mid {α : Type} {A B : List α} {x : α} : x ∈ A ++ x :: B := List.mem_append_right _ List.mem_cons_self
/-- the object at a changes -/
theorem Wd.put (w : Wd G (W1 ++ (a, P) :: W2) H) (h : P' o) : Wd G (W1 ++ (a, P') :: W2) (upd H a o) := by
  have h0 := w.own (a, P) mem_mid
  have nd : ((W1 ++ (a, P) :: W2).map (·.1)).Nodup := w.nd
  rw [List.map_append, List.map_cons, List.nodup_append] at nd
  obtain ⟨n1, n2, n3⟩ := nd
  rw [List.nodup_cons] at n2
  refine ⟨fun b u e => ?_, fun q hq => ?_, ?_⟩
  · have hb : b ≠ a := ne_of_none e h0.1
    rw [upd_ne hb]
    exact w.ex _ _ e
  · rcases List.mem_append.mp hq with hq | hq
    · have hn : q.1 ≠ a := fun z => n3 _ (List.mem_map.mpr ⟨q, hq, z⟩) _ List.mem_cons_self rfl
      rw [upd_ne hn]
      exact w.own q (List.mem_append_left _ hq)
    · rcases List.mem_cons.mp hq with rfl | hq
      · exact ⟨h0.1, o, upd_same, h⟩
      · have hn : q.1 ≠ a := fun z => n2.1 (List.mem_map.mpr ⟨q, hq, z⟩)
        rw [upd_ne hn]
        exact w.own q (List.mem_append_right _ (List.mem_cons_of_mem _ hq))
  · rw [List.map_append, List.map_cons, List.nodup_append]
    exact ⟨n1, List.nodup_cons.mpr n2, n3⟩
/-- what holds there always is kept -/
theorem Wd.put' (w : Wd G W H) (hm : (a, P) ∈ W) (h : P o) : Wd G W (upd H a o) := by
  obtain ⟨A, B, rfl⟩ := List.append_of_mem hm
  exact w.put h
theorem Wd.putI (w : Wd G (W1 ++ (a, P) :: W2) H) : Wd G (W1 ++ (a, Is o) :: W2) (upd H a o) := w.put rfl
/-- the first one changes -/
theorem Wd.put1 (w : Wd G ((a, P) :: W) H) : Wd G ((a, Is o) :: W) (upd H a o) := Wd.putI (W1 := []) w
theorem Wd.get (w : Wd G W H) (hm : (a, P) ∈ W) : ∃ o, H a = some o ∧ P o := (w.own _ hm).2
theorem Wd.drop (w : Wd G (W1 ++ (a, P) :: W2) H) : Wd G (W1 ++ W2) H := by
  refine ⟨w.ex, fun q hq => w.own q ?_, ?_⟩
  · rcases List.mem_append.mp hq with hq | hq
    · exact List.mem_append_left _ hq
    · exact List.mem_append_right _ (List.mem_cons_of_mem _ hq)
  · have nd := w.nd
    rw [List.map_append, List.map_cons] at nd
    rw [List.map_append]
    exact nd.sublist (List.Sublist.append_left (List.sublist_cons_self _ _) _)
theorem Wd.drop1 (w : Wd G ((a, P) :: W) H) : Wd G W H := Wd.drop (W1 := []) w
/-- what does not change any more stands for good -/
theorem Wd.freeze (w : Wd G (W1 ++ (a, P) :: W2) H) : ∃ o, P o ∧ H a = some o ∧ Same G (upd G a o) ∧ Wd (upd G a o) (W1 ++ W2) H := by
  obtain ⟨g, o, h, ho⟩ := w.own (a, P) mem_mid
  have nd : ((W1 ++ (a, P) :: W2).map (·.1)).Nodup := w.nd
  rw [List.map_append, List.map_cons, List.nodup_append] at nd
  obtain ⟨n1, n2, n3⟩ := nd
  rw [List.nodup_cons] at n2
  refine ⟨o, ho, h, same_upd g, fun b u e => ?_, fun q hq => ?_, w.drop.nd⟩
  · by_cases hb : b = a
    · subst hb
      rw [upd_same] at e
      cases e
      exact h
    · rw [upd_ne hb] at e
      exact w.ex _ _ e
  · have hn : q.1 ≠ a := by
      rcases List.mem_append.mp hq with hq | hq
      · exact fun z => n3 _ (List.mem_map.mpr ⟨q, hq, z⟩) _ List.mem_cons_self rfl
      · exact fun z => n2.1 (List.mem_map.mpr ⟨q, hq, z⟩)
    rw [upd_ne hn]
    refine w.own q ?_
    rcases List.mem_append.mp hq with hq | hq
    · exact List.mem_append_left _ hq
    · exact List.mem_append_right _ (List.mem_cons_of_mem _ hq)
theorem Wd.freeze1 (w : Wd G ((a, P) :: W) H) : ∃ o, P o ∧ H a = some o ∧ Same G (upd G a o) ∧ Wd (upd G a o) W H := Wd.freeze (W1 := []) w
theorem Wd.imp (w : Wd G (W1 ++ (a, P) :: W2) H) (h : ∀ o, P o → P' o) : Wd G (W1 ++ (a, P') :: W2) H := by
  have h0 := w.own (a, P) mem_mid
  refine ⟨w.ex, fun q hq => ?_, ?_⟩
  · rcases List.mem_append.mp hq with hq | hq
    · exact w.own q (List.mem_append_left _ hq)
    · rcases List.mem_cons.mp hq with rfl | hq
      · obtain ⟨g, o, e, ho⟩ := h0
        exact ⟨g, o, e, h _ ho⟩
      · exact w.own q (List.mem_append_right _ (List.mem_cons_of_mem _ hq))
  · have nd := w.nd
    rw [List.map_append, List.map_cons] at nd ⊢
    exact nd
theorem Wd.perm {V' : Wl} (w : Wd G W H) (h : W.Perm V') : Wd G V' H :=
  ⟨w.ex, fun q hq => w.own q (h.mem_iff.mpr hq), (h.map _).nodup_iff.mp w.nd⟩
end

/-! ### data -/
section
variable {K : PySem.W.Frag} {G G' : Hp}
theorem seqT {a : Addr} {xs : List V} (e : Same G G') (h : SqT K G a xs) : SqT K G' a xs := by
  rcases h with (h | ⟨o, h⟩) | h
  · exact .inl (.inl (e _ _ h))
  · exact .inl (.inr ⟨o, e _ _ h⟩)
  · exact .inr h
mutual
theorem dmono (e : Same G G') : ∀ {d : PyData} {v : V}, Dp K G v d → Dp K G' v d
  | _, _, .non => .non
  | _, _, .bl b => .bl b
  | _, _, .int i => .int i
  | _, _, .str x => .str x
  | _, _, .lst h r => .lst (e.seq h) (dmonoAll e r)
  | _, _, .tup h r => .tup (seqT e h) (dmonoAll e r)
theorem dmonoAll (e : Same G G') : ∀ {ds : List PyData} {vs : List V}, DpAll K G vs ds → DpAll K G' vs ds
  | _, _, .nil => .nil
  | _, _, .cons h r => .cons (dmono e h) (dmonoAll e r)
end
end

/-! ### how arguments bind -/
theorem bAll {K : PySem.W.Frag} {fd : FuncData} {ps : List Str} (h : ∃ ds, Vals ([] : List V) ds ∧ Binds K fd ps ds) : Binds K fd ps [] := by
  obtain ⟨ds, r, b⟩ := h
  cases r
  exact b
theorem valsGet {vs : List V} {us : List Value} (r : Vals vs us) (i : Nat) : L2.RelV (vs.getD i .non) (us.getD i .none) := by
  induction r generalizing i with
  | nil => exact rfl
  | cons h t ih =>
    cases i with
    | zero => simpa using h
    | succ i => simpa using ih i
section
variable {K : PySem.W.Frag} {x qual : Str} {params : Arguments} {body : List Stmt} {scope : Scope} {dvs : List V} {f : Addr} {fd : FuncData} {ps ks : List Str} {n : Nat}
theorem kbnN (F : FunD K x qual params body scope [] [] f fd) (g : List Value → List Value → List Value) {gV : List V → List V → List V}
    (rel : ∀ {vs : List V} {us : List Value} {zs : List V} {ws : List Value}, Vals vs us → Vals zs ws → Vals (gV vs zs) (g us ws))
    (h : ∀ (kV doc pm : Value) (an : Option Addr) (cdv ct : Value) (us ws : List Value), us.length = n → ws.length = ks.length →
      bindArgs (PySem.W.fnOf x qual params body scope .none kV doc pm an cdv ct) ⟨us, ks.zip ws⟩ = pure (ps.zip (g us ws))) : KBn K fd ps n ks g gV := by
  obtain ⟨oc, od, dV, kV, doc, pm, an, cdv, ct, osl, rfl, lk, hcd, hD, hK⟩ := F.ex
  rcases hD with ⟨_, rfl⟩ | ⟨e, _⟩
  · exact ⟨fun s us ws _ l1 l2 => .of_eq (h kV doc pm an cdv ct us ws l1 l2), rel⟩
  · exact absurd rfl e
theorem kbnD (F : FunD K x qual params body scope dvs [] f fd) (hd : dvs ≠ []) (g : List Value → List Value → List Value → List Value) {gV : List V → List V → List V}
    (rel : ∀ {vs : List V} {us : List Value} {its : List Value} {zs : List V} {ws : List Value}, Vals vs us → Vals dvs its → Vals zs ws → Vals (gV vs zs) (g us its ws))
    (h : ∀ (T : Addr) (kV doc pm : Value) (an : Option Addr) (cdv ct : Value) (us its ws : List Value), us.length = n → its.length = dvs.length → ws.length = ks.length →
      ∃ k, bindArgs (PySem.W.fnOf x qual params body scope (.ref T) kV doc pm an cdv ct) ⟨us, ks.zip ws⟩ = seqItems? (.ref T) >>= k ∧ k (some its.toArray) = pure (ps.zip (g us its ws))) : ∃ g', KBn K fd ps n ks g' gV := by
  obtain ⟨oc, od, dV, kV, doc, pm, an, cdv, ct, osl, rfl, lk, hcd, hD, hK⟩ := F.ex
  rcases hD with ⟨e, _⟩ | ⟨_, T, o, its, m, rfl, lT, oT, rT⟩
  · exact absurd e hd
  · refine ⟨fun us ws => g us its ws, fun s us ws X l1 l2 => ?_, fun r1 r3 => rel r1 rT r3⟩
    obtain ⟨k, e1, e2⟩ := h T kV doc pm an cdv ct us its ws l1 rT.length.symm l2
    refine BindsTo.of_looks fun M => ?_
    rw [e1]
    exact looks_items X lT oT (.of_pure e2)
end
section
variable {X : Cx} {CX : CXT} {k n : Nat} {f : Addr} {fd : FuncData} {ps ks : List Str} {sp : Sp} {E : XK} {x : Str} {p pos : Pos} {kws : List Keyword} {tk : TA} {g : List Value → List Value → List Value} {gV : List V → List V → List V}
/-- f(k = v, ..): keywords alone -/
theorem pe_callN0 (F : FnOk X.prog X.w X.K X.mg X.base CX k f fd ps sp) (hr : Room k X.A) (hg : Gl X x) (hm : X.mg x = some (.ref f)) (hk : PySem.W.keepIn X.K (.ref f) = true) (hb : KBn X.K fd ps 0 ks g gV) (hx : Passes CX X E)
    (hkw : PK X kws tk) (hall : (backToKw pos (keywordEach kws X.env)).all (·.1.isSome) = true := by rfl) (hks : (backToKw pos (keywordEach kws X.env)).filterMap (·.1) = ks := by rfl)
    (hdb : (x == ("__debug__" : Str)) = false := by decide) (hpl : ((backTo pos (starEach [] X.env)).any (·.1) || (backToKw pos (keywordEach kws X.env)).any (·.1.isNone)) = false := by rfl) :
    PE X (.Call (.Name x p) [] kws pos) (tCallN 0 ks.length sp gV E tNil tk) := by
  refine ⟨fun pins s σ H Q I h => wpAny_Call_Name_kw (ld_glob I hg hm ?_ hdb)⟩
  refine PySem.W.callWith_KW0 (h₀ := X.base) I.ok.mod.kin hk hall (thn (hkw.run pos pins _ σ H _ (I.tok _) h) fun ws s2 ⟨zs, H2, I2, rz, l1, l2, q2⟩ => ⟨I2.kIn, ?_⟩) hpl
  rw [hks]
  exact run_fnN (us := []) (vs := []) F hr hb hx I2 .nil rz rfl l2 q2
end
section
variable {X : Cx}
def CPowW (i j : Int) : Prop := 0 ≤ j ∧ (Builtin.Int.intBits i : Int) * j ≤ 2 ^ 27
theorem op_powW : OpR X (binaryOp .Pow) (rI CPowW fun i j => .int (i ^ j.toNat)) := opI fun _ _ _ _ _ _ _ hc q => PyProof.Rows.pow_int hc.1 hc.2 q
end

/-! ### readings, step by step (what is asked, from the left) -/
section
variable {K : PySem.W.Frag} {σ : L2.St} {H : Hp} {Q : VK} {D : Ends} {i : Nat} {v x y : V} {ta tb te : TE} {t u : TS} {tt tu : TT} {QT : Bool → Hp → Prop} {QA : List V → Hp → Prop} {QS nx bk ct : L2.St → Hp → Prop} {rt : VK} {r : R2} {tr : TA} {xs : List V}
theorem st_var (h : σ[i]? = some (some v)) (q : Q v H) : tVar i σ H Q := ⟨v, h, q⟩
theorem st_c (q : Q v H) : tC v σ H Q := q
theorem st_op (h : ta σ H fun x H1 => tb σ H1 fun y H2 => r x y H2 Q) : tOp r ta tb σ H Q := h
theorem st_un {r : V → Hp → VK → Prop} (h : ta σ H fun x H1 => r x H1 Q) : tUn r ta σ H Q := h
theorem st_i0 {g : Int → Int → V} {a b : Int} (q : Q (g a b) H) : rI0 g (.int a) (.int b) H Q := ⟨a, b, rfl, rfl, q⟩
theorem st_i {C : Int → Int → Prop} {g : Int → Int → V} {a b : Int} (c : C a b) (q : Q (g a b) H) : rI C g (.int a) (.int b) H Q := ⟨a, b, rfl, rfl, c, q⟩
theorem st_u {g : Int → V} {a : Int} (q : Q (g a) H) : rU g (.int a) H Q := ⟨a, rfl, q⟩
theorem st_eq (h : scal x y = true) (q : Q (.bl (decide (x = y))) H) : rEq x y H Q := ⟨h, q⟩
theorem st_ne (h : scal x y = true) (q : Q (.bl (!decide (x = y))) H) : rNe x y H Q := ⟨h, q⟩
theorem st_test (h : te σ H fun x H1 => ∃ k, x = .bl k ∧ QT k H1) : tTest te σ H QT := h
theorem st_tB (h : te σ H fun x H1 => ∃ k, x = .bl k ∧ QT k H1) : tB te σ H QT := h
theorem st_bl {b : Bool} {P : Bool → Prop} (q : P b) : ∃ k, V.bl b = .bl k ∧ P k := ⟨b, rfl, q⟩
theorem st_not (h : tt σ H fun c H1 => QT (!c) H1) : tNot tt σ H QT := h
theorem st_and (h : tt σ H fun c H1 => if c = true then tu σ H1 QT else QT false H1) : tAnd tt tu σ H QT := h
theorem st_or (h : tt σ H fun c H1 => if c = true then QT true H1 else tu σ H1 QT) : tOr tt tu σ H QT := h
theorem st_andV (h : ta σ H fun x H1 => ∃ c, x = .bl c ∧ if c = true then tb σ H1 Q else Q (.bl false) H1) : tAndV ta tb σ H Q := h
theorem st_orV (h : ta σ H fun x H1 => ∃ c, x = .bl c ∧ if c = true then Q (.bl true) H1 else tb σ H1 Q) : tOrV ta tb σ H Q := h
theorem st_notV (h : ta σ H fun x H1 => ∃ c, x = .bl c ∧ Q (.bl (!c)) H1) : tNotV ta σ H Q := h
theorem st_ifE (h : tt σ H fun c H1 => if c = true then ta σ H1 Q else tb σ H1 Q) : tIf tt ta tb σ H Q := h
theorem st_nil (q : QA [] H) : tNil σ H QA := q
theorem st_cons (h : te σ H fun x H1 => tr σ H1 fun xs H2 => QA (x :: xs) H2) : tCons te tr σ H QA := h
theorem st_cb {r : List V → Hp → VK → Prop} (h : tr σ H fun vs H1 => r vs H1 Q) : tCB r tr σ H Q := h
theorem st_seq (h : t ⟨u ⟨nx, rt, bk, ct⟩, rt, bk, ct⟩ σ H) : tSeq t u ⟨nx, rt, bk, ct⟩ σ H := h
theorem st_next (q : nx σ H) : tNext ⟨nx, rt, bk, ct⟩ σ H := q
theorem st_brk (q : bk σ H) : tBreak ⟨nx, rt, bk, ct⟩ σ H := q
theorem st_cont (q : ct σ H) : tCont ⟨nx, rt, bk, ct⟩ σ H := q
theorem st_drop (h : te σ H fun _ H1 => nx σ H1) : tDrop te ⟨nx, rt, bk, ct⟩ σ H := h
theorem st_ret (h : te σ H rt) : tRet te ⟨nx, rt, bk, ct⟩ σ H := h
theorem st_retN (h : rt .non H) : tRetN ⟨nx, rt, bk, ct⟩ σ H := h
theorem st_if (h : tt σ H fun b H1 => if b = true then t ⟨nx, rt, bk, ct⟩ σ H1 else u ⟨nx, rt, bk, ct⟩ σ H1) : tIfS tt t u ⟨nx, rt, bk, ct⟩ σ H := h
theorem st_asg {g : TG} (h : te σ H fun x H1 => g x σ H1 nx) : tAsg te g ⟨nx, rt, bk, ct⟩ σ H := h
theorem st_gname (q : QS (σ.set i (some v)) H) : gName i v σ H QS := q
theorem st_par {j : Nat} (h : tr σ H fun vs H1 => ∃ v w, vs = [v, w] ∧ nx ((σ.set i (some v)).set j (some w)) H1) : tPar i j tr ⟨nx, rt, bk, ct⟩ σ H := h
theorem st_two {w : V} {P : V → V → Prop} (q : P v w) : ∃ v' w', [v, w] = [v', w'] ∧ P v' w' := ⟨v, w, rfl, q⟩
theorem st_call {sp : Sp} {dvs : List V} {E : XK} (h : tr σ H fun vs H1 => sp (vs ++ dvs) H1 Q E) : tCall sp dvs E tr σ H Q := h
theorem st_callN {n m : Nat} {sp : Sp} {gV : List V → List V → List V} {E : XK} {tk : TA} (h : tr σ H fun vs H1 => tk σ H1 fun zs H2 => vs.length = n ∧ zs.length = m ∧ sp (gV vs zs) H2 Q E) : tCallN n m sp gV E tr tk σ H Q := h
/-- a new list, a new tuple at a free place -/
def NewO (o : HO) (H : Hp) (Q : VK) : Prop := ∀ p, H p = none → Q (.ref p) (upd H p o)
theorem st_lst (h : tr σ H fun xs H1 => xs.length ≤ sizeLine ∧ NewO (.lst xs) H1 Q) : tLst tr σ H Q := h
theorem st_tup (h : tr σ H fun xs H1 => xs.length ≤ sizeLine ∧ NewO (.tup xs) H1 Q) : tTup tr σ H Q := h
theorem small {n : Nat} (h : n ≤ 1000000) : n ≤ sizeLine := Nat.le_trans h (by decide)
theorem small' {n : Nat} (h : n ≤ 1000000) : n < sizeLine := Nat.lt_of_le_of_lt h (by decide)
/-- it stands for good -/
theorem NewO.good {o : HO} {G : Hp} {W : Wl} (w : Wd G W H) (k : ∀ p G' H', Same G G' → Wd G' W H' → G' p = some o → Q (.ref p) H') : NewO o H Q := fun p hp =>
  k p (upd G p o) (upd H p o) (same_upd (w.free hp)) (w.new hp) upd_same
/-- it may change -/
theorem NewO.own {o : HO} {G : Hp} {W : Wl} (w : Wd G W H) (k : ∀ p H', Wd G ((p, Is o) :: W) H' → Q (.ref p) H') : NewO o H Q := fun p hp => k p (upd H p o) (w.newM hp rfl)
end

/-! ### a def that lets nothing out -/
section
variable {P : Program} {w : World} {K : PySem.W.Frag} {mg : Str → Option Value} {base : Heap} {x qual : Str} {params : Arguments} {body : List Stmt} {scope : Scope} {dvs : List V} {kws : List (Str × V)} {f : Addr} {fd : FuncData}
theorem okD {N ps : List Str} {k : Nat} {sp : Sp} (F : FunD K x qual params body scope dvs kws f fd) (S : FnScope N ps scope) (len : ∀ vs H Q E, sp vs H Q E → vs.length = ps.length)
    (hb : ∀ (cdv : Value) (A : Around) (outer : List Env) (s : Shared) (H : Hp) (vs : List V) (Q : VK) (E : XK), Room k (A.deeper (envOfC qual scope s.heap.objs.size f cdv)) → sp vs H Q E →
      ∃ t, PSs (cxOf CX0 P w K mg base N qual scope f cdv A outer s H E).nox body t ∧ t { nx := fun _ H' => Q .non H', rt := Q } (start N vs) H) : FnOk P w K mg base CX0 (k + 1) f fd ps sp :=
  F.ok S len fun cdv A outer s H vs Q E hr h => let ⟨t, a, q⟩ := hb cdv A outer s H vs Q E hr h; ⟨t, a.nox, q⟩
end
/-! ### loops -/
def LoopQ (J : It) (g : TG) (tb : TS) (nx : L2.St → Hp → Prop) (rt : VK) (σ : L2.St) (H : Hp) : Prop := ∃ W : Nat → Nat → L2.St → Hp → Prop, (∃ m, W 0 m σ H) ∧ ∀ i m σ H, W i m σ H →
  (J.stop i H ∧ nx σ H) ∨ (J.go i H ∧ ∃ N : L2.St → Hp → Prop, (∀ σ' H', N σ' H' → ∃ m', m' < m ∧ W (i + 1) m' σ' H') ∧ ∀ x H', J.yld i H x H' → g x σ H' fun σ2 H2 => tb ⟨N, rt, nx, N⟩ σ2 H2)
/-- what holds between two turns, over a G that grows -/
def Btw (I : Nat → L2.St → Hp → Wl → Prop) (G : Hp) (i : Nat) : L2.St → Hp → Prop := fun σ H => ∃ G' W, Same G G' ∧ Wd G' W H ∧ I i σ G' W
section
variable {K : PySem.W.Frag} {σ : L2.St} {H G : Hp} {W : Wl} {nx bk ct : L2.St → Hp → Prop} {rt : VK} {g : TG} {tb : TS} {a b : Addr} {xs ys : List V} {n : Nat}
theorem st_for {wi : TI} (h : wi σ H fun J H1 => LoopQ J g tb nx rt σ H1) : tFor wi g tb ⟨nx, rt, bk, ct⟩ σ H := h
theorem st_btw {I : Nat → L2.St → Hp → Wl → Prop} {G' : Hp} {i : Nat} (e : Same G G') (w : Wd G' W H) (h : I i σ G' W) : Btw I G i σ H := ⟨G', W, e, w, h⟩
theorem loop_go {J : It} {Gp : Hp → Prop} {Y : Nat → Hp → V → Hp → Prop} (wk : Walk J n Gp Y) (I : Nat → L2.St → Hp → Wl → Prop) (w : Wd G W H) (hG : ∀ G' W' H', Same G G' → Wd G' W' H' → Gp H') (h0 : I 0 σ G W)
    (hs : ∀ i x σ' G' W' H' H'', i < n → Same G G' → Wd G' W' H' → I i σ' G' W' → Y i H' x H'' → g x σ' H'' fun σ2 H2 => tb ⟨Btw I G (i + 1), rt, nx, Btw I G (i + 1)⟩ σ2 H2)
    (hd : ∀ σ' G' W' H', Same G G' → Wd G' W' H' → I n σ' G' W' → nx σ' H') : LoopQ J g tb nx rt σ H :=
  for_it (D := ⟨nx, rt, nx, nx⟩) wk (Btw I G) ⟨G, W, Same.refl _, w, h0⟩ (fun _ _ _ _ ⟨_, _, e, w', _⟩ => hG _ _ _ e w') (fun i x σ' H' H'' hi ⟨G', W', e, w', h⟩ y => hs i x σ' G' W' H' H'' hi e w' h y) fun σ' H' ⟨G', W', e, w', h⟩ => hd σ' G' W' H' e w' h
theorem seq_up (w : Wd G W H) (h : SqL K G a xs) : SqL K H a xs := w.ex.seq h
theorem tup_up (w : Wd G W H) (h : SqT K G a xs) : SqT K H a xs := seqT w.ex h
/-- for x in a list -/
theorem for_l (hx : SqL K G a xs) (I : Nat → L2.St → Hp → Wl → Prop) (w : Wd G W H) (h0 : I 0 σ G W)
    (hs : ∀ i x σ' G' W' H', xs[i]? = some x → Same G G' → Wd G' W' H' → I i σ' G' W' → g x σ' H' fun σ2 H2 => tb ⟨Btw I G (i + 1), rt, nx, Btw I G (i + 1)⟩ σ2 H2)
    (hd : ∀ σ' G' W' H', Same G G' → Wd G' W' H' → I xs.length σ' G' W' → nx σ' H') : ∃ a', V.ref a = .ref a' ∧ (∃ xs, SqL K H a' xs) ∧ LoopQ (Itl K a') g tb nx rt σ H :=
  ⟨a, rfl, ⟨xs, seq_up w hx⟩, loop_go walk_list I w (fun _ _ _ e w' => seq_up w' (e.seq hx)) h0 (fun i x σ' G' W' H' H'' _ e w' h y => by obtain ⟨rfl, y⟩ := y; exact hs i x σ' G' W' H'' y e w' h) hd⟩
/-- for x in a tuple -/
theorem for_t (hx : SqT K G a xs) (I : Nat → L2.St → Hp → Wl → Prop) (w : Wd G W H) (h0 : I 0 σ G W)
    (hs : ∀ i x σ' G' W' H', xs[i]? = some x → Same G G' → Wd G' W' H' → I i σ' G' W' → g x σ' H' fun σ2 H2 => tb ⟨Btw I G (i + 1), rt, nx, Btw I G (i + 1)⟩ σ2 H2)
    (hd : ∀ σ' G' W' H', Same G G' → Wd G' W' H' → I xs.length σ' G' W' → nx σ' H') : ∃ a', V.ref a = .ref a' ∧ (∃ xs, SqT K H a' xs) ∧ LoopQ (Itt K a') g tb nx rt σ H :=
  ⟨a, rfl, ⟨xs, tup_up w hx⟩, loop_go walk_tup I w (fun _ _ _ e w' => tup_up w' (seqT e hx)) h0 (fun i x σ' G' W' H' H'' _ e w' h y => by obtain ⟨rfl, y⟩ := y; exact hs i x σ' G' W' H'' y e w' h) hd⟩
/-- for i in range(n) -/
theorem for_r1 {z : Int} (hz : -(2 ^ 62) ≤ z ∧ z < 2 ^ 62) (I : Nat → L2.St → Hp → Wl → Prop) (w : Wd G W H) (h0 : I 0 σ G W)
    (hs : ∀ (i : Nat) σ' G' W' H', (i : Int) < z → Same G G' → Wd G' W' H' → I i σ' G' W' → g (.int (i : Int)) σ' H' fun σ2 H2 => tb ⟨Btw I G (i + 1), rt, nx, Btw I G (i + 1)⟩ σ2 H2)
    (hd : ∀ σ' G' W' H', Same G G' → Wd G' W' H' → I z.toNat σ' G' W' → nx σ' H') : ∃ j : Int, [V.int z] = [.int j] ∧ -(2 ^ 62) ≤ j ∧ j < 2 ^ 62 ∧ LoopQ (Itr 0 j.toNat) g tb nx rt σ H :=
  ⟨z, rfl, hz.1, hz.2, loop_go walk_range I w (fun _ _ _ _ _ => trivial) h0 (fun i x σ' G' W' H' H'' hi e w' h y => by
    obtain ⟨rfl, rfl⟩ := y
    have e0 : (0 : Int) + (i : Int) = (i : Int) := Int.zero_add _
    dsimp only
    rw [e0]
    exact hs i σ' G' W' H'' (by omega) e w' h) hd⟩
/-- for i in range(lo, hi) -/
theorem for_r2 {lo z : Int} (hz : -(2 ^ 62) ≤ lo ∧ lo < 2 ^ 62 ∧ -(2 ^ 62) ≤ z ∧ z < 2 ^ 62) (I : Nat → L2.St → Hp → Wl → Prop) (w : Wd G W H) (h0 : I 0 σ G W)
    (hs : ∀ (i : Nat) σ' G' W' H', lo + (i : Int) < z → Same G G' → Wd G' W' H' → I i σ' G' W' → g (.int (lo + (i : Int))) σ' H' fun σ2 H2 => tb ⟨Btw I G (i + 1), rt, nx, Btw I G (i + 1)⟩ σ2 H2)
    (hd : ∀ σ' G' W' H', Same G G' → Wd G' W' H' → I (z - lo).toNat σ' G' W' → nx σ' H') :
    ∃ i j : Int, [V.int lo, V.int z] = [.int i, .int j] ∧ (-(2 ^ 62) ≤ i ∧ i < 2 ^ 62 ∧ -(2 ^ 62) ≤ j ∧ j < 2 ^ 62) ∧ LoopQ (Itr i (j - i).toNat) g tb nx rt σ H :=
  ⟨lo, z, rfl, hz, loop_go walk_range I w (fun _ _ _ _ _ => trivial) h0 (fun i x σ' G' W' H' H'' hi e w' h y => by
    obtain ⟨rfl, rfl⟩ := y
    exact hs i σ' G' W' H'' (by omega) e w' h) hd⟩
/-- for i, x in enumerate(a list) -/
theorem for_enum (hx : SqL K G a xs) {i1 i2 : Nat} (I : Nat → L2.St → Hp → Wl → Prop) (w : Wd G W H) (h0 : I 0 σ G W)
    (hs : ∀ (i : Nat) x σ' G' G'' W' H', xs[i]? = some x → Same G G' → I i σ' G' W' → Same G' G'' → Wd G'' W' H' → tb ⟨Btw I G (i + 1), rt, nx, Btw I G (i + 1)⟩ ((σ'.set i1 (some (.int (i : Int)))).set i2 (some x)) H')
    (hd : ∀ σ' G' W' H', Same G G' → Wd G' W' H' → I xs.length σ' G' W' → nx σ' H') :
    ∃ a' ys, [V.ref a] = [.ref a'] ∧ SqL K H a' ys ∧ LoopQ (Ite K a') (gTup K 2 (gCons (gName i1) (gCons (gName i2) gNil))) tb nx rt σ H :=
  ⟨a, xs, rfl, seq_up w hx, loop_go walk_enum I w (fun _ _ _ e w' => seq_up w' (e.seq hx)) h0 (fun i x σ' G' W' H' H'' _ e w' h y => by
    obtain ⟨T, x1, x2, rfl, hn, rfl, e1, e2⟩ := y
    cases e1
    refine ⟨T, _, rfl, SqT.of upd_same, rfl, _, _, rfl, ?_⟩
    refine ⟨_, _, rfl, ?_⟩
    exact ⟨rfl, hs i x2 σ' G' _ W' _ e2 e h (same_upd (w'.free hn)) (w'.new hn)⟩) hd⟩
end

/-! ### comprehensions -/
def LcQ (J : It) (g : TG) (tt : TT) (te : TE) (vs : List Nat) (σ : L2.St) (H1 : Hp) (Q : VK) : Prop := ∀ D, H1 D = none → ∃ W : Nat → Nat → Hp → Prop, (∃ m, W 0 m (upd H1 D (.lst []))) ∧ ∀ i m H, W i m H →
  (J.stop i H ∧ Q (.ref D) H) ∨ (J.go i H ∧ ∃ Nx : Hp → Prop, (∀ H', Nx H' → ∃ m', m' < m ∧ W (i + 1) m' H') ∧ ∀ x H', J.yld i H x H' → g x (wipe σ vs) H' fun σ2 H2 => wipe σ2 vs = wipe σ vs ∧ tt σ2 H2 fun b H3 =>
    if b = true then te σ2 H3 fun y H4 => ∃ acc, H4 D = some (.lst acc) ∧ acc.length < sizeLine ∧ Nx (upd H4 D (.lst (acc ++ [y]))) else Nx H3)
/-- what holds between two turns: the new list at D holds acc -/
def LcB (I : Nat → List V → Hp → Prop) (G : Hp) (W : Wl) (D : Addr) (i : Nat) : Hp → Prop := fun H => ∃ G' acc, Same G G' ∧ Wd G' ((D, Is (.lst acc)) :: W) H ∧ I i acc G'
section
variable {K : PySem.W.Frag} {σ : L2.St} {H G : Hp} {W : Wl} {D : Addr} {g : TG} {tt : TT} {te : TE} {vs : List Nat} {Q : VK} {a b : Addr} {xs ys : List V} {n : Nat}
theorem st_lc {wi : TI} (h : wi σ H fun J H1 => LcQ J g tt te vs σ H1 Q) : tLc wi g tt te vs σ H Q := h
theorem st_yes {QT : Bool → Hp → Prop} (q : QT true H) : tYes σ H QT := q
/-- an element is put -/
theorem lc_put {I : Nat → List V → Hp → Prop} {G' : Hp} {i : Nat} {acc : List V} {y : V} (w : Wd G' ((D, Is (.lst acc)) :: W) H) (e : Same G G') (hl : acc.length < 1000000) (h : I i (acc ++ [y]) G') :
    ∃ acc, H D = some (.lst acc) ∧ acc.length < sizeLine ∧ LcB I G W D i (upd H D (.lst (acc ++ [y]))) := by
  obtain ⟨o, ho, rfl⟩ := w.get List.mem_cons_self
  exact ⟨acc, ho, small' (Nat.le_of_lt hl), G', acc ++ [y], e, Wd.put (W1 := []) w rfl, h⟩
theorem lc_skip {I : Nat → List V → Hp → Prop} {G' : Hp} {i : Nat} {acc : List V} (w : Wd G' ((D, Is (.lst acc)) :: W) H) (e : Same G G') (h : I i acc G') : LcB I G W D i H := ⟨G', acc, e, w, h⟩
theorem lc_go {J : It} {Gp : Hp → Prop} {Y : Nat → Hp → V → Hp → Prop} (wk : Walk J n Gp Y) (I : Nat → List V → Hp → Prop) (w : Wd G W H) (hG : ∀ G' W' H', Same G G' → Wd G' W' H' → Gp H') (h0 : I 0 [] G)
    (hs : ∀ i x D G' H' H'' acc, i < n → Same G G' → Wd G' ((D, Is (.lst acc)) :: W) H' → I i acc G' → Y i H' x H'' → g x (wipe σ vs) H'' fun σ2 H2 => wipe σ2 vs = wipe σ vs ∧ tt σ2 H2 fun b H3 =>
      if b = true then te σ2 H3 fun y H4 => ∃ acc, H4 D = some (.lst acc) ∧ acc.length < sizeLine ∧ LcB I G W D (i + 1) (upd H4 D (.lst (acc ++ [y]))) else LcB I G W D (i + 1) H3)
    (hd : ∀ D G' H' acc, Same G G' → Wd G' ((D, Is (.lst acc)) :: W) H' → I n acc G' → Q (.ref D) H') : LcQ J g tt te vs σ H Q := fun D hD =>
  lc_it wk (LcB I G W D) ⟨G, [], Same.refl _, w.newM hD rfl, h0⟩ (fun _ _ _ ⟨_, _, e, w', _⟩ => hG _ _ _ e w') (fun i x H' H'' hi ⟨G', acc, e, w', h⟩ y => hs i x D G' H' H'' acc hi e w' h y) fun H' ⟨G', acc, e, w', h⟩ => hd D G' H' acc e w' h
/-- [.. for i in range(z)], the variable at slot j -/
theorem lc_r1 {z : Int} {j : Nat} (hz : -(2 ^ 62) ≤ z ∧ z < 2 ^ 62) (I : Nat → List V → Hp → Prop) (w : Wd G W H) (h0 : I 0 [] G) (hw : ∀ x, wipe ((wipe σ vs).set j x) vs = wipe σ vs)
    (hs : ∀ (i : Nat) D G' H' acc, (i : Int) < z → Same G G' → Wd G' ((D, Is (.lst acc)) :: W) H' → I i acc G' → tt ((wipe σ vs).set j (some (.int (i : Int)))) H' fun b H3 =>
      if b = true then te ((wipe σ vs).set j (some (.int (i : Int)))) H3 fun y H4 => ∃ acc, H4 D = some (.lst acc) ∧ acc.length < sizeLine ∧ LcB I G W D (i + 1) (upd H4 D (.lst (acc ++ [y]))) else LcB I G W D (i + 1) H3)
    (hd : ∀ D G' H' acc, Same G G' → Wd G' ((D, Is (.lst acc)) :: W) H' → I z.toNat acc G' → Q (.ref D) H') : ∃ j' : Int, [V.int z] = [.int j'] ∧ -(2 ^ 62) ≤ j' ∧ j' < 2 ^ 62 ∧ LcQ (Itr 0 j'.toNat) (gName j) tt te vs σ H Q :=
  ⟨z, rfl, hz.1, hz.2, lc_go walk_range I w (fun _ _ _ _ _ => trivial) h0 (fun i x D G' H' H'' acc hi e w' h y => by
    obtain ⟨rfl, rfl⟩ := y
    have e0 : (0 : Int) + (i : Int) = (i : Int) := Int.zero_add _
    dsimp only
    rw [e0]
    exact ⟨hw _, hs i D G' H'' acc (by omega) e w' h⟩) hd⟩
/-- [.. for x in a list] -/
theorem lc_l {j : Nat} (hx : SqL K G a xs) (I : Nat → List V → Hp → Prop) (w : Wd G W H) (h0 : I 0 [] G) (hw : ∀ x, wipe ((wipe σ vs).set j x) vs = wipe σ vs)
    (hs : ∀ (i : Nat) x D G' H' acc, xs[i]? = some x → Same G G' → Wd G' ((D, Is (.lst acc)) :: W) H' → I i acc G' → tt ((wipe σ vs).set j (some x)) H' fun b H3 =>
      if b = true then te ((wipe σ vs).set j (some x)) H3 fun y H4 => ∃ acc, H4 D = some (.lst acc) ∧ acc.length < sizeLine ∧ LcB I G W D (i + 1) (upd H4 D (.lst (acc ++ [y]))) else LcB I G W D (i + 1) H3)
    (hd : ∀ D G' H' acc, Same G G' → Wd G' ((D, Is (.lst acc)) :: W) H' → I xs.length acc G' → Q (.ref D) H') : ∃ a', V.ref a = .ref a' ∧ (∃ xs, SqL K H a' xs) ∧ LcQ (Itl K a') (gName j) tt te vs σ H Q :=
  ⟨a, rfl, ⟨xs, seq_up w hx⟩, lc_go walk_list I w (fun _ _ _ e w' => seq_up w' (e.seq hx)) h0 (fun i x D G' H' H'' acc _ e w' h y => by
    obtain ⟨rfl, y⟩ := y
    exact ⟨hw _, hs i x D G' H'' acc y e w' h⟩) hd⟩
end

/-! ### kinds of values -/
inductive Knd (K : PySem.W.Frag) (H : Hp) : V → Prop
  | int (i : Int) : Knd K H (.int i)
  | bl (b : Bool) : Knd K H (.bl b)
  | non : Knd K H .non
  | str (x : Str) : Knd K H (.str x)
  | lst {a : Addr} {xs : List V} (h : SqL K H a xs) : Knd K H (.ref a)
  | tup {a : Addr} {xs : List V} (h : SqT K H a xs) : Knd K H (.ref a)
  | dct {a : Addr} {kvs : List (Key × V)} (h : H a = some (.dK kvs)) : Knd K H (.ref a)
def isInt : V → Bool
  | .int _ => true
  | _ => false
def inRange (lo hi : Int) : V → Bool
  | .int i => decide (lo ≤ i) && decide (i ≤ hi)
  | _ => false
section
variable {K : PySem.W.Frag} {H : Hp} {x : V}
theorem tyL {a : Addr} {xs : List V} (h : SqL K H a xs) : TyX K H (.ref a) (.type "list") := by
  rcases h with (h | ⟨o, h⟩) | ⟨o, _, _, h, hc, _⟩
  · exact .base (.lst h)
  · exact .base (.frz h)
  · exact .kList h hc
theorem tyT {a : Addr} {xs : List V} (h : SqT K H a xs) : TyX K H (.ref a) (.type "tuple") := by
  rcases h with (h | ⟨o, h⟩) | ⟨o, _, _, h, hc, _⟩
  · exact .base (.tup h)
  · exact .fTuple h
  · exact .kTuple h hc
theorem Knd.ty (h : Knd K H x) : ∃ n b1 b2, TyX K H x (.type n) ∧ kitB n "int" = some b1 ∧ kitB n "bool" = some b2 ∧ isInt x = (b1 && !b2) := by
  cases h with
  | int i => exact ⟨"int", true, false, .base (.int i), by decide +kernel, by decide +kernel, rfl⟩
  | bl b => exact ⟨"bool", true, true, .base (.bl b), by decide +kernel, by decide +kernel, rfl⟩
  | non => exact ⟨"NoneType", false, false, .base .non, by decide +kernel, by decide +kernel, rfl⟩
  | str s => exact ⟨"str", false, false, .base (.str s), by decide +kernel, by decide +kernel, rfl⟩
  | lst h => exact ⟨"list", false, false, tyL h, by decide +kernel, by decide +kernel, rfl⟩
  | tup h => exact ⟨"tuple", false, false, tyT h, by decide +kernel, by decide +kernel, rfl⟩
  | dct h => exact ⟨"dict", false, false, .base (.dK h), by decide +kernel, by decide +kernel, rfl⟩
/-- isinstance(x, (list, tuple)) -/
def isSeq (K : PySem.W.Frag) (H : Hp) (x : V) : Prop := ∃ a xs, x = .ref a ∧ (SqL K H a xs ∨ SqT K H a xs)
theorem kB {a b : String} {r : Bool} {cs : List Value} {q : Bool} (h : kitB a b = some r) (hr : r = false → PySem.W.kitAny K (.type a) cs = some q) (hb : r = true → q = true) : PySem.W.kitAny K (.type a) (.type b :: cs) = some q := kitAny_cons (kit_ty h) hr hb
theorem kitLT_l : PySem.W.kitAny K (.type "list") [.type "list", .type "tuple"] = some true := kB (r := true) (by decide +kernel) (fun h => nomatch h) (fun _ => rfl)
theorem kitLT_t : PySem.W.kitAny K (.type "tuple") [.type "list", .type "tuple"] = some true := kB (r := false) (by decide +kernel) (fun _ => kB (r := true) (by decide +kernel) (fun h => nomatch h) (fun _ => rfl)) (fun h => nomatch h)
theorem isiSeq {Q : VK} {a p : Addr} {xs : List V} (hp : H p = some (.tup [.ty "list", .ty "tuple"])) (h : SqL K H a xs ∨ SqT K H a xs) (q : Q (.bl true) H) : rIsiT K [.ref a, .ref p] H Q := by
  rcases h with h | h
  · exact ⟨_, p, _, _, _, true, rfl, hp, .cons (.ty _) (.cons (.ty _) .nil), tyL h, kitLT_l, q⟩
  · exact ⟨_, p, _, _, _, true, rfl, hp, .cons (.ty _) (.cons (.ty _) .nil), tyT h, kitLT_t, q⟩
end

section
variable {K : PySem.W.Frag} {σ : L2.St} {H : Hp} {ta : TA} {tl : TE} {R : It → Hp → Prop}
theorem st_iEnum (h : ta σ H fun vs H1 => ∃ a xs, vs = [.ref a] ∧ SqL K H1 a xs ∧ R (Ite K a) H1) : iEnum K ta σ H R := h
theorem st_iList (h : tl σ H fun x H1 => ∃ a, x = .ref a ∧ (∃ xs, SqL K H1 a xs) ∧ R (Itl K a) H1) : iList K tl σ H R := h
theorem st_iTup (h : tl σ H fun x H1 => ∃ a, x = .ref a ∧ (∃ xs, SqT K H1 a xs) ∧ R (Itt K a) H1) : iTup K tl σ H R := h
theorem st_iR1 (h : ta σ H fun vs H1 => ∃ j : Int, vs = [.int j] ∧ -(2 ^ 62) ≤ j ∧ j < 2 ^ 62 ∧ R (Itr 0 j.toNat) H1) : iRng1 ta σ H R := h
theorem st_iR2 (h : ta σ H fun vs H1 => ∃ i j : Int, vs = [.int i, .int j] ∧ (-(2 ^ 62) ≤ i ∧ i < 2 ^ 62 ∧ -(2 ^ 62) ≤ j ∧ j < 2 ^ 62) ∧ R (Itr i (j - i).toNat) H1) : iRng2 ta σ H R := h
end

theorem atUp {G G' : Hp} {a : Addr} {o : HO} (e : Same G G') (h : G a = some o) : G' a = some o := e _ _ h
theorem hUp {G H : Hp} {W : Wl} {a : Addr} {o : HO} (w : Wd G W H) (h : G a = some o) : H a = some o := w.ex _ _ h
theorem dUp {K : PySem.W.Frag} {G H : Hp} {W : Wl} {v : V} {d : PyData} (w : Wd G W H) (h : Dp K G v d) : Dp K H v d := dmono w.ex h
theorem getI {ns : List Int} {i : Nat} {x : V} (h : (ns.map V.int)[i]? = some x) : ∃ n, ns[i]? = some n ∧ x = V.int n ∧ n ∈ ns := by
  rw [List.getElem?_map] at h
  obtain ⟨n, hn, e⟩ := Option.map_eq_some_iff.mp h
  exact ⟨n, hn, e.symm, List.mem_of_getElem? hn⟩

section
variable {K : PySem.W.Frag} {σ : L2.St} {H : Hp} {Q : VK} {QS : L2.St → Hp → Prop} {to ti : TE} {v x : V} {xs : List V} {a : Addr}
theorem st_gsub {t : TSet} (h : to σ H fun o H1 => ti σ H1 fun i H2 => t o i v H2 fun H3 => QS σ H3) : gSub to ti t v σ H QS := h
/-- xs[i] -/
theorem st_ixL {i : Int} (h : SqL K H a xs) (hv : atI xs i = some v) (q : Q v H) : rIxL K (.ref a) (.int i) H Q := ⟨a, xs, i, v, rfl, rfl, h, hv, q⟩
theorem st_ixT {i : Int} (h : SqT K H a xs) (hv : atI xs i = some v) (q : Q v H) : rIxT K (.ref a) (.int i) H Q := ⟨a, xs, i, v, rfl, rfl, h, hv, q⟩
theorem st_setL {i : Int} {j : Nat} {Q : Hp → Prop} (h : H a = some (.lst xs)) (hj : ixN xs.length i = some j) (q : Q (upd H a (.lst (xs.set j v)))) : rSetL (.ref a) (.int i) v H Q := ⟨a, xs, i, j, rfl, rfl, h, hj, q⟩
end

section
variable {K : PySem.W.Frag} {σ : L2.St} {H : Hp} {Q : VK} {to te : TE} {t : TA} {T : String} {r : V → List V → Hp → VK → Prop} {xs : List V} {a : Addr}
theorem st_bm (h : to σ H fun x H1 => tyV K T x H1 ∧ t σ H1 fun xs H2 => r x xs H2 Q) : tBM K T r to t σ H Q := h
theorem st_bm0 (h : to σ H fun x H1 => tyV K T x H1 ∧ r x [] H1 Q) : tBM0 K T r to σ H Q := h
theorem tyL' (h : H a = some (.lst xs)) : tyV K "list" (.ref a) H := Or.inl ⟨rfl, _, SqL.of h⟩
theorem map_ins (ns : List Int) (i : Nat) (n : Int) : (ns.map V.int).take i ++ [V.int n] ++ (ns.map V.int).drop i = (ns.take i ++ [n] ++ ns.drop i).map V.int := by simp [List.map_take, List.map_drop]
theorem map_set' (ns : List Int) (i : Nat) (n : Int) : (ns.map V.int).set i (V.int n) = (ns.set i n).map V.int := by simp [List.map_set]
theorem atI_map {ns : List Int} {i : Int} (h0 : 0 ≤ i) (h1 : i < ns.length) : ∃ n, atI (ns.map V.int) i = some (V.int n) ∧ n ∈ ns ∧ ns[i.toNat]? = some n := by
  obtain ⟨n, hn⟩ : ∃ n, ns[i.toNat]? = some n := ⟨_, List.getElem?_eq_getElem (by omega)⟩
  refine ⟨n, ?_, List.mem_of_getElem? hn, hn⟩
  have e : i = (i.toNat : Int) := by omega
  rw [e]
  exact atI_nat (by rw [List.getElem?_map, hn]; rfl)
theorem ixN_of {n : Nat} {i : Int} (h0 : 0 ≤ i) (h1 : i < n) : ixN n i = some i.toNat := by
  unfold ixN
  rw [if_pos h0, if_pos h1]
end

theorem st_cut {t u : TS} {nx bk ct : L2.St → Hp → Prop} {rt : VK} {σ : L2.St} {H : Hp} (M : L2.St → Hp → Prop) (h : t ⟨M, rt, bk, ct⟩ σ H) (k : ∀ σ' H', M σ' H' → u ⟨nx, rt, bk, ct⟩ σ' H') : C8.tCut t u ⟨nx, rt, bk, ct⟩ σ H := ⟨M, h, k⟩
section
variable {K : PySem.W.Frag} {H : Hp}
def dI (ns : List Int) : PyData := .list (ns.map .int)
theorem dpInts : ∀ ns : List Int, DpAll K H (ns.map V.int) (ns.map PyData.int)
  | [] => .nil
  | n :: ns => .cons (.int n) (dpInts ns)
theorem dp_ints {a : Addr} {ns : List Int} (h : SqL K H a (ns.map V.int)) : Dp K H (.ref a) (dI ns) := .lst h (dpInts ns)
/-- data that may be compared: of a depth up to n -/
def Sh (n : Nat) (d : PyData) : Prop := d.canLay0 = true ∧ d.depth ≤ n
theorem sh_all {n : Nat} : ∀ {ds : List PyData}, (∀ d ∈ ds, Sh n d) → PyData.canLayAll0 ds = true ∧ PyData.depthAll ds ≤ n
  | [], _ => ⟨rfl, Nat.zero_le _⟩
  | d :: ds, h => by
    obtain ⟨a1, a2⟩ := h d List.mem_cons_self
    obtain ⟨b1, b2⟩ := sh_all (ds := ds) fun x hx => h x (List.mem_cons_of_mem _ hx)
    refine ⟨?_, ?_⟩
    · unfold PyData.canLayAll0
      rw [a1, b1]
      rfl
    · unfold PyData.depthAll
      exact Nat.max_le.mpr ⟨a2, b2⟩
theorem Sh.list {n : Nat} {ds : List PyData} (h : ∀ d ∈ ds, Sh n d) : Sh (n + 1) (.list ds) := by
  obtain ⟨a, b⟩ := sh_all h
  exact ⟨by unfold PyData.canLay0; exact a, by unfold PyData.depth; exact Nat.succ_le_succ b⟩
theorem Sh.tuple {n : Nat} {ds : List PyData} (h : ∀ d ∈ ds, Sh n d) : Sh (n + 1) (.tuple ds) := by
  obtain ⟨a, b⟩ := sh_all h
  exact ⟨by unfold PyData.canLay0; exact a, by unfold PyData.depth; exact Nat.succ_le_succ b⟩
theorem Sh.int {n : Nat} (i : Int) : Sh n (.int i) := ⟨by unfold PyData.canLay0; rfl, by unfold PyData.depth; exact Nat.zero_le _⟩
theorem Sh.bool {n : Nat} (i : Bool) : Sh n (.bool i) := ⟨by unfold PyData.canLay0; rfl, by unfold PyData.depth; exact Nat.zero_le _⟩
theorem Sh.none {n : Nat} : Sh n .none := ⟨by unfold PyData.canLay0; rfl, by unfold PyData.depth; exact Nat.zero_le _⟩
theorem Sh.ok {n : Nat} {d : PyData} (h : Sh n d) (hn : n ≤ 64) : SeqAt.shaped d = true := by
  unfold SeqAt.shaped
  rw [h.1, decide_eq_true (Nat.le_trans h.2 hn)]
  rfl
theorem sh_ints (ns : List Int) : Sh 1 (dI ns) := Sh.list fun d hd => by
  obtain ⟨n, _, rfl⟩ := List.mem_map.mp hd
  exact .int n
theorem eqvAll_map {α : Type} [DecidableEq α] (f : α → PyData) (h : ∀ x y, PyData.eqv (f x) (f y) = decide (x = y)) : ∀ xs ys : List α, PyData.eqvAll (xs.map f) (ys.map f) = decide (xs = ys)
  | [], [] => by simp [PyData.eqvAll]
  | [], _ :: _ => by simp [PyData.eqvAll]
  | _ :: _, [] => by simp [PyData.eqvAll]
  | x :: xs, y :: ys => by
    rw [List.map_cons, List.map_cons, PyData.eqvAll, h, eqvAll_map f h xs ys]
    by_cases e1 : x = y <;> by_cases e2 : xs = ys <;> simp [e1, e2]
theorem eqv_int (a b : Int) : PyData.eqv (.int a) (.int b) = decide (a = b) := by
  unfold PyData.eqv
  by_cases e : a = b <;> simp [e]
theorem eqv_dI (a b : List Int) : PyData.eqv (dI a) (dI b) = decide (a = b) := by
  unfold dI PyData.eqv
  exact eqvAll_map _ eqv_int a b
/-- xs == ys of data -/
theorem st_eqD {Q : VK} {x y : V} {d e : PyData} {b : Bool} (hx : Dp K H x d) (hy : Dp K H y e) (sx : SeqAt.shaped d = true) (sy : SeqAt.shaped e = true) (hb : PyData.eqv d e = b) (q : Q (.bl b) H) : rEqD K x y H Q := ⟨d, e, hx, hy, sx, sy, by rw [hb]; exact q⟩
theorem st_neD {Q : VK} {x y : V} {d e : PyData} {b : Bool} (hx : Dp K H x d) (hy : Dp K H y e) (sx : SeqAt.shaped d = true) (sy : SeqAt.shaped e = true) (hb : PyData.eqv d e = b) (q : Q (.bl (!b)) H) : rNeD K x y H Q := ⟨d, e, hx, hy, sx, sy, by rw [hb]; exact q⟩
/-- lists of ints -/
theorem st_eqI {Q : VK} {a b : Addr} {xs ys : List Int} (hx : SqL K H a (xs.map V.int)) (hy : SqL K H b (ys.map V.int)) (q : Q (.bl (decide (xs = ys))) H) : rEqD K (.ref a) (.ref b) H Q :=
  st_eqD (dp_ints hx) (dp_ints hy) ((sh_ints xs).ok (by decide)) ((sh_ints ys).ok (by decide)) (eqv_dI xs ys) q
theorem st_neI {Q : VK} {a b : Addr} {xs ys : List Int} (hx : SqL K H a (xs.map V.int)) (hy : SqL K H b (ys.map V.int)) (q : Q (.bl (!decide (xs = ys))) H) : rNeD K (.ref a) (.ref b) H Q :=
  st_neD (dp_ints hx) (dp_ints hy) ((sh_ints xs).ok (by decide)) ((sh_ints ys).ok (by decide)) (eqv_dI xs ys) q
end

theorem st_ifV {σ : L2.St} {H : Hp} {Q : VK} {tt : TT} {ta tb : TE} (v : V) (c : Bool) (ht : ∀ QT : Bool → Hp → Prop, QT c H → tt σ H QT) (h1 : c = true → ∀ Q : VK, Q v H → ta σ H Q) (h2 : c = false → ∀ Q : VK, Q v H → tb σ H Q) (q : Q v H) : tIf tt ta tb σ H Q :=
  ht _ (by
    cases c with
    | true => exact iteT (h1 rfl Q q)
    | false => exact iteF (h2 rfl Q q))
theorem ne_self (v : V) : (!decide (v = v)) = false := by rw [decide_eq_true rfl]; rfl
theorem eq_self' (v : V) : decide (v = v) = true := decide_eq_true rfl
end Z

/-! enumerate of a tuple -/
namespace PySem
open AutoSeq1 (wpAny_loadPart')
theorem zEnumNew (l : Addr) (its : Array Value) (n : Nat) (dd : Option Addr) (sl : Array (Option Value)) :
    Meets (Builtin.«enumerate.__new__» ⟨[.type "enumerate", .ref l], []⟩) (fun _ R s => s.heap.get? l = some { cls := .type "tuple", dict := dd, data := .seq its n, slots := sl } ∧
      R (.ok (.ret (.ref (s.heap.push { cls := .type "tuple_iterator", data := .fields #[.ref l, .int 0 0] }).objs.size)))
        { s with heap := (s.heap.push { cls := .type "tuple_iterator", data := .fields #[.ref l, .int 0 0] }).push { cls := .type "enumerate", data := .fields #[.none, .bool false, .ref s.heap.objs.size, rawInt 0, .none, .none] } }) :=
  .of_wp fun prog w A R s q => by
    obtain ⟨hp, g, d, tk, os⟩ := s
    obtain ⟨hl, hR⟩ := q
    have hsub := sub_enumerate
    have hT : Heap.IsTuple (Shared.heap ⟨hp, g, d, tk, os⟩) l its := ⟨_, hl, rfl, n, rfl⟩
    wp_walk using wpAny_loadPart' hl
    refine wpAny_stack_any fun st => wpAny_pure ?_
    split
    · rename_i c _ _ _ _ _
      cases (c == Value.type "enumerate") <;> (wp_walk using wpAny_loadPart' hl, wpAny_pyIter_tuple hT; exact ⟨_, rfl, hR⟩)
    · wp_walk using wpAny_loadPart' hl, wpAny_pyIter_tuple hT
      exact ⟨_, rfl, hR⟩
theorem zEnumCall {prog : Program} {w : World} {A : Around} {E : Value → Shared → Prop} {s : Shared} {l : Addr} {its : Array Value} {Q : Value → Shared → Prop} (hT : s.heap.IsTuple l its)
    (k : ∀ h', IsEnum h' (s.heap.objs.size + 1) s.heap.objs.size 0 .none → h'.IsTupleIter s.heap.objs.size l 0 → h'.objs.size = s.heap.objs.size + 2 → (∀ b o, s.heap.get? b = some o → h'.get? b = some o) →
      Q (.ref (s.heap.objs.size + 1)) { s with heap := h' }) : wpAny (model prog w) A (call (.type "enumerate") [.ref l]) Q E s := by
  obtain ⟨⟨c, dd, dt, sl⟩, hl, hc, n, hd⟩ := hT
  obtain rfl : c = .type "tuple" := hc
  obtain rfl : dt = .seq its n := hd
  refine callType_new F.called_enumerate (by decide) (F.typeCall_enumerate_1 _) (F.newCall_enumerate_1 _) (fun obj => F.args_object_init_2 obj _) F.entry_enumerate_new (zEnumNew l its n dd sl) ⟨hl, ?_⟩
  have hz : (s.heap.push { cls := .type "tuple_iterator", data := .fields #[.ref l, .int 0 0] }).objs.size = s.heap.objs.size + 1 := Heap.size_push ..
  show _ ∧ _
  rw [hz]
  have he : IsEnum ((s.heap.push { cls := .type "tuple_iterator", data := .fields #[.ref l, .int 0 0] }).push { cls := .type "enumerate", data := .fields #[.none, .bool false, .ref s.heap.objs.size, rawInt 0, .none, .none] })
      (s.heap.objs.size + 1) s.heap.objs.size 0 .none := hz ▸ Heap.get?_push_size _ rfl
  exact ⟨⟨_, he, rfl⟩, k _ he ⟨_, Heap.get?_push_of_some _ (Heap.get?_push_size _ rfl), rfl, rfl⟩ (by rw [Heap.size_push, hz]) fun b o x => Heap.get?_push_of_some _ (Heap.get?_push_of_some _ x)⟩
theorem zEnumEnd {prog : Program} {w : World} {A : Around} {E : Value → Shared → Prop} {s : Shared} {e it l : Addr} {i : Nat} {its : Array Value} {old : Value} {k : Int} {Q : Option Value → Shared → Prop} (hh : A.handled = none)
    (he : IsEnum s.heap e it k old) (hit : s.heap.IsTupleIter it l i) (hl : s.heap.IsTuple l its) (hx : its[i]? = none) (q : ∀ h', Heap.ExtBut it s.heap h' → Q none { s with heap := h' }) :
    wpAny (model prog w) A (pyNext (.ref e)) Q E s := by
  have ty : s.TypeIs (.ref e) "enumerate" := ⟨_, he, rfl⟩
  unfold pyNext
  refine wpAny_bind (wpAny_attempt (wpAny_callSpecial?_slot (name := Str.ofString "__next__") ty F.slot_enumerate_next (wpAny_call_entry F.slot_enumerate_next ty F.entry_enumerate_next ?_ (F.args_enumerate_next_1 _))))
  show wpAny _ _ (field (.ref e) 2 >>= _) _ _ _
  refine wpAny_bind (wpAny_field he rfl (x := .ref it) rfl (wpAny_bind (wpAny_nextOf_tuple_end hh hit hl hx fun h' x he' ⟨o, ho, hc⟩ => ?_)))
  exact wpAny_bind (wpAny_isInstance (T := "StopIteration") (b := true) ⟨o, ho, hc⟩ isSubtype_stop (wpAny_pure (q _ he')))
end PySem
namespace Z
open PySem PySem.Spec PyProof.Rows L2
def IteT (K : PySem.W.Frag) (a : Addr) : It :=
  ⟨fun i H => ∃ (xs : List V) (x : V), SqT K H a xs ∧ xs[i]? = some x, fun i H v H' => ∃ T x, v = .ref T ∧ H T = none ∧ H' = upd H T (.tup [.int (i : Nat), x]) ∧ ∀ xs, SqT K H a xs → xs[i]? = some x,
    fun i H => ∃ xs : List V, SqT K H a xs ∧ xs.length ≤ i⟩
theorem tup_ne {h : Heap} {a b : Addr} {its : Array Value} {o : Obj} {n : String} (p : IsTup h a its) (ho : h.get? b = some o) (hc : o.cls = .type n) (hn : n ≠ "tuple") : a ≠ b := fun z => by
  obtain ⟨o', e, c, _⟩ := p
  rw [z, ho] at e
  cases e
  rw [hc] at c
  exact hn (by injection c)
theorem turn_enumT {P : Program} {w : World} {K : PySem.W.Frag} {elts : List Expr} {kk : Nat} {tpos : Pos} (a e it : Addr) :
    Turn P w K (.Tuple elts kk tpos) (IteT K a) [e, it] e (fun i h => (∃ old, IsEnum h e it ((i : Nat) : Int) old) ∧ h.IsTupleIter it a i ∧ e ≠ it) where
  mem := List.mem_cons_self
  obj := fun i h st b hb => by
    obtain ⟨⟨old, he⟩, ⟨o, ho, hc, hd⟩, _⟩ := st
    rcases (show b = e ∨ b = it by simpa using hb) with z | z
    · exact z ▸ ⟨_, he, fun v q => nomatch q⟩
    · exact z ▸ ⟨o, ho, fun v q => by rw [hd] at q; cases q⟩
  keep := fun i h h' st k => let ⟨⟨old, he⟩, hi, hne⟩ := st; ⟨⟨old, k e List.mem_cons_self _ he⟩, hi.at fun o q => k it (by simp) o q, hne⟩
  item := by
    intro X hP hw hK hc i pins s σ H E I hf st hg
    cases hP; cases hw; cases hK
    obtain ⟨⟨old, he⟩, hit, hne⟩ := st
    obtain ⟨xs, x, hq, hx⟩ := hg
    obtain ⟨its, rv, p, hz⟩ := I.tuple hq
    obtain ⟨u, hu, ru⟩ := rv.get hx
    obtain ⟨oi, hoi, hci, _⟩ := id hit
    have nai : a ≠ it := tup_ne p hoi hci (by decide)
    have nae : a ≠ e := tup_ne p he rfl (by decide)
    have hel := Heap.lt_size he
    have hil := Heap.lt_size hoi
    have hlt : i < its.length := (List.getElem?_eq_some_iff.mp hu).1
    refine wpAny_pyNext_enum_itemD (Draws.tuple (A := X.A.in1) (I.ok.hd hc) it a nai its.toArray) he ⟨hit, p⟩ (by simpa using hlt) hne (by simp [hne, nae.symm]) fun v h' tk hv ho hst hT hsz hk => ?_
    obtain rfl : u = v := by
      have hv' : its[i]? = some v := by simpa using hv
      rw [hu] at hv'
      exact Option.some.inj hv'
    refine ⟨_, rfl, wpAny_letOwnedTupleGo_enum (s := { s with heap := h', toks := tk + 1 }) ho fun h'' he' sb => ?_⟩
    have hT2 := (sb.2 _ (Nat.ne_of_gt hel)).trans hT
    have new : ObjOk X.prog X.w (upd H s.heap.objs.size (.tup [.int (i : Nat), x])) h'' s.heap.objs.size (.tup [.int (i : Nat), x]) :=
      ⟨by show 2 ≤ sizeLine; decide, [.int i tk, u], .cons ⟨_, rfl⟩ (.cons ru .nil), ⟨_, hT2, rfl, _, rfl⟩⟩
    have I1 := I.turnedNew (t' := tk + 1) (ch := [e, it]) (fun b ob hb q => (sb.2 b (fun z => hb (by simp [z]))).trans (hk b ob (fun z => hb (by simp [z])) (fun z => hb (by simp [z])) q)) hf (Nat.le_refl _) new
    refine ⟨.ref s.heap.objs.size, _, I1, rfl, ⟨_, x, rfl, I.hok.fresh (Nat.le_refl _), rfl, fun ys hy => by rw [I.tuple_inj hy hq]; exact hx⟩, ⟨⟨u, ?_⟩, hst.1.at fun o q => (sb.2 it (Ne.symm hne)).trans q, hne⟩, fun b hb => ?_⟩
    · rw [show ((i + 1 : Nat) : Int) = (i : Int) + 1 by omega]
      exact he'
    · have hb' : b < s.heap.objs.size := by
        rcases (show b = e ∨ b = it by simpa using hb) with z | z
        · exact z ▸ hel
        · exact z ▸ hil
      rw [upd_ne (Nat.ne_of_lt hb')]
      exact (hf b hb).1
  done := by
    intro X hP hw hK hc i pins s σ H E I hf st hg
    cases hP; cases hw; cases hK
    obtain ⟨⟨old, he⟩, hit, hne⟩ := st
    obtain ⟨xs, hq, hx⟩ := hg
    obtain ⟨its, rv, p, hz⟩ := I.tuple hq
    obtain ⟨oi, hoi, hci, hdi⟩ := id hit
    have nai : a ≠ it := tup_ne p hoi hci (by decide)
    obtain ⟨f0, f1, f2, f3, f4, f5⟩ := hf it (by simp)
    have hl := rv.length
    exact zEnumEnd (I.ok.hd hc) he hit (show s.heap.IsTuple a its.toArray from p) (by simp; omega) fun h' eb => ⟨rfl, I.turned (t' := s.toks) (fun b o hb q => eb b o hb q) f0 f1 f3 f4 f5⟩
  self := fun A i s Q E st h => let ⟨⟨_, he⟩, _⟩ := st; wpAny_pyIter_enum he h

/-- enumerate of a list or of a tuple -/
def iEnumA (K : PySem.W.Frag) (ta : TA) : TI := fun σ H R => ta σ H fun vs H1 => ∃ a xs, vs = [.ref a] ∧ ((SqL K H1 a xs ∧ R (Ite K a) H1) ∨ (SqT K H1 a xs ∧ R (IteT K a) H1))
theorem pi_enumA {X : Cx} {e : Expr} {ta : TA} {p pos tpos : Pos} {elts : List Expr} {kk : Nat} (hg : Gl X "enumerate") (hm : X.mg "enumerate" = none) (ha : PA X [e] ta) (hs : starEach [e] X.env = [(false, eval e X.env)] := by rfl) :
    PI X (.Tuple elts kk tpos) (.Call (.Name "enumerate" p) [e] [] pos) (iEnumA X.K ta) := by
  refine ⟨fun pins s σ H R I h => Call_ (ld_blt I hg hm boot_enumerate (PyProof.Rows.callWith_type1 (thn (ha.run pos pins s σ H _ I h) fun us s1 ⟨vs, H1, I1, r1, a, xs, ex, hq⟩ => ?_) hs rfl))⟩
  subst ex
  cases r1 with
  | cons r rr =>
    cases rr
    cases r
    have fp : ∀ b ∈ [s1.heap.objs.size + 1, s1.heap.objs.size], FpOk X pins H1 b := fun b hb => by
      have hle : s1.heap.objs.size ≤ b := by
        rcases (show b = s1.heap.objs.size + 1 ∨ b = s1.heap.objs.size by simpa using hb) with z | z
        · exact z ▸ Nat.le_add_right _ _
        · exact z ▸ Nat.le_refl _
      exact I1.fpOk hle (I1.hok.fresh hle)
    rcases hq with ⟨hq, q⟩ | ⟨hq, q⟩
    · obtain ⟨its, rv, p', hz⟩ := I1.list hq
      refine call_enumerate_list p'.isList fun h' he hit hsz hk => wpAny_pyIter_enum he ?_
      exact ⟨s1.heap.objs.size + 1, _, _, _, H1, rfl, I1.kept (t' := s1.toks) hk, turn_enum a (s1.heap.objs.size + 1) s1.heap.objs.size, ⟨⟨.none, he⟩, hit, Nat.succ_ne_self _⟩, fp, q⟩
    · obtain ⟨its, rv, p', hz⟩ := I1.tuple hq
      refine zEnumCall (show s1.heap.IsTuple a its.toArray from p') fun h' he hit hsz hk => wpAny_pyIter_enum he ?_
      exact ⟨s1.heap.objs.size + 1, _, _, _, H1, rfl, I1.kept (t' := s1.toks) hk, turn_enumT a (s1.heap.objs.size + 1) s1.heap.objs.size, ⟨⟨.none, he⟩, hit, Nat.succ_ne_self _⟩, fp, q⟩
theorem walk_enumT {K : PySem.W.Frag} {a : Addr} {xs : List V} : Walk (IteT K a) xs.length (fun H => SqT K H a xs) (YPair (fun i => some (.int (i : Nat))) (fun i => xs[i]?)) :=
  ⟨fun i H hi g => ⟨xs, xs[i], g, by simp [hi]⟩, fun H g => ⟨xs, g, Nat.le_refl _⟩, fun i H x H' hi g y => by
    obtain ⟨T, z, e1, e2, e3, e4⟩ := y
    exact ⟨T, _, z, e1, e2, e3, rfl, e4 xs g⟩⟩
section
variable {K : PySem.W.Frag} {σ : L2.St} {H G : Hp} {W : Wl} {nx : L2.St → Hp → Prop} {rt : VK} {tb : TS} {a : Addr} {xs : List V} {ta : TA} {R : It → Hp → Prop}
theorem st_iEnumA (h : ta σ H fun vs H1 => ∃ a xs, vs = [.ref a] ∧ ((SqL K H1 a xs ∧ R (Ite K a) H1) ∨ (SqT K H1 a xs ∧ R (IteT K a) H1))) : iEnumA K ta σ H R := h
/-- for i, x in enumerate(a list or tuple) -/
theorem for_enumA (hx : SqL K G a xs ∨ SqT K G a xs) {i1 i2 : Nat} (I : Nat → L2.St → Hp → Wl → Prop) (w : Wd G W H) (h0 : I 0 σ G W)
    (hs : ∀ (i : Nat) x σ' G' G'' W' H', xs[i]? = some x → Same G G' → I i σ' G' W' → Same G' G'' → Wd G'' W' H' → tb ⟨Btw I G (i + 1), rt, nx, Btw I G (i + 1)⟩ ((σ'.set i1 (some (.int (i : Int)))).set i2 (some x)) H')
    (hd : ∀ σ' G' W' H', Same G G' → Wd G' W' H' → I xs.length σ' G' W' → nx σ' H') :
    ∃ a' ys, [V.ref a] = [.ref a'] ∧ ((SqL K H a' ys ∧ LoopQ (Ite K a') (gTup K 2 (gCons (gName i1) (gCons (gName i2) gNil))) tb nx rt σ H) ∨ (SqT K H a' ys ∧ LoopQ (IteT K a') (gTup K 2 (gCons (gName i1) (gCons (gName i2) gNil))) tb nx rt σ H)) := by
  have step : ∀ (i : Nat) (x : V) (σ' : L2.St) (G' : Hp) (W' : Wl) (H' H'' : Hp), i < xs.length → Same G G' → Wd G' W' H' → I i σ' G' W' → YPair (fun i => some (.int (i : Nat))) (fun i => xs[i]?) i H' x H'' →
      gTup K 2 (gCons (gName i1) (gCons (gName i2) gNil)) x σ' H'' fun σ2 H2 => tb ⟨Btw I G (i + 1), rt, nx, Btw I G (i + 1)⟩ σ2 H2 := fun i x σ' G' W' H' H'' _ e w' h y => by
    obtain ⟨T, x1, x2, rfl, hn, rfl, e1, e2⟩ := y
    cases e1
    refine ⟨T, _, rfl, SqT.of upd_same, rfl, _, _, rfl, ?_⟩
    refine ⟨_, _, rfl, ?_⟩
    exact ⟨rfl, hs i x2 σ' G' _ W' _ e2 e h (same_upd (w'.free hn)) (w'.new hn)⟩
  rcases hx with hx | hx
  · exact ⟨a, xs, rfl, .inl ⟨seq_up w hx, loop_go walk_enum I w (fun _ _ _ e w' => seq_up w' (e.seq hx)) h0 step hd⟩⟩
  · exact ⟨a, xs, rfl, .inr ⟨tup_up w hx, loop_go walk_enumT I w (fun _ _ _ e w' => tup_up w' (seqT e hx)) h0 step hd⟩⟩
end

/-! ### a list or a tuple -/
def iSeqA (K : PySem.W.Frag) (tl : TE) : TI := fun σ H R => iList K tl σ H R ∨ iTup K tl σ H R
theorem pi_seqA {X : Cx} {tg l : Expr} {tl : TE} (h : PE X l tl) : PI X tg l (iSeqA X.K tl) := ⟨fun pins s σ H R I q => q.elim (fun q => (pi_list h).run pins s σ H R I q) fun q => (pi_tup h).run pins s σ H R I q⟩
section
variable {K : PySem.W.Frag} {σ : L2.St} {H G : Hp} {W : Wl} {nx : L2.St → Hp → Prop} {rt : VK} {g : TG} {tb : TS} {a : Addr} {xs : List V} {tl : TE} {tt : TT} {te : TE} {vs : List Nat} {Q : VK} {j : Nat}
theorem for_seq (ht : ∀ Q : VK, Q (.ref a) H → tl σ H Q) (hx : SqL K G a xs ∨ SqT K G a xs) (I : Nat → L2.St → Hp → Wl → Prop) (w : Wd G W H) (h0 : I 0 σ G W)
    (hs : ∀ i x σ' G' W' H', xs[i]? = some x → Same G G' → Wd G' W' H' → I i σ' G' W' → g x σ' H' fun σ2 H2 => tb ⟨Btw I G (i + 1), rt, nx, Btw I G (i + 1)⟩ σ2 H2)
    (hd : ∀ σ' G' W' H', Same G G' → Wd G' W' H' → I xs.length σ' G' W' → nx σ' H') : iSeqA K tl σ H fun J H1 => LoopQ J g tb nx rt σ H1 := by
  rcases hx with hx | hx
  · exact .inl (st_iList (ht _ (for_l hx I w h0 hs hd)))
  · exact .inr (st_iTup (ht _ (for_t hx I w h0 hs hd)))
theorem lc_t (hx : SqT K G a xs) (I : Nat → List V → Hp → Prop) (w : Wd G W H) (h0 : I 0 [] G) (hw : ∀ x, wipe ((wipe σ vs).set j x) vs = wipe σ vs)
    (hs : ∀ (i : Nat) x D G' H' acc, xs[i]? = some x → Same G G' → Wd G' ((D, Is (.lst acc)) :: W) H' → I i acc G' → tt ((wipe σ vs).set j (some x)) H' fun b H3 =>
      if b = true then te ((wipe σ vs).set j (some x)) H3 fun y H4 => ∃ acc, H4 D = some (.lst acc) ∧ acc.length < sizeLine ∧ LcB I G W D (i + 1) (upd H4 D (.lst (acc ++ [y]))) else LcB I G W D (i + 1) H3)
    (hd : ∀ D G' H' acc, Same G G' → Wd G' ((D, Is (.lst acc)) :: W) H' → I xs.length acc G' → Q (.ref D) H') : ∃ a', V.ref a = .ref a' ∧ (∃ xs, SqT K H a' xs) ∧ LcQ (Itt K a') (gName j) tt te vs σ H Q :=
  ⟨a, rfl, ⟨xs, tup_up w hx⟩, lc_go walk_tup I w (fun _ _ _ e w' => tup_up w' (seqT e hx)) h0 (fun i x D G' H' H'' acc _ e w' h y => by
    obtain ⟨rfl, y⟩ := y
    exact ⟨hw _, hs i x D G' H'' acc y e w' h⟩) hd⟩
theorem lc_seq (ht : ∀ Q : VK, Q (.ref a) H → tl σ H Q) (hx : SqL K G a xs ∨ SqT K G a xs) (I : Nat → List V → Hp → Prop) (w : Wd G W H) (h0 : I 0 [] G) (hw : ∀ x, wipe ((wipe σ vs).set j x) vs = wipe σ vs)
    (hs : ∀ (i : Nat) x D G' H' acc, xs[i]? = some x → Same G G' → Wd G' ((D, Is (.lst acc)) :: W) H' → I i acc G' → tt ((wipe σ vs).set j (some x)) H' fun b H3 =>
      if b = true then te ((wipe σ vs).set j (some x)) H3 fun y H4 => ∃ acc, H4 D = some (.lst acc) ∧ acc.length < sizeLine ∧ LcB I G W D (i + 1) (upd H4 D (.lst (acc ++ [y]))) else LcB I G W D (i + 1) H3)
    (hd : ∀ D G' H' acc, Same G G' → Wd G' ((D, Is (.lst acc)) :: W) H' → I xs.length acc G' → Q (.ref D) H') : iSeqA K tl σ H fun J H1 => LcQ J (gName j) tt te vs σ H1 Q := by
  rcases hx with hx | hx
  · exact .inl (st_iList (ht _ (lc_l hx I w h0 hw hs hd)))
  · exact .inr (st_iTup (ht _ (lc_t hx I w h0 hw hs hd)))
end
end Z

/-! defs that ask what guards stand around them (repr of data) -/
namespace Z
open PySem PySem.Spec PyProof.Rows L2
/-- a promise kept where no guard stands around -/
structure FnG (P : Program) (w : World) (K : PySem.W.Frag) (mg : Str → Option Value) (base : Heap) (k : Nat) (f : Addr) (fd : FuncData) (ps : List Str) (sp : Sp) : Prop where
  len : ∀ vs H Q E, sp vs H Q E → vs.length = ps.length
  run : ∀ (A : Around) (outer : List Env) (s : Shared) (H : Hp) (args : Args) (us : List Value) (vs : List V) (Q : VK) (E : XK), Room k A → A.guards = some [] → Env0 P w K mg base A outer s H → BindsTo s fd args (ps.zip us) → Vals vs us → sp vs H Q E →
    codeAny (model P w) A (.call (.ref f) args) (CR CX0 outer P w H s Q E) s
theorem FnG.of {P : Program} {w : World} {K : PySem.W.Frag} {mg : Str → Option Value} {base : Heap} {k : Nat} {f : Addr} {fd : FuncData} {ps : List Str} {sp : Sp} (F : FnOk P w K mg base CX0 k f fd ps sp) : FnG P w K mg base k f fd ps sp :=
  ⟨F.len, fun A outer s H args us vs Q E hr _ e0 hb r h => F.run A outer s H args us vs Q E hr e0 hb r h⟩
section
variable {P : Program} {w : World} {K : PySem.W.Frag} {mg : Str → Option Value} {base : Heap} {x qual : Str} {params : Arguments} {body : List Stmt} {scope : Scope} {dvs : List V} {kws : List (Str × V)} {f : Addr} {fd : FuncData}
theorem okG {N ps : List Str} {k : Nat} {sp : Sp} (F : FunD K x qual params body scope dvs kws f fd) (S : FnScope N ps scope) (len : ∀ vs H Q E, sp vs H Q E → vs.length = ps.length)
    (hbody : ∀ (cdv : Value) (A : Around) (outer : List Env) (s : Shared) (H : Hp) (vs : List V) (Q : VK) (E : XK), A.guards = some [] → Room k (A.deeper (envOfC qual scope s.heap.objs.size f cdv)) → sp vs H Q E →
      ∃ t, PSs (cxOf CX0 P w K mg base N qual scope f cdv A outer s H E).nox body t ∧ t { nx := fun _ H' => Q .non H', rt := Q } (start N vs) H) : FnG P w K mg base (k + 1) f fd ps sp := by
  obtain ⟨oc, od, dV, kV, doc, pm, an, cdv, ct, osl, rfl, lk, hcd, _, _⟩ := F.ex
  refine ⟨len, fun A outer s H args us vs Q E hr hgd e0 hb r hsp => ?_⟩
  have KX : K.In s.heap := e0.mod.kin.keeps fun b o e => (e0.bs b o e).1
  have kd : ∀ y ∈ ps.zip us, scope.names.lookup y.1 = some .local ∨ (scope.names.lookup y.1 = some .cell ∧ ((cellsFrom (s.heap.objs.size + 1) scope.names []).lookup y.1).isSome = true) := fun y hy =>
    (S.par y.1 (List.of_mem_zip (a := y.1) (b := y.2) hy).1).imp (fun q => q) fun q => ⟨q, PySem.W.cellsFrom_some _ _ _ (.inl q)⟩
  refine codeAny_call_function hr.depth (KX _ _ lk) rfl S.co S.gen rfl (PySem.W.codeRec_of KX hcd) (hb _ _ _ _ (wpAny_newFunctionEnv_cells S.kind kd fun env he s1 y => ?_))
  cases he
  obtain ⟨t, ht, hq⟩ := hbody cdv A outer s H vs Q E hgd (hr.deeper _) hsp
  refine ⟨(e0.mod.nolimit.keeps fun b o e => (e0.bs b o e).1).keeps y.toInCall.keep, codeAny_func (wpAny_mono (ht.nox.run [] s1 (start N vs) H _ (inv_start S hr.hd e0 (len _ _ _ _ hsp) r y) hq) (fun fl s' hs => ?_) fun e s' hs => hs)⟩
  cases fl with
  | ret u => exact let ⟨v, _, H', J, rv, q⟩ := hs; ⟨v, H', J.os, J.bare, J.base, J.hok, rv, q⟩
  | next => exact let ⟨_, H', J, q⟩ := hs; ⟨.non, H', J.os, J.bare, J.base, J.hok, rfl, q⟩
  | brk => exact let ⟨_, _, _, q⟩ := hs; False.elim q
  | cont => exact let ⟨_, _, _, q⟩ := hs; False.elim q
end
section
variable {X : Cx} {k n : Nat} {f : Addr} {fd : FuncData} {ps ks : List Str} {ds : List Value} {dvs : List V} {sp : Sp} {E : XK} {x : Str} {p pos : Pos} {e : Expr} {es : List Expr} {kws : List Keyword} {t tk : TA} {g : List Value → List Value → List Value} {gV : List V → List V → List V}
theorem run_fnG {pins : List (Addr × Obj)} {σ : L2.St} {H : Hp} {s : Shared} {Q : VK} {us : List Value} {vs : List V} (F : FnG X.prog X.w X.K X.mg X.base k f fd ps sp) (hr : Room k X.A) (hgd : X.A.guards = some []) (hb : Binds X.K fd ps ds) (hd : Vals dvs ds)
    (I : Inv X pins σ H s) (r : Vals vs us) (h : sp (vs ++ dvs) H Q E) : wpAny (model X.prog X.w) X.A (call (.ref f) us) (EP X pins σ Q) X.xe s := by
  have r2 := r.append hd
  refine wpAny_call (codeAny_mono (F.run X.A X.stack s H ⟨us, []⟩ _ _ Q E hr hgd I.env0 (hb s us I.kIn (r2.length.symm.trans (F.len _ _ _ _ h))) r2 h) fun r s' hq => ?_)
  cases r with
  | error e => exact False.elim hq
  | ok fl => cases fl with
    | ret u => exact I.after hq
    | _ => exact False.elim hq
theorem pe_callG (F : FnG X.prog X.w X.K X.mg X.base k f fd ps sp) (hr : Room k X.A) (hgd : X.A.guards = some []) (hg : Gl X x) (hm : X.mg x = some (.ref f)) (hk : PySem.W.keepIn X.K (.ref f) = true) (hb : Binds X.K fd ps ds) (hd : Vals dvs ds)
    (ha : PA X (e :: es) t) (hdb : (x == ("__debug__" : Str)) = false := by decide) (he : starEach (e :: es) X.env = (false, eval e X.env) :: starEach es X.env := by rfl) (hpl : (backTo pos (starEach es X.env)).any (·.1) = false := by rfl) :
    PE X (.Call (.Name x p) (e :: es) [] pos) (tCall sp dvs E0 t) :=
  ⟨fun pins s σ H Q I h => wpAny_Call_Name_kw (ld_glob I hg hm (PySem.W.callWith_K (h₀ := X.base) I.ok.mod.kin hk (thn (ha.run pos pins _ σ H _ (I.tok _) h) fun us s1 ⟨vs, H1, I1, r, q⟩ => ⟨I1.kIn, run_fnG (E := E0) F hr hgd hb hd I1 r q⟩) he hpl) hdb)⟩
/-- repr of data -/
def rRepr (K : PySem.W.Frag) : List V → Hp → VK → Prop := fun xs H Q => ∃ x d, xs = [x] ∧ Dp K H x d ∧ d.showable = true ∧ d.canLay0 = true ∧ d.depth ≤ 60 ∧ d.shown.length ≤ sizeLine ∧ Q (.str d.shown) H
theorem call_reprD (hgd : X.A.guards = some []) (hu : X.A.units + 64 < cLine) : CallR X (.builtin "repr") (rRepr X.K) := by
  intro pins s σ H xs us Q I r h
  obtain ⟨x, d, rfl, hd, hs, hc, hp, hz, q⟩ := h
  obtain ⟨u, rfl, rx⟩ := vals1 r
  obtain ⟨as, rd⟩ := Dp.reads I d x u hd rx
  cases hd with
  | non =>
    cases rx
    exact PySem.P.repr_of_none ⟨.str _, H, I.tok _, ⟨_, rfl⟩, q⟩
  | bl b =>
    cases rx
    refine PySem.P.repr_of_bool ⟨.str _, H, I.tok _, ⟨_, rfl⟩, ?_⟩
    simpa [PyData.shown] using q
  | int i =>
    obtain ⟨t, rfl⟩ := rx
    refine PySem.P.repr_of_int (by simpa [PyData.showable] using hs) ⟨.str _, H, I.tok _, ⟨_, rfl⟩, ?_⟩
    simpa [PyData.shown] using q
  | str z =>
    obtain ⟨t, rfl⟩ := rx
    refine PySem.P.repr_of_str ⟨.str _, H, I.tok _, ⟨_, rfl⟩, ?_⟩ (by simpa [PyData.shown] using hz)
    simpa [PyData.shown] using q
  | lst _ _ =>
    cases rx
    exact repr_of_reads' rd hs (PyData.noDict_hsm (PyData.hasDict_of_canLay _ hc)) hgd (by omega) (fun _ _ e => e) (fun h' u tk hk => ⟨.str _, H, I.kept (t' := tk) hk, ⟨_, rfl⟩, q⟩) hz
  | tup _ _ =>
    cases rx
    exact repr_of_reads' rd hs (PyData.noDict_hsm (PyData.hasDict_of_canLay _ hc)) hgd (by omega) (fun _ _ e => e) (fun h' u tk hk => ⟨.str _, H, I.kept (t' := tk) hk, ⟨_, rfl⟩, q⟩) hz
end

/-! ### lists of ints put together -/
section
variable {K : PySem.W.Frag} {G H : Hp} {W : Wl} {Q : VK} {a b : Addr}
/-- a list of ints that stands whole -/
def HL (G : Hp) (a : Addr) (ns : List Int) : Prop := G a = some (.lst (ns.map V.int))
theorem HL.seq {ns : List Int} (h : HL G a ns) : SqL K G a (ns.map V.int) := SqL.of h
theorem HL.up {G' : Hp} {ns : List Int} (h : HL G a ns) (e : Same G G') : HL G' a ns := e _ _ h
theorem st_catI {xs ys : List Int} (ha : H a = some (.lst (xs.map V.int))) (hb : H b = some (.lst (ys.map V.int))) (hz : xs.length + ys.length ≤ 1000000) (w : Wd G W H) (k : ∀ p G' H', Same G G' → Wd G' W H' → HL G' p (xs ++ ys) → Q (.ref p) H') : rCat (.ref a) (.ref b) H Q := by
  refine ⟨a, b, _, _, rfl, rfl, ha, hb, small (by rw [List.length_map, List.length_map]; exact hz), fun p hp => ?_⟩
  rw [← List.map_append]
  exact k p _ _ (same_upd (w.free hp)) (w.new hp) upd_same
theorem flat_rep {α : Type} (n : Nat) (x : α) : (List.replicate n [x]).flatten = List.replicate n x := by
  induction n with
  | zero => rfl
  | succ n ih => rw [List.replicate_succ, List.flatten_cons, ih]; rfl
theorem st_repI {x k : Int} (ha : H a = some (.lst [.int x])) (h0 : 0 ≤ k) (h1 : k ≤ 1000000) (w : Wd G W H) (q : ∀ p G' H', Same G G' → Wd G' W H' → HL G' p (List.replicate k.toNat x) → Q (.ref p) H') : rRep (.ref a) (.int k) H Q := by
  refine ⟨a, k, _, rfl, rfl, ha, by omega, by omega, small (by simp; omega), fun p hp => ?_⟩
  rw [flat_rep]
  exact q p _ _ (same_upd (w.free hp)) (w.new hp) (by unfold HL; rw [upd_same, List.map_replicate])
theorem st_repI2 {xs : List Int} {k : Int} (ha : H a = some (.lst (xs.map V.int))) (h0 : 0 ≤ k) (h1 : xs.length * k.toNat ≤ 1000000) (h2 : k ≤ 1000000) (w : Wd G W H) (q : ∀ p G' H', Same G G' → Wd G' W H' → HL G' p (List.replicate k.toNat xs).flatten → Q (.ref p) H') : rRep (.ref a) (.int k) H Q := by
  refine ⟨a, k, _, rfl, rfl, ha, by omega, by omega, small (by rw [List.length_map]; exact h1), fun p hp => ?_⟩
  exact q p _ _ (same_upd (w.free hp)) (w.new hp) (by unfold HL; rw [upd_same, List.map_flatten, List.map_replicate])
theorem iteNT {a b : Prop} (h : a) : if (!false) = true then a else b := L2.iteT h
theorem iteNF {a b : Prop} (h : b) : if (!true) = true then a else b := L2.iteF h
theorem mem_two {v x y : V} {P : V → Prop} (h : v ∈ [x, y]) (h1 : P x) (h2 : P y) : P v := by
  rcases List.mem_cons.mp h with rfl | h
  · exact h1
  · rcases List.mem_cons.mp h with rfl | h
    · exact h2
    · exact nomatch h
end
/-- all of a list -/
def AllP {α : Type} (P : α → Prop) : List α → Prop
  | [] => True
  | x :: xs => P x ∧ AllP P xs
theorem AllP.of {α : Type} {P : α → Prop} : ∀ {xs : List α}, AllP P xs → ∀ x ∈ xs, P x
  | _ :: _, h, _, hx => by
    rcases List.mem_cons.mp hx with rfl | hx
    · exact h.1
    · exact AllP.of h.2 _ hx
/-! ### the law itself -/
section
variable {P : Program} {w : World} {K : PySem.W.Frag} {mg mb : Str → Option Value} {k : Nat} {fa a : Addr} {fd : FuncData} {x : Str} {sp : Sp} {s₁ : Shared} {vs : List Value} {ns : List Int}
/-- the heap behind the top without what H tells -/
theorem hid_ns {h : Heap} {H : Hp} {b : Addr} {m : Str → Option Value} {va : Array Value} (hA : ∀ b, H b ≠ none → b = a) (ha : h.get? a = some { cls := .type "list", data := .seq va }) (n : h.Ns b m) : (hidT h H).Ns b m := by
  obtain ⟨o, es, ep, e, d, r⟩ := n
  refine ⟨o, es, ep, hidT_get e ?_, d, r⟩
  cases q : H b with
  | none => rfl
  | some u =>
    rw [hA b (by rw [q]; exact fun z => nomatch z), ha] at e
    have e2 := Option.some.inj e
    rw [← e2] at d
    exact nomatch d
theorem law_core (KX : K.In s₁.heap) (hns : s₁.heap.Ns mainGlobals mg) (hb : s₁.heap.Ns builtinsNs mb) (hbb : ∀ x : Str, x ≠ "__name__" → mb x = bootBuiltins x) (hlim : s₁.heap.NoLimit) (hg : s₁.gens = #[])
    (ha : s₁.heap.get? a = some { cls := .type "list", data := .seq vs.toArray }) (hr : Room k callerA) (F : ∀ base : Heap, K.In base → base.Ns mainGlobals mg → FnG P w K mg base k fa fd [x] sp) (hbind : ∀ (s : Shared) (u : Value), BindsTo s fd ⟨[u], []⟩ [(x, u)])
    {H : Hp} (hO : Only H) (hsp : sp [.ref a] H (fun v _ => v = .bl true) fun _ _ _ => False) (hok : HOk P w H s₁.heap) (hA : ∀ b, H b ≠ none → b = a) (hK : H a ≠ none → K.lookup a = none) :
    codeAny (model P w) callerA (.call (.ref fa) ⟨[.ref a], []⟩) (fun r s' => r = .ok (.ret (.bool true)) ∧ OldK s₁.heap s'.heap ∧ s'.os = s₁.os ∧ AllBare s'.gens) s₁ := by
  have hKb : K.In (hidT s₁.heap H) := fun b o e => hidT_get (KX b o e) (by
    cases q : H b with
    | none => rfl
    | some u =>
      have n : H b ≠ none := by rw [q]; exact fun z => nomatch z
      have eb := hA b n
      rw [eb] at n e
      rw [hK n] at e
      exact nomatch e)
  have M : Mod K mg (hidT s₁.heap H) := ⟨hKb, hid_ns hA ha hns, ⟨mb, hid_ns hA ha hb, hbb⟩, let ⟨mc, h1, h2⟩ := hlim; ⟨mc, hid_ns hA ha h1, h2⟩⟩
  have e0 : Env0 P w K mg (hidT s₁.heap H) callerA [] s₁ H := ⟨rfl, M, fun b o e => of_hidT e, Nat.le_of_eq (hidT_size _ _), trivial, fun b z => (List.not_mem_nil z).elim, hok, .of_eq hg⟩
  refine codeAny_mono ((F _ hKb (hid_ns hA ha hns)).run callerA [] s₁ H ⟨[.ref a], []⟩ [.ref a] [.ref a] _ _ hr rfl e0 (hbind s₁ (.ref a)) (.cons rfl .nil) hsp) fun r s' h => ?_
  cases r with
  | error e => exact False.elim h
  | ok fl => cases fl with
    | ret u =>
      obtain ⟨v, H', os, bare, un, hok', r', q⟩ := h
      cases (show v = .bl true from q)
      cases (show u = Value.bool true from r')
      refine ⟨rfl, OldK.of_keep fun b o e => ?_, os, bare⟩
      cases z : H b with
      | none => exact un.keep b o e z (List.not_mem_nil) (List.not_mem_nil)
      | some u =>
        rcases hO b with y | ⟨ob, xs, y⟩
        · rw [z] at y
          cases y
        · have e1 := (hok b _ y).1
          have e2 := (hok' b _ (un.frzs b ob _ y)).1
          rw [e] at e1
          cases e1
          exact e2
    | _ => exact False.elim h
theorem law_callG (KX : K.In s₁.heap) (hns : s₁.heap.Ns mainGlobals mg) (hb : s₁.heap.Ns builtinsNs mb) (hbb : ∀ x : Str, x ≠ "__name__" → mb x = bootBuiltins x) (hlim : s₁.heap.NoLimit) (hg : s₁.gens = #[])
    (ha : s₁.heap.get? a = some { cls := .type "list", data := .seq vs.toArray }) (hi : IntsAre vs ns) (hl : ns.length ≤ sizeLine) (hr : Room k callerA) (F : ∀ base : Heap, K.In base → base.Ns mainGlobals mg → FnG P w K mg base k fa fd [x] sp)
    (hbind : ∀ (s : Shared) (u : Value), BindsTo s fd ⟨[u], []⟩ [(x, u)]) (hsp : ∀ H : Hp, Only H → SqL K H a (ns.map V.int) → sp [.ref a] H (fun v _ => v = .bl true) fun _ _ _ => False) :
    codeAny (model P w) callerA (.call (.ref fa) ⟨[.ref a], []⟩) (fun r s' => r = .ok (.ret (.bool true)) ∧ OldK s₁.heap s'.heap ∧ s'.os = s₁.os ∧ AllBare s'.gens) s₁ := by
  have rv := vals_ints hi
  cases hk : K.lookup a with
  | some o =>
    have e := KX a o hk
    rw [ha] at e
    cases e
    have hO : Only fun _ => none := fun _ => .inl rfl
    exact law_core KX hns hb hbb hlim hg ha hr F hbind hO (hsp _ hO (.inr ⟨_, vs.toArray, _, hk, rfl, rfl, rfl, by rw [List.size_toArray, hi.length]; exact hl, by simpa using rv⟩)) (fun b u z => nomatch z) (fun b z => (z rfl).elim) fun z => (z rfl).elim
  | none =>
    have hO : Only fun b => if b = a then some (.frz { cls := .type "list", data := .seq vs.toArray } (.lst (ns.map V.int))) else none := fun b => by
      by_cases z : b = a
      · exact .inr ⟨_, _, if_pos z⟩
      · exact .inl (if_neg z)
    refine law_core KX hns hb hbb hlim hg ha hr F hbind hO (hsp _ hO (.inl (.inr ⟨_, if_pos rfl⟩))) (fun b u z => ?_) (fun b z => ?_) fun _ => hk
    · by_cases y : b = a
      · have z2 := (if_pos y).symm.trans z
        cases z2
        cases y
        exact ⟨ha, by rw [List.length_map]; exact hl, vs, _, rv, ha⟩
      · exact nomatch (if_neg y).symm.trans z
    · exact Decidable.byContradiction fun y => z (if_neg y)
end
theorem walk_G {l : PySem.W.OpenLaw} {n k : Nat} {q : Program} {loose : List Str} {XP : (Str → Option Value) → Heap → Prop} {YP : World → Heap → Prop} {d : DefRec} {K : Params → PySem.W.Frag} {sp : World → Sp} {x : Str} (hn : l.most = some n) (hn2 : n ≤ sizeLine) (hdf : d.params.defaults = [])
    (hr : Room k callerA) (hY : ∀ (w : World) (h : Heap), YP w h → (K w.params).In h)
    (F : ∀ (w : World) (mg : Str → Option Value) (fa : Addr) (h : Heap), (K w.params).In h → h.Ns mainGlobals mg → mg d.name = some (.ref fa) →
      ∃ fd : FuncData, (∀ (s : Shared) (u : Value), BindsTo s fd ⟨[u], []⟩ [(x, u)]) ∧ ∀ base : Heap, (K w.params).In base → base.Ns mainGlobals mg → FnG l.prog w (K w.params) mg base k fa fd [x] (sp w))
    (hsp : ∀ (w : World) (H : Hp) (a : Addr) (ns : List Int), ns.length ≤ n → Only H → SqL (K w.params) H a (ns.map V.int) → sp w [.ref a] H (fun v _ => v = .bl true) fun _ _ _ => False) :
    PySem.W.WalkO q loose XP YP l.row.toRowW d [] (fun f vs => PySem.call f vs) := by
  refine Att.attach_call hn hdf fun w s₀ s₁ mg mb fa o pm cd doc a vs ns G Y ho hd hcd hmg hobj hints hlen hg => ?_
  obtain ⟨fd, hb, hF⟩ := F w mg fa _ (hY w _ Y) G.T.g hmg
  exact law_callG (hY w _ Y) G.T.g G.T.b G.T.builtins G.T.nolimit hg hobj hints (Nat.le_trans hlen hn2) hr hF hb fun H hO hS => hsp w H a ns hlen hO hS
end Z

local macro_rules | `(tactic| walk_at "cond") => `(tactic| first
  | (show (0 : Int) < _; first | decide | omega) | (show (0 : Int) ≤ _; first | decide | omega) | ((refine (show L2.CDiv _ _ from ⟨?_, ?_⟩)) <;> omega) | ((refine (show L2.CMul _ _ from Or.inl ⟨?_, ?_⟩)) <;> omega) | ((refine (show L2.CMul _ _ from Or.inr ⟨?_, ?_⟩)) <;> omega)
  | (refine (show Z.CPowW _ _ from ⟨?_, ?_⟩) <;> decide) | (refine (show L2.CPow _ _ from ⟨?_, ?_, ?_⟩); omega; omega; decide))
local macro_rules | `(tactic| walk_at "z") => `(tactic| first
  | with_reducible refine Z.st_seq ?_ | with_reducible refine Z.st_asg ?_ | with_reducible refine Z.st_if ?_ | with_reducible refine Z.st_ret ?_ | with_reducible refine Z.st_drop ?_ | with_reducible refine Z.st_next ?_ | with_reducible refine Z.st_retN ?_ | with_reducible refine Z.st_brk ?_ | with_reducible refine Z.st_cont ?_
  | with_reducible refine Z.st_gname ?_ | with_reducible refine Z.st_par ?_ | with_reducible refine Z.st_two ?_
  | ((with_reducible refine' Z.st_var ?hv ?hq); (case hv => exact rfl)) | with_reducible refine Z.st_c ?_ | with_reducible refine Z.st_op ?_ | with_reducible refine Z.st_un ?_ | with_reducible refine Z.st_i0 ?_ | with_reducible refine Z.st_u ?_
  | with_reducible refine Z.st_test ?_ | with_reducible refine Z.st_tB ?_ | with_reducible refine Z.st_bl ?_ | with_reducible refine Z.st_not ?_ | with_reducible refine Z.st_and ?_ | with_reducible refine Z.st_or ?_
  | with_reducible refine Z.st_andV ?_ | with_reducible refine Z.st_orV ?_ | with_reducible refine Z.st_notV ?_
  | with_reducible refine Z.st_nil ?_ | with_reducible refine Z.st_cons ?_ | with_reducible refine Z.st_cb ?_ | with_reducible refine Z.st_call ?_ | with_reducible refine Z.st_callN ?_
  | with_reducible refine Z.st_lst ?_ | with_reducible refine Z.st_tup ?_
  | ((with_reducible refine Z.st_eq ?_ ?_); exact rfl) | ((with_reducible refine Z.st_ne ?_ ?_); exact rfl)
  | with_reducible refine Z.st_for ?_ | with_reducible refine Z.st_iEnumA ?_ | with_reducible refine Z.st_iList ?_ | with_reducible refine Z.st_iTup ?_ | with_reducible refine Z.st_iR1 ?_ | with_reducible refine Z.st_iR2 ?_
  | ((with_reducible refine' Z.st_i ?hc ?hq); (case hc => walk_at "cond"))
  | with_reducible refine Z.st_gsub ?_ | with_reducible refine Z.st_bm ?_ | with_reducible refine Z.st_bm0 ?_
  | with_reducible refine Z.st_lc ?_ | with_reducible refine Z.st_yes ?_
  | with_reducible refine L2.iteT ?_ | with_reducible refine L2.iteF ?_ | with_reducible refine Z.iteNT ?_ | with_reducible refine Z.iteNF ?_)
local macro_rules | `(tactic| walk_at "zz") => `(tactic| repeat walk_at "z")
local macro_rules | `(tactic| walk_at "sm") => `(tactic| first | exact L2.Same.refl _ | assumption | (refine' L2.Same.trans ?ha ?hb; (case hb => assumption); (case ha => walk_at "sm")))
local macro_rules | `(tactic| walk_at "up") => `(tactic| first
  | assumption
  | (refine' Z.seq_up ?w ?h; (case w => assumption); (case h => walk_at "up")) | (refine' Z.tup_up ?w ?h; (case w => assumption); (case h => walk_at "up")) | (refine' Z.dUp ?w ?h; (case w => assumption); (case h => walk_at "up")) | (refine' Z.hUp ?w ?h; (case w => assumption); (case h => walk_at "up"))
  | (refine' L2.Same.seq ?e ?h; (case e => assumption); (case h => walk_at "up")) | (refine' Z.seqT ?e ?h; (case e => assumption); (case h => walk_at "up")) | (refine' Z.dmono ?e ?h; (case e => assumption); (case h => walk_at "up")) | (refine' Z.atUp ?e ?h; (case e => assumption); (case h => walk_at "up")))
local macro_rules | `(tactic| walk_at "zi") => `(tactic| with_reducible refine Z.st_ifE ?_)

namespace Z
open PySem PySem.Spec PyProof.Rows L2

def top (i : Nat) : Stmt := PySem.Challenge.pw_deflatehall_k05_kinds_of_lengths.main.body.getD i (.Pass ⟨0, 0, 0, 0⟩)
abbrev s_is_integer : Stmt := top 3
abbrev s_check_items : Stmt := top 8
abbrev s_excess_of : Stmt := top 9
abbrev s_kind_of : Stmt := top 10
abbrev s_is_good : Stmt := top 11
abbrev s__law_bag : Stmt := top 13
abbrev s__law_take : Stmt := top 14
abbrev s__law_one : Stmt := top 15
abbrev s__law_lengths : Stmt := top 16
abbrev s__law_excess : Stmt := top 17
abbrev s__law_right : Stmt := top 18
abbrev s_law : Stmt := top 19
abbrev sN_is_integer : List Str := ["value"]
abbrev sP_is_integer : List Str := ["value"]
theorem sc_is_integer : FnScope sN_is_integer sP_is_integer (defScope s_is_integer) := ⟨rfl, rfl, rfl, by decide +kernel, rfl, by decide +kernel, by decide +kernel⟩
abbrev sN_check_items : List Str := ["values", "least", "most", "position", "value"]
abbrev sP_check_items : List Str := ["values", "least", "most"]
theorem sc_check_items : FnScope sN_check_items sP_check_items (defScope s_check_items) := ⟨rfl, rfl, rfl, by decide +kernel, rfl, by decide +kernel, by decide +kernel⟩
abbrev sN_excess_of : List Str := ["lengths", "length"]
abbrev sP_excess_of : List Str := ["lengths"]
theorem sc_excess_of : FnScope sN_excess_of sP_excess_of (defScope s_excess_of) := ⟨rfl, rfl, rfl, by decide +kernel, rfl, by decide +kernel, by decide +kernel⟩
abbrev sN_kind_of : List Str := ["lengths", "excess"]
abbrev sP_kind_of : List Str := ["lengths"]
theorem sc_kind_of : FnScope sN_kind_of sP_kind_of (defScope s_kind_of) := ⟨rfl, rfl, rfl, by decide +kernel, rfl, by decide +kernel, by decide +kernel⟩
abbrev sN_is_good : List Str := ["lengths", "length"]
abbrev sP_is_good : List Str := ["lengths"]
theorem sc_is_good : FnScope sN_is_good sP_is_good (defScope s_is_good) := ⟨rfl, rfl, rfl, by decide +kernel, rfl, by decide +kernel, by decide +kernel⟩
abbrev sN__law_bag : List Str := ["_law_script", "_law_at", "_law_cell", "_law_digits"]
abbrev sP__law_bag : List Str := ["_law_script", "_law_at"]
theorem sc__law_bag : FnScope sN__law_bag sP__law_bag (defScope s__law_bag) := ⟨rfl, rfl, rfl, by decide +kernel, rfl, by decide +kernel, by decide +kernel⟩
abbrev sN__law_take : List Str := ["_law_bag_here", "_law_many", "_law_digit"]
abbrev sP__law_take : List Str := ["_law_bag_here", "_law_many"]
theorem sc__law_take : FnScope sN__law_take sP__law_take (defScope s__law_take) := ⟨rfl, rfl, rfl, by decide +kernel, rfl, by decide +kernel, by decide +kernel⟩
abbrev sN__law_one : List Str := ["_law_bag_here", "_law_things"]
abbrev sP__law_one : List Str := ["_law_bag_here", "_law_things"]
theorem sc__law_one : FnScope sN__law_one sP__law_one (defScope s__law_one) := ⟨rfl, rfl, rfl, by decide +kernel, rfl, by decide +kernel, by decide +kernel⟩
abbrev sN__law_lengths : List Str := ["_law_bag_here", "_law_most", "_law_turn", "_law_some", "_law_at"]
abbrev sP__law_lengths : List Str := ["_law_bag_here", "_law_most"]
theorem sc__law_lengths : FnScope sN__law_lengths sP__law_lengths (defScope s__law_lengths) := ⟨rfl, rfl, rfl, by decide +kernel, rfl, by decide +kernel, by decide +kernel⟩
abbrev sN__law_excess : List Str := ["_law_some", "_law_length"]
abbrev sP__law_excess : List Str := ["_law_some"]
theorem sc__law_excess : FnScope sN__law_excess sP__law_excess (defScope s__law_excess) := ⟨rfl, rfl, rfl, by decide +kernel, rfl, by decide +kernel, by decide +kernel⟩
abbrev sN__law_right : List Str := ["_law_some", "_law_excess_here", "_law_before", "_law_due", "_law_good", "_law_length", "_law_told"]
abbrev sP__law_right : List Str := ["_law_some"]
theorem sc__law_right : FnScope sN__law_right sP__law_right (defScope s__law_right) := ⟨rfl, rfl, rfl, by decide +kernel, rfl, by decide +kernel, by decide +kernel⟩
abbrev sN_law : List Str := ["_law_script", "_law_at", "_law_bag_here", "_law_turn", "_law_some", "_law_spot", "_law_lone", "_law_one_here", "_law_steep"]
abbrev sP_law : List Str := ["_law_script"]
theorem sc_law : FnScope sN_law sP_law (defScope s_law) := ⟨rfl, rfl, rfl, by decide +kernel, rfl, by decide +kernel, by decide +kernel⟩
structure Adr where
  f_is_integer : Addr
  fd_is_integer : FuncData
  f_check_items : Addr
  fd_check_items : FuncData
  f_excess_of : Addr
  fd_excess_of : FuncData
  f_kind_of : Addr
  fd_kind_of : FuncData
  f_is_good : Addr
  fd_is_good : FuncData
  f__law_bag : Addr
  fd__law_bag : FuncData
  f__law_take : Addr
  fd__law_take : FuncData
  f__law_one : Addr
  fd__law_one : FuncData
  f__law_lengths : Addr
  fd__law_lengths : FuncData
  f__law_excess : Addr
  fd__law_excess : FuncData
  f__law_right : Addr
  fd__law_right : FuncData
  f_law : Addr
  fd_law : FuncData
  t_MOST_SYMBOLS : Tok
  t_WHOLE : Tok
  t_LONGEST : Tok
structure Txt (K : PySem.W.Frag) (mg : Str → Option Value) (A : Adr) : Prop where
  F_is_integer : FunD K "is_integer" "is_integer" (defArgs s_is_integer) (defBody s_is_integer) (defScope s_is_integer) [] [] A.f_is_integer A.fd_is_integer
  b_is_integer : Binds K A.fd_is_integer sP_is_integer []
  m_is_integer : mg "is_integer" = some (.ref A.f_is_integer)
  F_check_items : FunD K "check_items" "check_items" (defArgs s_check_items) (defBody s_check_items) (defScope s_check_items) [] [] A.f_check_items A.fd_check_items
  b_check_items : Binds K A.fd_check_items sP_check_items []
  m_check_items : mg "check_items" = some (.ref A.f_check_items)
  F_excess_of : FunD K "excess_of" "excess_of" (defArgs s_excess_of) (defBody s_excess_of) (defScope s_excess_of) [] [] A.f_excess_of A.fd_excess_of
  b_excess_of : Binds K A.fd_excess_of sP_excess_of []
  m_excess_of : mg "excess_of" = some (.ref A.f_excess_of)
  F_kind_of : FunD K "kind_of" "kind_of" (defArgs s_kind_of) (defBody s_kind_of) (defScope s_kind_of) [] [] A.f_kind_of A.fd_kind_of
  b_kind_of : Binds K A.fd_kind_of sP_kind_of []
  m_kind_of : mg "kind_of" = some (.ref A.f_kind_of)
  F_is_good : FunD K "is_good" "is_good" (defArgs s_is_good) (defBody s_is_good) (defScope s_is_good) [] [] A.f_is_good A.fd_is_good
  b_is_good : Binds K A.fd_is_good sP_is_good []
  m_is_good : mg "is_good" = some (.ref A.f_is_good)
  F__law_bag : FunD K "_law_bag" "_law_bag" (defArgs s__law_bag) (defBody s__law_bag) (defScope s__law_bag) [] [] A.f__law_bag A.fd__law_bag
  b__law_bag : Binds K A.fd__law_bag sP__law_bag []
  m__law_bag : mg "_law_bag" = some (.ref A.f__law_bag)
  F__law_take : FunD K "_law_take" "_law_take" (defArgs s__law_take) (defBody s__law_take) (defScope s__law_take) [] [] A.f__law_take A.fd__law_take
  b__law_take : Binds K A.fd__law_take sP__law_take []
  m__law_take : mg "_law_take" = some (.ref A.f__law_take)
  F__law_one : FunD K "_law_one" "_law_one" (defArgs s__law_one) (defBody s__law_one) (defScope s__law_one) [] [] A.f__law_one A.fd__law_one
  b__law_one : Binds K A.fd__law_one sP__law_one []
  m__law_one : mg "_law_one" = some (.ref A.f__law_one)
  F__law_lengths : FunD K "_law_lengths" "_law_lengths" (defArgs s__law_lengths) (defBody s__law_lengths) (defScope s__law_lengths) [] [] A.f__law_lengths A.fd__law_lengths
  b__law_lengths : Binds K A.fd__law_lengths sP__law_lengths []
  m__law_lengths : mg "_law_lengths" = some (.ref A.f__law_lengths)
  F__law_excess : FunD K "_law_excess" "_law_excess" (defArgs s__law_excess) (defBody s__law_excess) (defScope s__law_excess) [] [] A.f__law_excess A.fd__law_excess
  b__law_excess : Binds K A.fd__law_excess sP__law_excess []
  m__law_excess : mg "_law_excess" = some (.ref A.f__law_excess)
  F__law_right : FunD K "_law_right" "_law_right" (defArgs s__law_right) (defBody s__law_right) (defScope s__law_right) [] [] A.f__law_right A.fd__law_right
  b__law_right : Binds K A.fd__law_right sP__law_right []
  m__law_right : mg "_law_right" = some (.ref A.f__law_right)
  F_law : FunD K "law" "law" (defArgs s_law) (defBody s_law) (defScope s_law) [] [] A.f_law A.fd_law
  b_law : Binds K A.fd_law sP_law []
  m_law : mg "law" = some (.ref A.f_law)
  kb_is_good_0_lengths : ∃ g, KBn K A.fd_is_good sP_is_good 0 ["lengths"] g (fun us ws => [ws.getD 0 .non])
  kb_kind_of_0_lengths : ∃ g, KBn K A.fd_kind_of sP_kind_of 0 ["lengths"] g (fun us ws => [ws.getD 0 .non])
  m_MOST_SYMBOLS : mg "MOST_SYMBOLS" = some (.int 288 A.t_MOST_SYMBOLS)
  m_WHOLE : mg "WHOLE" = some (.int 32768 A.t_WHOLE)
  m_LONGEST : mg "LONGEST" = some (.int 15 A.t_LONGEST)
  z_isinstance : mg "isinstance" = none
  z_int : mg "int" = none
  z_bool : mg "bool" = none
  z_enumerate : mg "enumerate" = none
  z_len : mg "len" = none
  z_list : mg "list" = none
  z_tuple : mg "tuple" = none
  z_sum : mg "sum" = none
  z_abs : mg "abs" = none
  z_range : mg "range" = none
  z_repr : mg "repr" = none
  z_max : mg "max" = none
  z_min : mg "min" = none
section
variable {P : Program} {w : World} {K : PySem.W.Frag} {mg : Str → Option Value} {base : Heap} {A : Adr}
/-! ### draws -/
def BagI : HO → Prop := fun o => ∃ x y z : Int, o = .lst [.int x, .int y, .int z] ∧ 0 ≤ x ∧ 0 ≤ y ∧ y ≤ 2147483600
def sp_take : Sp := fun vs H Q _ => ∃ G W b m, Wd G W H ∧ (b, BagI) ∈ W ∧ vs = [.ref b, .int m] ∧ 0 < m ∧ m < 1073741824 ∧ ∀ r H', 0 ≤ r → r < m → Wd G W H' → Q (.int r) H'
theorem ok__law_take (T : Txt K mg A) : FnOk P w K mg base CX0 1 A.f__law_take A.fd__law_take sP__law_take sp_take := by
  refine okD T.F__law_take sc__law_take (fun vs H Q E h => ?_) (fun cdv Ar outer s H vs Q E hr h => ⟨_, (pss_cons (ps_if (pt_cmpR op_gt (pe_ix ix_list (pv 0) (pe_int) (fun _ _ => rfl)) (pe_int) (nomark _)) (pss_cons (ps_set (i := 2) sc__law_take.nd rfl (Or.inl rfl) (pe_op op_mod (pe_ix ix_list (pv 0) (pe_int) (fun _ _ => rfl)) (pv 1)))
      (pss_cons (ps_asg (pe_op op_fdiv (pe_ix ix_list (pv 0) (pe_int) (fun _ _ => rfl)) (pv 1)) (pg_sub (pv 0) (pe_int) set_list))
      (pss_one (ps_ret (pv 2))))) pss_nil)
      (pss_cons (ps_asg (pe_op op_add (pe_ix ix_list (pv 0) (pe_int) (fun _ _ => rfl)) (pe_int)) (pg_sub (pv 0) (pe_int) set_list))
      (pss_cons (ps_asg (pe_op op_add (pe_op op_mod (pe_op op_add (pe_op op_mul (pe_ix ix_list (pv 0) (pe_int) (fun _ _ => rfl)) (pe_int)) (pe_op op_mul (pe_int) (pe_ix ix_list (pv 0) (pe_int) (fun _ _ => rfl)))) (pe_int)) (pe_int)) (pg_sub (pv 0) (pe_int) set_list))
      (pss_one (ps_ret (pe_op op_mod (pe_op op_fdiv (pe_op op_mod (pe_op op_mul (pe_ix ix_list (pv 0) (pe_int) (fun _ _ => rfl)) (pe_op op_add (pe_op op_fdiv (pe_ix ix_list (pv 0) (pe_int) (fun _ _ => rfl)) (pe_int)) (pe_int))) (pe_int)) (pe_int)) (pv 1))))))), ?_⟩)
  · obtain ⟨G, W, b, m, _, _, rfl, _⟩ := h
    rfl
  · obtain ⟨G, W, b, m, w, hm, rfl, h0, h1, k⟩ := h
    obtain ⟨o, hb, x, y, z, rfl, hx, hy, hy2⟩ := w.get hm
    walk_at "zz"
    refine st_ixL (SqL.of hb) rfl ?_
    walk_at "zz"
    by_cases hx0 : 0 < x
    · rw [decide_eq_true hx0]
      refine iteT ?_
      walk_at "zz"
      refine st_ixL (SqL.of hb) rfl ?_
      walk_at "zz"
      refine st_ixL (SqL.of hb) rfl ?_
      walk_at "zz"
      refine st_setL hb rfl ?_
      walk_at "zz"
      refine k _ _ (Int.emod_nonneg _ (by omega)) (Int.emod_lt_of_pos _ h0) (w.put' hm ⟨_, _, _, rfl, Int.ediv_nonneg hx (by omega), hy, hy2⟩)
    · rw [decide_eq_false hx0]
      refine iteF ?_
      walk_at "zz"
      refine st_ixL (SqL.of hb) rfl ?_
      walk_at "zz"
      refine st_setL hb rfl ?_
      walk_at "zz"
      refine st_ixL (SqL.of upd_same) rfl ?_
      walk_at "zz"
      refine st_ixL (SqL.of upd_same) rfl ?_
      walk_at "zz"
      refine st_setL upd_same rfl ?_
      walk_at "zz"
      refine st_ixL (SqL.of upd_same) rfl ?_
      walk_at "zz"
      refine st_ixL (SqL.of upd_same) rfl ?_
      walk_at "zz"
      refine k _ _ (Int.emod_nonneg _ (by omega)) (Int.emod_lt_of_pos _ h0) ((w.put' hm ⟨_, _, _, rfl, hx, hy, hy2⟩).put' hm ⟨_, _, _, rfl, hx, ?_, ?_⟩) <;> omega
def sp_bag (K : PySem.W.Frag) : Sp := fun vs H Q _ => ∃ (G : Hp) (W : Wl) (a : Addr) (ns : List Int) (i : Int), Wd G W H ∧ vs = [.ref a, .int i] ∧ SqL K G a (ns.map V.int) ∧ 0 ≤ i ∧ i < 1000000 ∧ ∀ p H', Wd G ((p, BagI) :: W) H' → Q (.ref p) H'
theorem ok__law_bag (T : Txt K mg A) : FnOk P w K mg base CX0 1 A.f__law_bag A.fd__law_bag sP__law_bag (sp_bag K) := by
  refine okD T.F__law_bag sc__law_bag (fun vs H Q E h => ?_) (fun cdv Ar outer s H vs Q E hr h => ⟨_, (pss_cons (ps_set (i := 2) sc__law_bag.nd rfl (Or.inl rfl) (pe_int))
      (pss_cons (ps_if (pt_cmpR op_lt (pv 1) (pe_callB call_len_seq (by rfl) T.z_len PySem.boot_len (pa_cons (pv 0) pa_nil)) (nomark _)) (pss_one (ps_set (i := 2) sc__law_bag.nd rfl (Or.inl rfl) (pe_ix ix_list (pv 0) (pv 1) (fun _ _ => rfl)))) pss_nil)
      (pss_cons (ps_set (i := 3) sc__law_bag.nd rfl (Or.inl rfl) (pe_op op_mul (pe_callB call_abs (by rfl) T.z_abs (by decide +kernel) (pa_cons (pv 2) pa_nil)) (pe_callTy call_int1 (by rfl) T.z_int (by decide +kernel) (pa_cons (pe_cmpR op_ge (pe_callB call_abs (by rfl) T.z_abs (by decide +kernel) (pa_cons (pv 2) pa_nil)) (pe_op op_powW (pe_int) (pe_int)) (nomark _)) pa_nil))))
      (pss_one (ps_ret (pe_lst (pa_cons (pv 3) (pa_cons (pe_op op_add (pe_op op_mod (pe_op op_add (pe_op op_add (pe_op op_mul (pe_op op_mod (pv 2) (pe_int)) (pe_int)) (pe_op op_mul (pe_int) (pv 1))) (pe_int)) (pe_int)) (pe_int)) (pa_cons (pe_int) pa_nil))))))))), ?_⟩)
  · obtain ⟨G, W, a, ns, i, _, rfl, _⟩ := h
    rfl
  · obtain ⟨G, W, a, ns, i, w, rfl, ha, h0, h1, k⟩ := h
    walk_at "zz"
    refine ⟨_, _, rfl, .inl (by walk_at "up"), ?_⟩
    walk_at "zz"
    by_cases hi : i < ((ns.map V.int).length : Int)
    case' pos =>
      rw [decide_eq_true hi]
      refine iteT ?_
      walk_at "zz"
      obtain ⟨n, hn⟩ : ∃ n, ns[i.toNat]? = some n := ⟨_, List.getElem?_eq_getElem (by rw [List.length_map] at hi; omega)⟩
      refine st_ixL (v := .int n) (by walk_at "up") (by rw [show i = (i.toNat : Int) by omega]; exact atI_nat (by rw [List.getElem?_map, hn]; rfl)) ?_
    case' neg =>
      rw [decide_eq_false hi]
      refine iteF ?_
    all_goals
      walk_at "zz"
      refine ⟨_, rfl, ?_⟩
      walk_at "zz"
      refine ⟨_, rfl, ?_⟩
      walk_at "zz"
      refine .inr ⟨_, rfl, ?_⟩
      refine st_i (.inr (by split <;> omega)) ?_
      walk_at "zz"
      refine ⟨small (by simp), fun p hp => k p _ (w.newM hp ⟨_, _, _, rfl, ?_, ?_, ?_⟩)⟩
      · refine Int.mul_nonneg ?_ ?_
        · split <;> omega
        · split <;> omega
      all_goals omega

/-! ### drawn lists of lengths -/
def sp_one (K : PySem.W.Frag) : Sp := fun vs H Q _ => ∃ (G : Hp) (W : Wl) (b a : Addr) (xs : List V), Wd G W H ∧ (b, BagI) ∈ W ∧ vs = [.ref b, .ref a] ∧ SqL K G a xs ∧ 0 < xs.length ∧ xs.length < 1000 ∧ ∀ v H', v ∈ xs → Wd G W H' → Q v H'
theorem ok__law_one (T : Txt K mg A) : FnOk P w K mg base CX0 2 A.f__law_one A.fd__law_one sP__law_one (sp_one K) := by
  refine okD T.F__law_one sc__law_one (fun vs H Q E h => ?_) (fun cdv Ar outer s H vs Q E hr h => ⟨_, (pss_one (ps_ret (pe_ix ix_list (pv 1) (pe_call (ok__law_take T) (hr.mono (by decide)) rfl T.m__law_take T.F__law_take.kp T.b__law_take .nil pass0 (pa_cons (pv 0) (pa_cons (pe_callB call_len_seq (by rfl) T.z_len PySem.boot_len (pa_cons (pv 1) pa_nil)) pa_nil))) (fun _ _ => rfl)))), ?_⟩)
  · obtain ⟨G, W, b, a, xs, _, _, rfl, _⟩ := h
    rfl
  · obtain ⟨G, W, b, a, xs, w, hm, rfl, ha, h0, h1, k⟩ := h
    walk_at "zz"
    refine ⟨_, _, rfl, .inl (by walk_at "up"), ?_⟩
    walk_at "zz"
    refine ⟨G, W, b, _, w, hm, rfl, by omega, by omega, fun r H1 hr0 hr1 w1 => ?_⟩
    obtain ⟨v, hv⟩ : ∃ v, xs[r.toNat]? = some v := ⟨_, List.getElem?_eq_getElem (by omega)⟩
    refine st_ixL (v := v) (by walk_at "up") (by rw [show r = (r.toNat : Int) by omega]; exact atI_nat hv) ?_
    exact k v H1 (List.mem_of_getElem? hv) w1
def Lens (ns : List Int) : Prop := ∀ n ∈ ns, 0 ≤ n ∧ n ≤ 15
theorem Lens.set {ns : List Int} (h : Lens ns) (i : Nat) {m : Int} (hm : 0 ≤ m ∧ m ≤ 15) : Lens (ns.set i m) := fun n hn => by
  rcases List.mem_or_eq_of_mem_set hn with z | rfl
  · exact h n z
  · exact hm
theorem Lens.ins {ns : List Int} (h : Lens ns) (i : Nat) {m : Int} (hm : 0 ≤ m ∧ m ≤ 15) : Lens (ns.take i ++ [m] ++ ns.drop i) := fun n hn => by
  rcases List.mem_append.mp hn with z | z
  · rcases List.mem_append.mp z with z | z
    · exact h n (List.mem_of_mem_take z)
    · rw [List.mem_singleton.mp z]
      exact hm
  · exact h n (List.mem_of_mem_drop z)
theorem ins_len (ns : List Int) (i : Nat) (m : Int) : (ns.take i ++ [m] ++ ns.drop i).length = ns.length + 1 := by
  simp
  omega
theorem Lens.app {ns : List Int} (h : Lens ns) {m : Int} (hm : 0 ≤ m ∧ m ≤ 15) : Lens (ns ++ [m]) := fun n hn => by
  rcases List.mem_append.mp hn with z | z
  · exact h n z
  · rw [List.mem_singleton.mp z]
    exact hm
def sp_lengths (K : PySem.W.Frag) : Sp := fun vs H Q _ => ∃ (G : Hp) (W : Wl) (b : Addr) (m : Int), Wd G W H ∧ (b, BagI) ∈ W ∧ vs = [.ref b, .int m] ∧ 0 < m ∧ m < 1000 ∧
  ∀ p ns G' H', Same G G' → Wd G' W H' → G' p = some (.lst (ns.map V.int)) → Lens ns → (ns.length : Int) ≤ m + 10 → Q (.ref p) H'
theorem ok__law_lengths (T : Txt K mg A) : FnOk P w K mg base CX0 2 A.f__law_lengths A.fd__law_lengths sP__law_lengths (sp_lengths K) := by
  refine okD T.F__law_lengths sc__law_lengths (fun vs H Q E h => ?_) (fun cdv Ar outer s H vs Q E hr h => ⟨_, (pss_cons (ps_if (pt_cmpR op_eq (pe_call (ok__law_take T) (hr.mono (by decide)) rfl T.m__law_take T.F__law_take.kp T.b__law_take .nil pass0 (pa_cons (pv 0) (pa_cons (pe_int) pa_nil))) (pe_int) (nomark _)) (pss_one (ps_ret (pe_lc (own := [("_law_turn", 2)]) (g := gName 2) (tt := tYes) rfl sc__law_lengths.nd (pi_range1 (by rfl) T.z_range (pa_cons (pe_call (ok__law_take T) (hr.mono (by decide)) rfl T.m__law_take T.F__law_take.kp T.b__law_take .nil pass0 (pa_cons (pv 0) (pa_cons (pv 1) pa_nil))) pa_nil)) (blkOk_by (own := [("_law_turn", 2)]) (N := sN__law_lengths) (sc := defScope s__law_lengths) (by decide +kernel)) (fun _ _ _ _ _ => pg_name (i := 2) sc__law_lengths.nd rfl (Or.inl rfl)) (fun _ _ _ _ _ => pts_nil) (fun _ _ _ _ _ => (pe_call (ok__law_take T) (hr.mono (by decide)) rfl T.m__law_take T.F__law_take.kp T.b__law_take .nil pass0 (pa_cons (pv 0) (pa_cons (pe_int) pa_nil))))))) pss_nil)
      (pss_cons (ps_set (i := 3) sc__law_lengths.nd rfl (Or.inl rfl) (pe_lst (pa_cons (pe_int) pa_nil)))
      (pss_cons (ps_for PassesOwn.never rfl (pi_range1 (by rfl) T.z_range (pa_cons (pe_call (ok__law_take T) (hr.mono (by decide)) rfl T.m__law_take T.F__law_take.kp T.b__law_take .nil pass0 (pa_cons (pv 0) (pa_cons (pv 1) pa_nil))) pa_nil)) (pg_name (i := 2) sc__law_lengths.nd rfl (Or.inl rfl)) (pss_cons (ps_set (i := 4) sc__law_lengths.nd rfl (Or.inl rfl) (pe_call (ok__law_take T) (hr.mono (by decide)) rfl T.m__law_take T.F__law_take.kp T.b__law_take .nil pass0 (pa_cons (pv 0) (pa_cons (pe_callB call_len_seq (by rfl) T.z_len PySem.boot_len (pa_cons (pv 3) pa_nil)) pa_nil))))
      (pss_one (ps_if (pt_cmpR op_lt (pe_ix ix_list (pv 3) (pv 4) (fun _ _ => rfl)) (pe_int) (nomark _)) (pss_cons (ps_asg (pe_op op_add (pe_ix ix_list (pv 3) (pv 4) (fun _ _ => rfl)) (pe_int)) (pg_sub (pv 3) (pv 4) set_list))
      (pss_one (ps_expr (pe_bm PySem.F.plainAttrs_list PySem.F.slot_list_insert PySem.F.type_list_insert mt_insert (pv 3) (pa_cons (pe_call (ok__law_take T) (hr.mono (by decide)) rfl T.m__law_take T.F__law_take.kp T.b__law_take .nil pass0 (pa_cons (pv 0) (pa_cons (pe_op op_add (pe_callB call_len_seq (by rfl) T.z_len PySem.boot_len (pa_cons (pv 3) pa_nil)) (pe_int)) pa_nil))) (pa_cons (pe_ix ix_list (pv 3) (pv 4) (fun _ _ => rfl)) pa_nil)))))) pss_nil))))
      (C8.pss_cut (ps_if (pt_cmpR (op_eqD hr.units) (pv 3) (pe_lst (pa_cons (pe_int) pa_nil)) (nomark _)) (pss_one (ps_set (i := 3) sc__law_lengths.nd rfl (Or.inl rfl) (pe_lst (pa_cons (pe_int) pa_nil)))) pss_nil)
      (pss_cons (ps_for PassesOwn.never rfl (pi_range1 (by rfl) T.z_range (pa_cons (pe_call (ok__law_take T) (hr.mono (by decide)) rfl T.m__law_take T.F__law_take.kp T.b__law_take .nil pass0 (pa_cons (pv 0) (pa_cons (pe_int) pa_nil))) pa_nil)) (pg_name (i := 2) sc__law_lengths.nd rfl (Or.inl rfl)) (pss_one (ps_expr (pe_bm PySem.F.plainAttrs_list PySem.F.slot_list_insert PySem.F.type_list_insert mt_insert (pv 3) (pa_cons (pe_call (ok__law_take T) (hr.mono (by decide)) rfl T.m__law_take T.F__law_take.kp T.b__law_take .nil pass0 (pa_cons (pv 0) (pa_cons (pe_op op_add (pe_callB call_len_seq (by rfl) T.z_len PySem.boot_len (pa_cons (pv 3) pa_nil)) (pe_int)) pa_nil))) (pa_cons (pe_int) pa_nil))))))
      (pss_cons (ps_if (pt_cmpR op_eq (pe_call (ok__law_take T) (hr.mono (by decide)) rfl T.m__law_take T.F__law_take.kp T.b__law_take .nil pass0 (pa_cons (pv 0) (pa_cons (pe_int) pa_nil))) (pe_int) (nomark _)) (pss_cons (ps_set (i := 4) sc__law_lengths.nd rfl (Or.inl rfl) (pe_call (ok__law_take T) (hr.mono (by decide)) rfl T.m__law_take T.F__law_take.kp T.b__law_take .nil pass0 (pa_cons (pv 0) (pa_cons (pe_callB call_len_seq (by rfl) T.z_len PySem.boot_len (pa_cons (pv 3) pa_nil)) pa_nil))))
      (pss_one (ps_asg (pe_call (ok__law_take T) (hr.mono (by decide)) rfl T.m__law_take T.F__law_take.kp T.b__law_take .nil pass0 (pa_cons (pv 0) (pa_cons (pe_int) pa_nil))) (pg_sub (pv 3) (pv 4) set_list)))) pss_nil)
      (pss_one (ps_ret (pv 3))))))))), ?_⟩)
  · obtain ⟨G, W, b, m, _, _, rfl, _⟩ := h
    rfl
  · obtain ⟨G, W, b, m, w, hm, rfl, h0, h1, k⟩ := h
    walk_at "zz"
    refine ⟨G, W, b, _, w, hm, rfl, by omega, by omega, fun r H1 hr0 hr1 w1 => ?_⟩
    walk_at "zz"
    refine ite2 (fun _ => ?_) (fun _ => ?_)
    · walk_at "zz"
      refine ⟨G, W, b, _, w1, hm, rfl, by omega, by omega, fun r2 H2 hr2 hr3 w2 => ?_⟩
      walk_at "zz"
      refine lc_r1 (by omega) (fun i acc G' => ∃ ns : List Int, acc = ns.map V.int ∧ Lens ns ∧ ns.length = i) w2 ⟨[], rfl, (fun _ h => by simp at h), rfl⟩ (fun _ => rfl) ?_ ?_
      · rintro i D G' H' acc hi e w' ⟨ns, rfl, hL, hl⟩
        walk_at "zz"
        walk_at "zz"
        refine ⟨G', _, b, _, w', by simp [hm], rfl, by omega, by omega, fun r4 H4 hr4 hr5 w4 => ?_⟩
        refine lc_put w4 (by walk_at "sm") (by rw [List.length_map]; omega) ⟨ns ++ [r4], by simp, hL.app (by omega), by simp [hl]⟩
      · rintro D G' H' acc e w' ⟨ns, rfl, hL, hl⟩
        obtain ⟨o, rfl, ho, e2, w3⟩ := w'.freeze1
        exact k D ns _ H' (by walk_at "sm") w3 upd_same hL (by omega)
    · walk_at "zz"
      refine ⟨by decide, NewO.own w1 fun l H2 w2 => ?_⟩
      walk_at "zz"
      refine ⟨G, _, b, _, w2, by simp [hm], rfl, by omega, by omega, fun r2 H3 hr2 hr3 w3 => ?_⟩
      walk_at "zz"
      refine for_r1 (by omega) (fun i σ G' W' => ∃ ns x2 x4, σ = [some (.ref b), some (.int m), x2, some (.ref l), x4] ∧ W' = (l, Is (.lst (ns.map V.int))) :: W ∧ Lens ns ∧ 0 < ns.length ∧ ns.length ≤ i + 1) w3
        ⟨[0], _, _, rfl, rfl, (fun _ h => by simp at h; omega), by simp, by simp⟩ ?_ ?_
      · rintro i σ' G' W' H' hi e w' ⟨ns, x2, x4, rfl, rfl, hL, hn, hn2⟩
        obtain ⟨o, ho, rfl⟩ := w'.get List.mem_cons_self
        walk_at "zz"
        refine ⟨_, _, rfl, .inl (SqL.of ho), ?_⟩
        walk_at "zz"
        rw [List.length_map]
        refine ⟨G', _, b, _, w', by simp [hm], rfl, by omega, by omega, fun r5 H5 hr5 hr6 w5 => ?_⟩
        obtain ⟨o, ho5, rfl⟩ := w5.get List.mem_cons_self
        obtain ⟨n, hn5, hmem, _⟩ := atI_map (ns := ns) hr5 hr6
        walk_at "zz"
        refine st_ixL (SqL.of ho5) hn5 ?_
        walk_at "zz"
        have hnL := hL n hmem
        by_cases h15 : n < 15
        · rw [decide_eq_true h15]
          refine iteT ?_
          walk_at "zz"
          refine st_ixL (SqL.of ho5) hn5 ?_
          walk_at "zz"
          refine st_setL ho5 (ixN_of hr5 (by rw [List.length_map]; exact hr6)) ?_
          rw [map_set']
          have w6 := Wd.put1 (o := .lst ((ns.set r5.toNat (n + 1)).map V.int)) w5
          walk_at "zz"
          refine ⟨tyL' upd_same, ?_⟩
          walk_at "zz"
          refine ⟨_, _, rfl, .inl (SqL.of upd_same), ?_⟩
          walk_at "zz"
          rw [List.length_map, List.length_set]
          refine ⟨G', _, b, _, w6, by simp [hm], rfl, by omega, by omega, fun r7 H7 hr7 hr8 w7 => ?_⟩
          obtain ⟨o, ho7, rfl⟩ := w7.get List.mem_cons_self
          obtain ⟨n2, hn7, hmem2, _⟩ := atI_map (ns := ns.set r5.toNat (n + 1)) hr5 (by rw [List.length_set]; exact hr6)
          walk_at "zz"
          refine st_ixL (SqL.of ho7) hn7 ?_
          walk_at "zz"
          refine ⟨l, _, _, _, rfl, rfl, ho7, small' (by rw [List.length_map, List.length_set]; omega), hr7, by omega, ?_⟩
          rw [map_ins]
          have hL2 := hL.set r5.toNat (m := n + 1) (by omega)
          exact st_btw (by walk_at "sm") w7.put1 ⟨_, _, _, rfl, rfl, hL2.ins r7.toNat (hL2 n2 hmem2), by rw [ins_len]; omega, by rw [ins_len, List.length_set]; omega⟩
        · rw [decide_eq_false h15]
          refine iteF ?_
          walk_at "zz"
          exact st_btw (by walk_at "sm") w5 ⟨ns, _, _, rfl, rfl, hL, hn, by omega⟩
      · rintro σ' G' W' H' e w' ⟨ns, x2, x4, rfl, rfl, hL, hn, hn2⟩
        refine st_cut (fun σ H => ∃ G2 l ns x2 x4, Same G G2 ∧ Wd G2 ((l, Is (.lst (ns.map V.int))) :: W) H ∧ σ = [some (.ref b), some (.int m), x2, some (.ref l), x4] ∧ Lens ns ∧ 0 < ns.length ∧ (ns.length : Int) ≤ m) ?_ ?_
        · obtain ⟨o, ho, rfl⟩ := w'.get List.mem_cons_self
          walk_at "zz"
          refine ⟨by decide, NewO.good w' fun p G5 H5 e5 w5 hp => ?_⟩
          obtain ⟨o, ho5, rfl⟩ := w5.get List.mem_cons_self
          refine st_eqI (ys := [0]) (SqL.of ho5) (by exact SqL.of (w5.at hp)) ?_
          walk_at "zz"
          refine ite2 (fun _ => ?_) (fun _ => ?_)
          · walk_at "zz"
            refine ⟨by decide, NewO.own w5 fun l2 H6 w6 => ?_⟩
            walk_at "zz"
            exact ⟨G5, l2, [1], _, _, by walk_at "sm", Wd.drop (W1 := [_]) w6, rfl, (fun _ h => by simp at h; omega), by simp, by simp; omega⟩
          · walk_at "zz"
            exact ⟨G5, l, ns, _, _, by walk_at "sm", w5, rfl, hL, hn, by omega⟩
        · clear w' hL hn hn2 ns
          rintro σ' H4 ⟨G4, l4, ns, y2, y4, e4, w4, rfl, hL, hn, hn2⟩
          walk_at "zz"
          refine ⟨G4, _, b, _, w4, by simp [hm], rfl, by omega, by omega, fun r5 H5 hr5 hr6 w5 => ?_⟩
          walk_at "zz"
          refine for_r1 (by omega) (fun i σ G' W' => ∃ ns x2 x4, σ = [some (.ref b), some (.int m), x2, some (.ref l4), x4] ∧ W' = (l4, Is (.lst (ns.map V.int))) :: W ∧ Lens ns ∧ 0 < ns.length ∧ (ns.length : Int) ≤ m + i) w5
            ⟨ns, _, _, rfl, rfl, hL, by omega, by omega⟩ ?_ ?_
          · clear w4 w5 hL hn hn2 ns
            rintro i σ' G' W' H' hi e w' ⟨ns, x2, x4, rfl, rfl, hL, hn, hn2⟩
            obtain ⟨o, ho, rfl⟩ := w'.get List.mem_cons_self
            walk_at "zz"
            refine ⟨tyL' ho, ?_⟩
            walk_at "zz"
            refine ⟨_, _, rfl, .inl (SqL.of ho), ?_⟩
            walk_at "zz"
            rw [List.length_map]
            refine ⟨G', _, b, _, w', by simp [hm], rfl, by omega, by omega, fun r7 H7 hr7 hr8 w7 => ?_⟩
            obtain ⟨o, ho7, rfl⟩ := w7.get List.mem_cons_self
            walk_at "zz"
            refine ⟨l4, _, _, _, rfl, rfl, ho7, small' (by rw [List.length_map]; omega), hr7, by omega, ?_⟩
            rw [map_ins]
            exact st_btw (by walk_at "sm") w7.put1 ⟨_, _, _, rfl, rfl, hL.ins r7.toNat (m := 0) (by omega), by rw [ins_len]; omega, by rw [ins_len]; omega⟩
          · clear w4 w5 hL hn hn2 ns
            rintro σ' G' W' H' e5 w' ⟨ns, x2, x4, rfl, rfl, hL, hn, hn2⟩
            walk_at "zz"
            refine ⟨G', _, b, _, w', by simp [hm], rfl, by omega, by omega, fun r7 H7 hr7 hr8 w7 => ?_⟩
            walk_at "zz"
            refine ite2 (fun _ => ?_) (fun _ => ?_)
            · obtain ⟨o, ho7, rfl⟩ := w7.get List.mem_cons_self
              walk_at "zz"
              refine ⟨_, _, rfl, .inl (SqL.of ho7), ?_⟩
              walk_at "zz"
              rw [List.length_map]
              refine ⟨G', _, b, _, w7, by simp [hm], rfl, by omega, by omega, fun r9 H9 hr9 hr10 w9 => ?_⟩
              walk_at "zz"
              refine ⟨G', _, b, _, w9, by simp [hm], rfl, by omega, by omega, fun r11 H11 hr11 hr12 w11 => ?_⟩
              obtain ⟨o, ho11, rfl⟩ := w11.get List.mem_cons_self
              walk_at "zz"
              refine st_setL ho11 (ixN_of hr9 (by rw [List.length_map]; exact hr10)) ?_
              rw [map_set']
              have w12 := Wd.put1 (o := .lst ((ns.set r9.toNat r11).map V.int)) w11
              obtain ⟨o, rfl, ho, e2, w3⟩ := w12.freeze1
              walk_at "zz"
              exact k l4 _ _ _ (by walk_at "sm") w3 upd_same (hL.set _ (by omega)) (by rw [List.length_set]; omega)
            · obtain ⟨o, rfl, ho, e2, w3⟩ := w7.freeze1
              walk_at "zz"
              exact k l4 _ _ _ (by walk_at "sm") w3 upd_same hL (by omega)

/-! ### integers, bytes -/
def sp_is_integer (K : PySem.W.Frag) : Sp := fun vs H Q _ => ∃ x, vs = [x] ∧ Knd K H x ∧ Q (.bl (isInt x)) H
theorem ok_is_integer (T : Txt K mg A) : FnOk P w K mg base CX0 1 A.f_is_integer A.fd_is_integer sP_is_integer (sp_is_integer K) := by
  refine okD T.F_is_integer sc_is_integer (fun vs H Q E h => ?_) (fun cdv Ar outer s H vs Q E hr h => ⟨_, (pss_one (ps_ret ((pe_and (pe_callB call_isi (by rfl) T.z_isinstance (by decide +kernel) (pa_cons (pv 0) (pa_cons (pe_bltn (v := .ty "int") (u := .type "int") (by rfl) T.z_int (by decide +kernel) rfl) pa_nil))) (pe_one (pe_not (pe_callB call_isi (by rfl) T.z_isinstance (by decide +kernel) (pa_cons (pv 0) (pa_cons (pe_bltn (v := .ty "bool") (u := .type "bool") (by rfl) T.z_bool (by decide +kernel) rfl) pa_nil))))))))), ?_⟩)
  · obtain ⟨x, rfl, _⟩ := h
    rfl
  · obtain ⟨x, rfl, hk, k⟩ := h
    obtain ⟨n, b1, b2, ty, e1, e2, e⟩ := hk.ty
    rw [e] at k
    repeat walk_at "z"
    refine ⟨_, _, _, _, b1, rfl, .ty _, ty, kit_ty e1, _, rfl, ?_⟩
    cases b1 with
    | false => exact k
    | true =>
      refine iteT ?_
      repeat walk_at "z"
      exact ⟨_, _, _, _, b2, rfl, .ty _, ty, kit_ty e2, _, rfl, k⟩

/-! ### lists of lengths -/
def Lens15 (ns : List Int) : Prop := Lens ns ∧ ns.length ≤ 288
instance : DecidablePred Lens15 := fun ns => by unfold Lens15 Lens; infer_instance
def sp_check_items (K : PySem.W.Frag) : Sp := fun vs H Q _ => ∃ (G : Hp) (W : Wl) (a : Addr) (ns : List Int), Wd G W H ∧ vs = [.ref a, .int 0, .int 15] ∧ (SqL K G a (ns.map V.int) ∨ SqT K G a (ns.map V.int)) ∧ Lens15 ns ∧
  ∀ G' H', Same G G' → Wd G' W H' → Q .non H'
theorem ok_check_items (T : Txt K mg A) : FnOk P w K mg base CX0 2 A.f_check_items A.fd_check_items sP_check_items (sp_check_items K) := by
  refine okD T.F_check_items sc_check_items (fun vs H Q E h => ?_) (fun cdv Ar outer s H vs Q E hr h => ⟨_, (pss_cons (ps_if (PW.pt (pw_or (pt_not (pt_val (pe_callB call_isiT (by rfl) T.z_isinstance (by decide +kernel) (pa_cons (pv 0) (pa_cons (pe_tup (pa_cons (pe_bltn (v := .ty "list") (u := .type "list") (by rfl) T.z_list (by decide +kernel) rfl) (pa_cons (pe_bltn (v := .ty "tuple") (u := .type "tuple") (by rfl) T.z_tuple (by decide +kernel) rfl) pa_nil))) pa_nil))))) (pw_or1 (pt_cmpR op_gt (pe_callB call_len_seq (by rfl) T.z_len PySem.boot_len (pa_cons (pv 0) pa_nil)) (pe_glob (v := .int 288) rfl T.m_MOST_SYMBOLS ⟨_, rfl⟩) (nomark _))))) (pss_one (ps_never)) pss_nil)
      (pss_one (ps_for PassesOwn.never rfl (pi_enumA (by rfl) T.z_enumerate (pa_cons (pv 0) pa_nil)) (pg_tup rfl (pgs_cons (pg_name (i := 3) sc_check_items.nd rfl (Or.inl rfl)) (pgs_cons (pg_name (i := 4) sc_check_items.nd rfl (Or.inl rfl)) pgs_nil))) (pss_one (ps_if (PW.pt (pw_or (pt_not (pt_val (pe_call (ok_is_integer T) (hr.mono (by decide)) rfl T.m_is_integer T.F_is_integer.kp T.b_is_integer .nil pass0 (pa_cons (pv 4) pa_nil)))) (pw_or (pt_cmpR op_lt (pv 4) (pv 1) (nomark _)) (pw_or1 (PW.pt (pw_and (pt_cmpR op_notN (pv 2) (pe_non) (nomark _)) (pw_and1 (pt_cmpR op_gt (pv 4) (pv 2) (nomark _))))))))) (pss_one (ps_never)) pss_nil))))), ?_⟩)
  · obtain ⟨G, W, a, ns, _, rfl, _⟩ := h
    rfl
  · obtain ⟨G, W, a, ns, w, rfl, ha, hL, k⟩ := h
    walk_at "zz"
    refine ⟨by decide, NewO.good w fun p G1 H1 e1 w1 hp => ?_⟩
    have ha1 : SqL K G1 a (ns.map V.int) ∨ SqT K G1 a (ns.map V.int) := ha.imp e1.seq (seqT e1)
    have ha2 : SqL K H1 a (ns.map V.int) ∨ SqT K H1 a (ns.map V.int) := ha1.imp (seq_up w1) (tup_up w1)
    walk_at "zz"
    refine isiSeq (w1.at hp) ha2 ⟨_, rfl, ?_⟩
    refine iteF ?_
    walk_at "zz"
    refine ⟨_, _, rfl, ha2, ?_⟩
    walk_at "zz"
    have hl : ¬ (288 < ((ns.map V.int).length : Int)) := by
      have := hL.2
      rw [List.length_map]
      omega
    rw [decide_eq_false hl]
    refine iteF ?_
    walk_at "zz"
    refine for_enumA (i1 := 3) (i2 := 4) ha1 (fun i σ G' W' => W' = W ∧ ∃ x y, σ = [some (.ref a), some (.int 0), some (.int 15), x, y]) w1 ⟨rfl, _, _, rfl⟩ ?_ ?_
    · rintro i x σ' G2 G3 W' H3 hx e2 ⟨rfl, x1, x2, rfl⟩ e3 w3
      obtain ⟨n, _, rfl, hn⟩ := getI hx
      have hn2 := hL.1 n hn
      walk_at "zz"
      refine ⟨_, rfl, .int n, _, rfl, ?_⟩
      refine iteF ?_
      walk_at "zz"
      rw [decide_eq_false (show ¬ n < 0 by omega)]
      refine iteF ?_
      walk_at "zz"
      refine ⟨rfl, _, rfl, ?_⟩
      refine iteT ?_
      walk_at "zz"
      rw [decide_eq_false (show ¬ 15 < n by omega)]
      refine iteF ?_
      walk_at "zz"
      exact st_btw (by walk_at "sm") w3 ⟨rfl, _, _, rfl⟩
    · rintro σ' G2 W' H3 e2 w2 ⟨rfl, x1, x2, rfl⟩
      exact k G2 H3 (by walk_at "sm") w2
def wt (ns : List Int) : Int := ((ns.filter (0 < ·)).map fun n => (32768 : Int) / 2 ^ n.toNat).sum
def sp_excess_of (K : PySem.W.Frag) : Sp := fun vs H Q _ => ∃ (G : Hp) (W : Wl) (a : Addr) (ns : List Int), Wd G W H ∧ vs = [.ref a] ∧ (SqL K G a (ns.map V.int) ∨ SqT K G a (ns.map V.int)) ∧ Lens15 ns ∧
  ∀ G' H', Same G G' → Wd G' W H' → Q (.int (wt ns - 32768)) H'
theorem ok_excess_of (T : Txt K mg A) : FnOk P w K mg base CX0 1 A.f_excess_of A.fd_excess_of sP_excess_of (sp_excess_of K) := by
  refine okD T.F_excess_of sc_excess_of (fun vs H Q E h => ?_) (fun cdv Ar outer s H vs Q E hr h => ⟨_, (pss_one (ps_ret (pe_op op_sub (pe_callB (cr_sum rfl) (by rfl) T.z_sum (by decide +kernel) (pa_cons (pe_lc (own := [("length", 1)]) (g := gName 1) rfl sc_excess_of.nd (pi_seqA (pv 0)) (blkOk_by (own := [("length", 1)]) (N := sN_excess_of) (sc := defScope s_excess_of) (by decide +kernel)) (fun _ _ _ _ _ => pg_name (i := 1) sc_excess_of.nd rfl (Or.inl rfl)) (fun _ _ _ _ _ => (pts_one (pt_cmpR op_gt (pv 1) (pe_int) (nomark _)))) (fun _ _ _ _ _ => (pe_op op_shr (pe_glob (v := .int 32768) rfl T.m_WHOLE ⟨_, rfl⟩) (pv 1)))) pa_nil)) (pe_glob (v := .int 32768) rfl T.m_WHOLE ⟨_, rfl⟩)))), ?_⟩)
  · obtain ⟨G, W, a, ns, _, rfl, _⟩ := h
    rfl
  · obtain ⟨G, W, a, ns, w, rfl, ha, hL, k⟩ := h
    walk_at "zz"
    refine lc_seq (fun Q q => st_var rfl q) ha (fun i acc G' => acc = (((ns.take i).filter (0 < ·)).map fun n => V.int ((32768 : Int) / 2 ^ n.toNat))) w rfl (fun _ => rfl) ?_ ?_
    · rintro i x D G' H' acc hx e w' rfl
      obtain ⟨n, hi, rfl, hn⟩ := getI hx
      have hn2 := hL.1 n hn
      have et : ns.take (i + 1) = ns.take i ++ [n] := by rw [List.take_add_one, hi]; rfl
      walk_at "zz"
      by_cases hp : 0 < n
      · rw [decide_eq_true hp]
        refine iteT ?_
        walk_at "zz"
        refine lc_put w' (by walk_at "sm") ?_ ?_
        · rw [List.length_map]
          have h1 := List.length_filter_le (0 < ·) (ns.take i)
          have h2 := List.length_take_le' i ns
          have := hL.2
          omega
        · rw [et, List.filter_append, List.map_append]
          simp [hp]
      · rw [decide_eq_false hp]
        refine iteF ?_
        refine lc_skip w' (by walk_at "sm") ?_
        rw [et, List.filter_append, List.map_append]
        simp [hp]
    · rintro D G' H' acc e w' rfl
      obtain ⟨o, rfl, ho, e2, w3⟩ := w'.freeze1
      rw [List.length_map, List.take_length] at ho
      walk_at "zz"
      refine ⟨D, (ns.filter (0 < ·)).map fun n => (32768 : Int) / 2 ^ n.toNat, rfl, by rw [List.map_map]; exact SqL.of ho, ?_⟩
      walk_at "zz"
      exact k _ H' (by walk_at "sm") w3
def kindS (ns : List Int) : Str := if 32768 < wt ns then "over" else if wt ns = 32768 then "full" else "thin"
def sp_kind_of (K : PySem.W.Frag) : Sp := fun vs H Q _ => ∃ (G : Hp) (W : Wl) (a : Addr) (ns : List Int), Wd G W H ∧ vs = [.ref a] ∧ (SqL K G a (ns.map V.int) ∨ SqT K G a (ns.map V.int)) ∧ Lens15 ns ∧
  ∀ G' H', Same G G' → Wd G' W H' → Q (.str (kindS ns)) H'
theorem ok_kind_of (T : Txt K mg A) : FnOk P w K mg base CX0 3 A.f_kind_of A.fd_kind_of sP_kind_of (sp_kind_of K) := by
  refine okD T.F_kind_of sc_kind_of (fun vs H Q E h => ?_) (fun cdv Ar outer s H vs Q E hr h => ⟨_, (pss_cons (ps_expr (pe_call (ok_check_items T) (hr.mono (by decide)) rfl T.m_check_items T.F_check_items.kp T.b_check_items .nil pass0 (pa_cons (pv 0) (pa_cons (pe_int) (pa_cons (pe_glob (v := .int 15) rfl T.m_LONGEST ⟨_, rfl⟩) pa_nil)))))
      (pss_cons (ps_set (i := 1) sc_kind_of.nd rfl (Or.inl rfl) (pe_call (ok_excess_of T) (hr.mono (by decide)) rfl T.m_excess_of T.F_excess_of.kp T.b_excess_of .nil pass0 (pa_cons (pv 0) pa_nil)))
      (pss_cons (ps_if (pt_cmpR op_gt (pv 1) (pe_int) (nomark _)) (pss_one (ps_ret (pe_str))) pss_nil)
      (pss_one (ps_ret (pe_ifExp (pt_cmpR op_eq (pv 1) (pe_int) (nomark _)) (pe_str) (pe_str))))))), ?_⟩)
  · obtain ⟨G, W, a, ns, _, rfl, _⟩ := h
    rfl
  · obtain ⟨G, W, a, ns, w, rfl, ha, hL, k⟩ := h
    walk_at "zz"
    refine ⟨G, W, a, ns, w, rfl, ha, hL, fun G1 H1 e1 w1 => ?_⟩
    walk_at "zz"
    refine ⟨G1, W, a, ns, w1, rfl, ha.imp e1.seq (seqT e1), hL, fun G2 H2 e2 w2 => ?_⟩
    walk_at "zz"
    unfold kindS at k
    by_cases h1 : 32768 < wt ns
    · rw [decide_eq_true (show 0 < wt ns - 32768 by omega)]
      rw [if_pos h1] at k
      refine iteT ?_
      walk_at "zz"
      exact k G2 H2 (by walk_at "sm") w2
    · rw [decide_eq_false (show ¬ 0 < wt ns - 32768 by omega)]
      rw [if_neg h1] at k
      refine iteF ?_
      walk_at "zz"
      walk_at "zi"
      walk_at "zz"
      by_cases h2 : wt ns = 32768
      · rw [decide_eq_true (show V.int (wt ns - 32768) = V.int 0 by rw [h2]; rfl)]
        rw [if_pos h2] at k
        refine iteT ?_
        walk_at "zz"
        exact k G2 H2 (by walk_at "sm") w2
      · rw [decide_eq_false (show ¬ V.int (wt ns - 32768) = V.int 0 from fun z => h2 (by injection z; omega))]
        rw [if_neg h2] at k
        refine iteF ?_
        walk_at "zz"
        exact k G2 H2 (by walk_at "sm") w2
def goodB (ns : List Int) : Bool := decide (wt ns = 32768) || decide (ns.filter (0 < ·) = [1])
theorem kind_full (ns : List Int) : decide (V.str (kindS ns) = V.str "full") = decide (wt ns = 32768) := by
  unfold kindS
  by_cases h1 : 32768 < wt ns
  · rw [if_pos h1, decide_eq_false (show ¬ wt ns = 32768 by omega)]
    decide +kernel
  · rw [if_neg h1]
    by_cases h2 : wt ns = 32768
    · rw [if_pos h2, decide_eq_true h2]
      decide +kernel
    · rw [if_neg h2, decide_eq_false h2]
      decide +kernel
def sp_is_good (K : PySem.W.Frag) : Sp := fun vs H Q _ => ∃ (G : Hp) (W : Wl) (a : Addr) (ns : List Int), Wd G W H ∧ vs = [.ref a] ∧ (SqL K G a (ns.map V.int) ∨ SqT K G a (ns.map V.int)) ∧ Lens15 ns ∧
  ∀ G' H', Same G G' → Wd G' W H' → Q (.bl (goodB ns)) H'
theorem ok_is_good (T : Txt K mg A) : FnOk P w K mg base CX0 4 A.f_is_good A.fd_is_good sP_is_good (sp_is_good K) := by
  refine okD T.F_is_good sc_is_good (fun vs H Q E h => ?_) (fun cdv Ar outer s H vs Q E hr h => ⟨_, (pss_one (ps_ret ((pe_or (pe_cmpR op_eq (pe_call (ok_kind_of T) (hr.mono (by decide)) rfl T.m_kind_of T.F_kind_of.kp T.b_kind_of .nil pass0 (pa_cons (pv 0) pa_nil)) (pe_str) (nomark _)) (pe_one (pe_cmpR (op_eqD hr.units) (pe_lc (own := [("length", 1)]) (g := gName 1) rfl sc_is_good.nd (pi_seqA (pv 0)) (blkOk_by (own := [("length", 1)]) (N := sN_is_good) (sc := defScope s_is_good) (by decide +kernel)) (fun _ _ _ _ _ => pg_name (i := 1) sc_is_good.nd rfl (Or.inl rfl)) (fun _ _ _ _ _ => (pts_one (pt_cmpR op_gt (pv 1) (pe_int) (nomark _)))) (fun _ _ _ _ _ => (pv 1))) (pe_lst (pa_cons (pe_int) pa_nil)) (nomark _))))))), ?_⟩)
  · obtain ⟨G, W, a, ns, _, rfl, _⟩ := h
    rfl
  · obtain ⟨G, W, a, ns, w, rfl, ha, hL, k⟩ := h
    walk_at "zz"
    refine ⟨G, W, a, ns, w, rfl, ha, hL, fun G1 H1 e1 w1 => ?_⟩
    walk_at "zz"
    rw [kind_full]
    unfold goodB at k
    by_cases h2 : wt ns = 32768
    · rw [decide_eq_true h2] at k ⊢
      refine iteT ?_
      exact k G1 H1 (by walk_at "sm") w1
    · rw [decide_eq_false h2] at k ⊢
      refine iteF ?_
      walk_at "zz"
      refine lc_seq (fun Q q => st_var rfl q) (ha.imp e1.seq (seqT e1)) (fun i acc G' => acc = ((ns.take i).filter (0 < ·)).map V.int) w1 rfl (fun _ => rfl) ?_ ?_
      · rintro i x D G' H' acc hx e w' rfl
        obtain ⟨n, hi, rfl, hn⟩ := getI hx
        have et : ns.take (i + 1) = ns.take i ++ [n] := by rw [List.take_add_one, hi]; rfl
        walk_at "zz"
        by_cases hp : 0 < n
        · rw [decide_eq_true hp]
          refine iteT ?_
          walk_at "zz"
          refine lc_put w' (by walk_at "sm") ?_ ?_
          · rw [List.length_map]
            have h1 := List.length_filter_le (0 < ·) (ns.take i)
            have h2 := List.length_take_le' i ns
            have := hL.2
            omega
          · rw [et, List.filter_append, List.map_append]
            simp [hp]
        · rw [decide_eq_false hp]
          refine iteF ?_
          refine lc_skip w' (by walk_at "sm") ?_
          rw [et, List.filter_append, List.map_append]
          simp [hp]
      · rintro D G' H' acc e w' rfl
        rw [List.length_map, List.take_length] at w'
        obtain ⟨o, rfl, ho, e2, w3⟩ := w'.freeze1
        have hD : SqL K (upd G' D (.lst ((ns.filter (0 < ·)).map V.int))) D _ := SqL.of upd_same
        walk_at "zz"
        refine ⟨by decide, NewO.good w3 fun p G5 H5 e5 w5 hp => ?_⟩
        refine st_eqI (ys := [1]) (seq_up w5 (e5.seq hD)) (by exact SqL.of (w5.at hp)) ?_
        exact k G5 H5 (by walk_at "sm") w5

/-! ### the law -/
theorem pow15 {n : Int} (h : 0 ≤ n ∧ n ≤ 15) : (0 : Int) < 2 ^ n.toNat ∧ (2 : Int) ^ n.toNat ≤ 32768 := by
  have h1 : n.toNat ≤ 15 := by omega
  refine ⟨Int.pow_pos (by decide), ?_⟩
  have h2 : 2 ^ n.toNat ≤ 2 ^ 15 := Nat.pow_le_pow_right (by decide) h1
  have h3 : ((2 ^ n.toNat : Nat) : Int) = (2 : Int) ^ n.toNat := by simp
  omega
theorem ok__law_excess (T : Txt K mg A) : FnOk P w K mg base CX0 1 A.f__law_excess A.fd__law_excess sP__law_excess (sp_excess_of K) := by
  refine okD T.F__law_excess sc__law_excess (fun vs H Q E h => ?_) (fun cdv Ar outer s H vs Q E hr h => ⟨_, (pss_one (ps_ret (pe_op op_sub (pe_callB (cr_sum rfl) (by rfl) T.z_sum (by decide +kernel) (pa_cons (pe_lc (own := [("_law_length", 1)]) (g := gName 1) rfl sc__law_excess.nd (pi_seqA (pv 0)) (blkOk_by (own := [("_law_length", 1)]) (N := sN__law_excess) (sc := defScope s__law_excess) (by decide +kernel)) (fun _ _ _ _ _ => pg_name (i := 1) sc__law_excess.nd rfl (Or.inl rfl)) (fun _ _ _ _ _ => (pts_one (pt_cmpR op_gt (pv 1) (pe_int) (nomark _)))) (fun _ _ _ _ _ => (pe_op op_fdiv (pe_int) (pe_op op_shl (pe_int) (pv 1))))) pa_nil)) (pe_int)))), ?_⟩)
  · obtain ⟨G, W, a, ns, _, rfl, _⟩ := h
    rfl
  · obtain ⟨G, W, a, ns, w, rfl, ha, hL, k⟩ := h
    walk_at "zz"
    refine lc_seq (fun Q q => st_var rfl q) ha (fun i acc G' => acc = (((ns.take i).filter (0 < ·)).map fun n => V.int ((32768 : Int) / 2 ^ n.toNat))) w rfl (fun _ => rfl) ?_ ?_
    · rintro i x D G' H' acc hx e w' rfl
      obtain ⟨n, hi, rfl, hn⟩ := getI hx
      have hn2 := hL.1 n hn
      have et : ns.take (i + 1) = ns.take i ++ [n] := by rw [List.take_add_one, hi]; rfl
      have hpw := pow15 hn2
      walk_at "zz"
      by_cases hp : 0 < n
      · rw [decide_eq_true hp]
        refine iteT ?_
        walk_at "zz"
        rw [Int.one_mul]
        refine lc_put w' (by walk_at "sm") ?_ ?_
        · rw [List.length_map]
          have h1 := List.length_filter_le (0 < ·) (ns.take i)
          have h2 := List.length_take_le' i ns
          have := hL.2
          omega
        · rw [et, List.filter_append, List.map_append]
          simp [hp]
      · rw [decide_eq_false hp]
        refine iteF ?_
        refine lc_skip w' (by walk_at "sm") ?_
        rw [et, List.filter_append, List.map_append]
        simp [hp]
    · rintro D G' H' acc e w' rfl
      obtain ⟨o, rfl, ho, e2, w3⟩ := w'.freeze1
      rw [List.length_map, List.take_length] at ho
      walk_at "zz"
      refine ⟨D, (ns.filter (0 < ·)).map fun n => (32768 : Int) / 2 ^ n.toNat, rfl, by rw [List.map_map]; exact SqL.of ho, ?_⟩
      walk_at "zz"
      exact k _ H' (by walk_at "sm") w3
def sp_right (K : PySem.W.Frag) : Sp := fun vs H Q _ => ∃ (G : Hp) (W : Wl) (a : Addr) (ns : List Int), Wd G W H ∧ vs = [.ref a] ∧ G a = some (.lst (ns.map V.int)) ∧ Lens15 ns ∧
  ∀ G' H', Same G G' → Wd G' W H' → Q (.bl true) H'
theorem ok__law_right (T : Txt K mg A) : FnG P w K mg base 5 A.f__law_right A.fd__law_right sP__law_right (sp_right K) := by
  refine okG T.F__law_right sc__law_right (fun vs H Q E h => ?_) (fun cdv Ar outer s H vs Q E hgd hr h => ⟨_, (pss_cons (ps_par (i := 1) (j := 2) (by rfl) sc__law_right.nd rfl rfl (by decide) rfl rfl (pa_cons (pe_call (ok__law_excess T) (hr.mono (by decide)) rfl T.m__law_excess T.F__law_excess.kp T.b__law_excess .nil pass0 (pa_cons (pv 0) pa_nil)) (pa_cons (pe_callTy call_list_of (by rfl) T.z_list (by decide +kernel) (pa_cons (pv 0) pa_nil)) pa_nil)) (by rfl))
      (pss_cons (ps_set (i := 3) sc__law_right.nd rfl (Or.inl rfl) (pe_ifExp (pt_cmpR op_gt (pv 1) (pe_int) (nomark _)) (pe_str) (pe_ifExp (pt_cmpR op_eq (pv 1) (pe_int) (nomark _)) (pe_str) (pe_str))))
      (C8.pss_cut (ps_set (i := 4) sc__law_right.nd rfl (Or.inl rfl) ((pe_or (pe_cmpR op_eq (pv 1) (pe_int) (nomark _)) (pe_one (pe_cmpR (op_eqD hr.units) (pe_lc (own := [("_law_length", 5)]) (g := gName 5) rfl sc__law_right.nd (pi_list (pv 0)) (blkOk_by (own := [("_law_length", 5)]) (N := sN__law_right) (sc := defScope s__law_right) (by decide +kernel)) (fun _ _ _ _ _ => pg_name (i := 5) sc__law_right.nd rfl (Or.inl rfl)) (fun _ _ _ _ _ => (pts_one (pt_cmpR op_gt (pv 5) (pe_int) (nomark _)))) (fun _ _ _ _ _ => (pv 5))) (pe_lst (pa_cons (pe_int) pa_nil)) (nomark _))))))
      (pss_cons (ps_if (PW.pt (pw_or (pt_cmpR op_ne (pe_call (ok_kind_of T) (hr.mono (by decide)) rfl T.m_kind_of T.F_kind_of.kp T.b_kind_of .nil pass0 (pa_cons (pv 0) pa_nil)) (pv 3) (nomark _)) (pw_or (pt_cmpR op_ne (pe_call (ok_kind_of T) (hr.mono (by decide)) rfl T.m_kind_of T.F_kind_of.kp T.b_kind_of .nil pass0 (pa_cons (pe_callTy call_tuple_of (by rfl) T.z_tuple (by decide +kernel) (pa_cons (pv 0) pa_nil)) pa_nil)) (pv 3) (nomark _)) (pw_or1 (pt_cmpR op_ne (pe_callN0 (ok_kind_of T) (hr.mono (by decide)) rfl T.m_kind_of T.F_kind_of.kp T.kb_kind_of_0_lengths.choose_spec pass0 (pk_cons (pv 0) pk_nil)) (pv 3) (nomark _)))))) (pss_one (ps_ret (pe_bl))) pss_nil)
      (pss_cons (ps_set (i := 6) sc__law_right.nd rfl (Or.inl rfl) (pe_lst (pa_cons (pe_call (ok_is_good T) (hr.mono (by decide)) rfl T.m_is_good T.F_is_good.kp T.b_is_good .nil pass0 (pa_cons (pv 0) pa_nil)) (pa_cons (pe_callN0 (ok_is_good T) (hr.mono (by decide)) rfl T.m_is_good T.F_is_good.kp T.kb_is_good_0_lengths.choose_spec pass0 (pk_cons (pe_callTy call_tuple_of (by rfl) T.z_tuple (by decide +kernel) (pa_cons (pv 0) pa_nil)) pk_nil)) pa_nil))))
      (pss_one (ps_ret ((pe_and (pe_cmpR op_eq (pe_callB (call_reprD hgd hr.units) (by rfl) T.z_repr (by decide +kernel) (pa_cons (pv 6) pa_nil)) (pe_callB (call_reprD hgd hr.units) (by rfl) T.z_repr (by decide +kernel) (pa_cons (pe_lst (pa_cons (pv 4) (pa_cons (pv 4) pa_nil))) pa_nil)) (nomark _)) (pe_one (pe_cmpR (op_eqD hr.units) (pv 0) (pv 2) (nomark _)))))))))))), ?_⟩)
  · obtain ⟨G, W, a, ns, _, rfl, _⟩ := h
    rfl
  · obtain ⟨G, W, a, ns, w, rfl, ha, hL, k⟩ := h
    have hS : SqL K G a (ns.map V.int) := SqL.of ha
    have hw : wt ns - 32768 = 0 ↔ wt ns = 32768 := by omega
    walk_at "zz"
    refine ⟨G, W, a, ns, w, rfl, .inl hS, hL, fun G1 H1 e1 w1 => ?_⟩
    walk_at "zz"
    refine ⟨_, _, rfl, .inl (by walk_at "up"), fun l hl => ?_⟩
    have e2 : Same G1 (upd G1 l (.lst (ns.map V.int))) := same_upd (w1.free hl)
    have w2 : Wd _ _ (upd H1 l (.lst (ns.map V.int))) := w1.new hl
    have hlS : SqL K (upd G1 l (.lst (ns.map V.int))) l (ns.map V.int) := SqL.of upd_same
    generalize upd G1 l (.lst (ns.map V.int)) = G2 at e2 w2 hlS
    generalize upd H1 l (.lst (ns.map V.int)) = H2 at w2
    walk_at "zz"
    refine st_ifV (.str (kindS ns)) (decide (0 < wt ns - 32768)) (fun QT q => by walk_at "zz"; exact q) (fun h Q q => ?_) (fun h Q q => ?_) ?_
    · have h' := of_decide_eq_true h
      unfold kindS at q
      rw [if_pos (show 32768 < wt ns by omega)] at q
      exact q
    · have h' := of_decide_eq_false h
      refine st_ifV (.str (kindS ns)) (decide (V.int (wt ns - 32768) = V.int 0)) (fun QT q => by walk_at "zz"; exact q) (fun h Q q => ?_) (fun h Q q => ?_) q
      · have h2 := of_decide_eq_true h
        injection h2 with h2
        unfold kindS at q
        rw [if_neg (show ¬ 32768 < wt ns by omega), if_pos (show wt ns = 32768 by omega)] at q
        exact q
      · have h2 := of_decide_eq_false h
        have h3 : ¬ wt ns = 32768 := fun z => h2 (by rw [z]; rfl)
        unfold kindS at q
        rw [if_neg (show ¬ 32768 < wt ns by omega), if_neg h3] at q
        exact q
    · walk_at "zz"
      refine st_cut (fun σ H => ∃ G', Same G2 G' ∧ Wd G' W H ∧ ∃ x, σ = [some (.ref a), some (.int (wt ns - 32768)), some (.ref l), some (.str (kindS ns)), some (.bl (goodB ns)), x, none]) ?_ ?_
      · walk_at "zz"
        by_cases h2 : wt ns = 32768
        · rw [decide_eq_true (show V.int (wt ns - 32768) = V.int 0 by rw [h2]; rfl)]
          refine iteT ?_
          walk_at "zz"
          refine ⟨G2, by walk_at "sm", w2, none, ?_⟩
          rw [show goodB ns = true by simp [goodB, h2]]
          rfl
        · rw [decide_eq_false (show ¬ V.int (wt ns - 32768) = V.int 0 from fun z => h2 (by injection z; omega))]
          refine iteF ?_
          walk_at "zz"
          refine lc_l (e2.seq (e1.seq hS)) (fun i acc G' => acc = ((ns.take i).filter (0 < ·)).map V.int) w2 rfl (fun _ => rfl) ?_ ?_
          · rintro i x D G' H' acc hx e w' rfl
            obtain ⟨n, hi, rfl, hn⟩ := getI hx
            have et : ns.take (i + 1) = ns.take i ++ [n] := by rw [List.take_add_one, hi]; rfl
            walk_at "zz"
            by_cases hp : 0 < n
            · rw [decide_eq_true hp]
              refine iteT ?_
              walk_at "zz"
              refine lc_put w' (by walk_at "sm") ?_ ?_
              · rw [List.length_map]
                have h1 := List.length_filter_le (0 < ·) (ns.take i)
                have h2 := List.length_take_le' i ns
                have := hL.2
                omega
              · rw [et, List.filter_append, List.map_append]
                simp [hp]
            · rw [decide_eq_false hp]
              refine iteF ?_
              refine lc_skip w' (by walk_at "sm") ?_
              rw [et, List.filter_append, List.map_append]
              simp [hp]
          · rintro D G' H' acc e w' rfl
            rw [List.length_map, List.take_length] at w'
            obtain ⟨o, rfl, ho, e3, w3⟩ := w'.freeze1
            have hD : SqL K (upd G' D (.lst ((ns.filter (0 < ·)).map V.int))) D _ := SqL.of upd_same
            walk_at "zz"
            refine ⟨by decide, NewO.good w3 fun p G5 H5 e5 w5 hp => ?_⟩
            refine st_eqI (ys := [1]) (seq_up w5 (e5.seq hD)) (by exact SqL.of (w5.at hp)) ?_
            walk_at "zz"
            refine ⟨G5, by walk_at "sm", w5, none, ?_⟩
            rw [show goodB ns = decide (ns.filter (0 < ·) = [1]) by simp [goodB, h2]]
            rfl
      · rintro σ' H3 ⟨G3, e3, w3, x, rfl⟩
        have hS3 : SqL K G3 a (ns.map V.int) := e3.seq (e2.seq (e1.seq hS))
        have hl3 : SqL K G3 l (ns.map V.int) := e3.seq hlS
        walk_at "zz"
        refine ⟨G3, W, a, ns, w3, rfl, .inl hS3, hL, fun G4 H4 e4 w4 => ?_⟩
        walk_at "zz"
        rw [ne_self]
        refine iteF ?_
        walk_at "zz"
        refine ⟨_, _, rfl, .inl ⟨by walk_at "up", fun t ht => ?_⟩⟩
        have e5 : Same G4 (upd G4 t (.tup (ns.map V.int))) := same_upd (w4.free ht)
        have w5 : Wd _ _ (upd H4 t (.tup (ns.map V.int))) := w4.new ht
        have htS : SqT K (upd G4 t (.tup (ns.map V.int))) t (ns.map V.int) := SqT.of upd_same
        generalize upd G4 t (.tup (ns.map V.int)) = G5 at e5 w5 htS
        generalize upd H4 t (.tup (ns.map V.int)) = H5 at w5
        walk_at "zz"
        refine ⟨G5, W, t, ns, w5, rfl, .inr htS, hL, fun G6 H6 e6 w6 => ?_⟩
        walk_at "zz"
        rw [ne_self]
        refine iteF ?_
        walk_at "zz"
        refine ⟨rfl, rfl, G6, W, a, ns, w6, rfl, .inl (by walk_at "up"), hL, fun G7 H7 e7 w7 => ?_⟩
        walk_at "zz"
        rw [ne_self]
        refine iteF ?_
        walk_at "zz"
        refine ⟨G7, W, a, ns, w7, rfl, .inl (by walk_at "up"), hL, fun G8 H8 e8 w8 => ?_⟩
        walk_at "zz"
        refine ⟨_, _, rfl, .inl ⟨by walk_at "up", fun t2 ht2 => ?_⟩⟩
        have e9 : Same G8 (upd G8 t2 (.tup (ns.map V.int))) := same_upd (w8.free ht2)
        have w9 : Wd _ _ (upd H8 t2 (.tup (ns.map V.int))) := w8.new ht2
        have htS2 : SqT K (upd G8 t2 (.tup (ns.map V.int))) t2 (ns.map V.int) := SqT.of upd_same
        generalize upd G8 t2 (.tup (ns.map V.int)) = G9 at e9 w9 htS2
        generalize upd H8 t2 (.tup (ns.map V.int)) = H9 at w9
        walk_at "zz"
        refine ⟨rfl, rfl, G9, W, t2, ns, w9, rfl, .inr htS2, hL, fun G10 H10 e10 w10 => ?_⟩
        walk_at "zz"
        refine ⟨small (by simp), NewO.good w10 fun q G11 H11 e11 w11 hq => ?_⟩
        have hq' : SqL K G11 q [.bl (goodB ns), .bl (goodB ns)] := SqL.of hq
        walk_at "zz"
        refine ⟨_, .list [.bool (goodB ns), .bool (goodB ns)], rfl, .lst (seq_up w11 hq') (.cons (.bl _) (.cons (.bl _) .nil)), rfl, rfl, by cases goodB ns <;> decide, ?_, ?_⟩
        · cases goodB ns <;> decide +kernel
        walk_at "zz"
        refine ⟨small (by simp), NewO.good w11 fun q2 G12 H12 e12 w12 hq2 => ?_⟩
        have hq2' : SqL K G12 q2 [.bl (goodB ns), .bl (goodB ns)] := SqL.of hq2
        walk_at "zz"
        refine ⟨_, .list [.bool (goodB ns), .bool (goodB ns)], rfl, .lst (seq_up w12 hq2') (.cons (.bl _) (.cons (.bl _) .nil)), rfl, rfl, by cases goodB ns <;> decide, ?_, ?_⟩
        · cases goodB ns <;> decide +kernel
        walk_at "zz"
        rw [eq_self']
        refine iteT ?_
        walk_at "zz"
        refine st_eqI (xs := ns) (ys := ns) (by walk_at "up") (by walk_at "up") ?_
        rw [decide_eq_true rfl]
        exact k G12 H12 (by walk_at "sm") w12
def spLaw (K : PySem.W.Frag) : Sp := fun vs H Q _ => ∃ (a : Addr) (ns : List Int), vs = [.ref a] ∧ SqL K H a (ns.map V.int) ∧ ns.length ≤ 63 ∧ ∀ H', Q (.bl true) H'
theorem ok_law (T : Txt K mg A) : FnG P w K mg base 6 A.f_law A.fd_law sP_law (spLaw K) := by
  refine okG T.F_law sc_law (fun vs H Q E h => ?_) (fun cdv Ar outer s H vs Q E hgd hr h => ⟨_, (pss_cons (ps_for PassesOwn.never rfl (pi_range1 (by rfl) T.z_range (pa_cons (pe_callB (call_max2 rfl) (by rfl) T.z_max (by decide +kernel) (pa_cons (pe_int) (pa_cons (pe_callB (call_min2 rfl) (by rfl) T.z_min (by decide +kernel) (pa_cons (pe_int) (pa_cons (pe_callB call_len_seq (by rfl) T.z_len PySem.boot_len (pa_cons (pv 0) pa_nil)) pa_nil))) pa_nil))) pa_nil)) (pg_name (i := 1) sc_law.nd rfl (Or.inl rfl)) (pss_cons (ps_set (i := 2) sc_law.nd rfl (Or.inl rfl) (pe_call (ok__law_bag T) (hr.mono (by decide)) rfl T.m__law_bag T.F__law_bag.kp T.b__law_bag .nil pass0 (pa_cons (pv 0) (pa_cons (pv 1) pa_nil))))
      (pss_one (ps_for PassesOwn.never rfl (pi_range1 (by rfl) T.z_range (pa_cons (pe_int) pa_nil)) (pg_name (i := 3) sc_law.nd rfl (Or.inl rfl)) (pss_cons (ps_set (i := 4) sc_law.nd rfl (Or.inl rfl) (pe_call (ok__law_lengths T) (hr.mono (by decide)) rfl T.m__law_lengths T.F__law_lengths.kp T.b__law_lengths .nil pass0 (pa_cons (pv 2) (pa_cons (pe_int) pa_nil))))
      (pss_cons (ps_set (i := 5) sc_law.nd rfl (Or.inl rfl) (pe_call (ok__law_take T) (hr.mono (by decide)) rfl T.m__law_take T.F__law_take.kp T.b__law_take .nil pass0 (pa_cons (pv 2) (pa_cons (pe_int) pa_nil))))
      (pss_cons (ps_set (i := 6) sc_law.nd rfl (Or.inl rfl) (pe_op op_cat (pe_op op_cat (pe_op op_rep (pe_lst (pa_cons (pe_int) pa_nil)) (pv 5)) (pe_lst (pa_cons (pe_call (ok__law_one T) (hr.mono (by decide)) rfl T.m__law_one T.F__law_one.kp T.b__law_one .nil pass0 (pa_cons (pv 2) (pa_cons (pe_lst (pa_cons (pe_int) (pa_cons (pe_int) (pa_cons (pe_int) (pa_cons (pe_int) pa_nil))))) pa_nil))) pa_nil))) (pe_op op_rep (pe_lst (pa_cons (pe_int) pa_nil)) (pe_call (ok__law_take T) (hr.mono (by decide)) rfl T.m__law_take T.F__law_take.kp T.b__law_take .nil pass0 (pa_cons (pv 2) (pa_cons (pe_int) pa_nil))))))
      (pss_one (ps_for PassesOwn.never rfl (pi_list (pe_lst (pa_cons (pv 4) (pa_cons (pv 6) (pa_cons (pe_op op_cat (pv 4) (pv 6)) (pa_cons (pe_op op_cat (pv 4) (pe_lst (pa_cons (pe_int) pa_nil))) (pa_cons (pe_op op_rep (pe_lst (pa_cons (pe_int) pa_nil)) (pv 5)) pa_nil))))))) (pg_name (i := 7) sc_law.nd rfl (Or.inl rfl)) (pss_one (ps_if (pt_not (pt_val (pe_callG (ok__law_right T) (hr.mono (by decide)) hgd rfl T.m__law_right T.F__law_right.kp T.b__law_right .nil (pa_cons (pv 7) pa_nil)))) (pss_one (ps_ret (pe_bl))) pss_nil)))))))))))
      (pss_cons (ps_set (i := 8) sc_law.nd rfl (Or.inl rfl) (pe_lst (pa_cons (pe_int) (pa_cons (pe_int) (pa_cons (pe_int) (pa_cons (pe_int) (pa_cons (pe_int) (pa_cons (pe_int) (pa_cons (pe_int) (pa_cons (pe_int) (pa_cons (pe_int) (pa_cons (pe_int) (pa_cons (pe_int) (pa_cons (pe_int) (pa_cons (pe_int) (pa_cons (pe_int) (pa_cons (pe_int) (pa_cons (pe_int) pa_nil))))))))))))))))))
      (pss_cons (ps_for PassesOwn.never rfl (pi_list (pe_lst (pa_cons (pe_lst pa_nil) (pa_cons (pe_lst (pa_cons (pe_int) pa_nil)) (pa_cons (pe_lst (pa_cons (pe_int) (pa_cons (pe_int) pa_nil))) (pa_cons (pe_lst (pa_cons (pe_int) pa_nil)) (pa_cons (pe_lst (pa_cons (pe_int) (pa_cons (pe_int) pa_nil))) (pa_cons (pe_lst (pa_cons (pe_int) (pa_cons (pe_int) (pa_cons (pe_int) pa_nil)))) (pa_cons (pe_op op_rep (pe_lst (pa_cons (pe_int) pa_nil)) (pe_int)) (pa_cons (pv 8) pa_nil)))))))))) (pg_name (i := 7) sc_law.nd rfl (Or.inl rfl)) (pss_one (ps_if (pt_not (pt_val (pe_callG (ok__law_right T) (hr.mono (by decide)) hgd rfl T.m__law_right T.F__law_right.kp T.b__law_right .nil (pa_cons (pv 7) pa_nil)))) (pss_one (ps_ret (pe_bl))) pss_nil)))
      (pss_one (ps_ret ((pe_and (pe_cmpR op_eq (pe_call (ok_kind_of T) (hr.mono (by decide)) rfl T.m_kind_of T.F_kind_of.kp T.b_kind_of .nil pass0 (pa_cons (pe_op op_rep (pe_lst (pa_cons (pe_int) pa_nil)) (pe_int)) pa_nil)) (pe_str) (nomark _)) (pe_and (pe_cmpR op_eq (pe_call (ok_kind_of T) (hr.mono (by decide)) rfl T.m_kind_of T.F_kind_of.kp T.b_kind_of .nil pass0 (pa_cons (pe_op op_cat (pe_op op_rep (pe_lst (pa_cons (pe_int) pa_nil)) (pe_int)) (pe_lst (pa_cons (pe_int) pa_nil))) pa_nil)) (pe_str) (nomark _)) (pe_one (pe_cmpR op_eq (pe_call (ok_kind_of T) (hr.mono (by decide)) rfl T.m_kind_of T.F_kind_of.kp T.b_kind_of .nil pass0 (pa_cons (pe_lst pa_nil) pa_nil)) (pe_str) (nomark _))))))))))), ?_⟩)
  · obtain ⟨a, ns, rfl, _⟩ := h
    rfl
  · obtain ⟨a, ns, rfl, hS, hn, k⟩ := h
    have w0 : Wd H [] H := ⟨Same.refl _, (fun _ h => nomatch h), List.nodup_nil⟩
    walk_at "zz"
    refine ⟨a, _, rfl, .inl hS, ?_⟩
    walk_at "zz"
    rw [List.length_map]
    refine ⟨_, _, rfl, ?_⟩
    walk_at "zz"
    refine ⟨_, _, rfl, ?_⟩
    walk_at "zz"
    refine for_r1 (by split <;> split <;> omega) (fun i σ G' W' => W' = [] ∧ ∃ x1 x2 x3 x4 x5 x6 x7 x8, σ = [some (.ref a), x1, x2, x3, x4, x5, x6, x7, x8]) w0 ⟨rfl, _, _, _, _, _, _, _, _, rfl⟩ ?_ ?_
    · rintro i σ' G1 W1 H1 hi e1 w1 ⟨rfl, x1, x2, x3, x4, x5, x6, x7, x8, rfl⟩
      have hi6 : (i : Int) < 6 := by split at hi <;> split at hi <;> omega
      walk_at "zz"
      refine ⟨G1, [], a, ns, _, w1, rfl, e1.seq hS, by omega, by omega, fun b H2 w2 => ?_⟩
      walk_at "zz"
      refine for_r1 (by omega) (fun i2 σ G' W' => W' = [(b, BagI)] ∧ ∃ x3 x4 x5 x6 x7 x8, σ = [some (.ref a), some (.int i), some (.ref b), x3, x4, x5, x6, x7, x8]) w2 ⟨rfl, _, _, _, _, _, _, rfl⟩ ?_ ?_
      · rintro i2 σ' G3 W3 H3 hi2 e3 w3 ⟨rfl, y3, y4, y5, y6, y7, y8, rfl⟩
        have hm : (b, BagI) ∈ [(b, BagI)] := List.mem_cons_self
        walk_at "zz"
        refine ⟨G3, _, b, 40, w3, hm, rfl, by decide, by decide, fun p4 ns4 G4 H4 e4 w4 h4 hL4 hl4 => ?_⟩
        walk_at "zz"
        refine ⟨G4, _, b, 9, w4, hm, rfl, by decide, by decide, fun r5 H5 hr5 hr5' w5 => ?_⟩
        walk_at "zz"
        refine ⟨by decide, NewO.good w5 fun p6 G6 H6 e6 w6 h6 => ?_⟩
        walk_at "zz"
        refine st_repI (hUp w6 h6) hr5 (by omega) w6 fun p7 G7 H7 e7 w7 h7 => ?_
        walk_at "zz"
        refine ⟨by decide, NewO.good w7 fun p8 G8 H8 e8 w8 h8 => ?_⟩
        walk_at "zz"
        refine ⟨G8, _, b, p8, _, w8, hm, rfl, .of h8, by decide, by decide, fun v9 H9 hv9 w9 => ?_⟩
        obtain ⟨n9, rfl, hn9⟩ : ∃ n : Int, v9 = .int n ∧ 0 ≤ n ∧ n ≤ 15 :=
          (show AllP (fun v : V => ∃ n : Int, v = .int n ∧ 0 ≤ n ∧ n ≤ 15) [.int 1, .int 1, .int 2, .int 15] from ⟨⟨1, rfl, by decide⟩, ⟨1, rfl, by decide⟩, ⟨2, rfl, by decide⟩, ⟨15, rfl, by decide⟩, trivial⟩).of _ hv9
        walk_at "zz"
        refine ⟨small (by simp), NewO.good w9 fun p10 G10 H10 e10 w10 h10 => ?_⟩
        refine st_catI (xs := List.replicate r5.toNat 0) (ys := [n9]) (hUp w10 (atUp e10 (atUp e8 h7))) (hUp w10 h10) (by simp; omega) w10 fun p11 G11 H11 e11 w11 h11 => ?_
        walk_at "zz"
        refine ⟨by decide, NewO.good w11 fun p12 G12 H12 e12 w12 h12 => ?_⟩
        walk_at "zz"
        refine ⟨G12, _, b, 5, w12, hm, rfl, by decide, by decide, fun r13 H13 hr13 hr13' w13 => ?_⟩
        refine st_repI (hUp w13 h12) hr13 (by omega) w13 fun p14 G14 H14 e14 w14 h14 => ?_
        refine st_catI (hUp w14 (h11.up (e12.trans e14))) (hUp w14 h14) (by simp; omega) w14 fun p15 G15 H15 e15 w15 h15 => ?_
        walk_at "zz"
        have hLone : Lens15 (List.replicate r5.toNat 0 ++ [n9] ++ List.replicate r13.toNat 0) := by
          refine ⟨fun n hn => ?_, by simp; omega⟩
          rcases List.mem_append.mp hn with hn | hn
          · rcases List.mem_append.mp hn with hn | hn
            · have := (List.mem_replicate.mp hn).2
              omega
            · have := List.mem_singleton.mp hn
              omega
          · have := (List.mem_replicate.mp hn).2
            omega
        have hl15 : (List.replicate r5.toNat (0 : Int) ++ [n9] ++ List.replicate r13.toNat 0).length ≤ 20 := by
          simp
          omega
        generalize List.replicate r5.toNat (0 : Int) ++ [n9] ++ List.replicate r13.toNat 0 = lone at hLone h15 hl15
        have h4' : HL G15 p4 ns4 := ((e6.trans e7).trans (e8.trans e10)).trans ((e11.trans e12).trans (e14.trans e15)) _ _ h4
        refine st_catI (hUp w15 h4') (hUp w15 h15) (by omega) w15 fun p16 G16 H16 e16 w16 h16 => ?_
        walk_at "zz"
        refine ⟨by decide, NewO.good w16 fun p17 G17 H17 e17 w17 h17 => ?_⟩
        refine st_catI (ys := [15]) (hUp w17 (h4'.up (e16.trans e17))) (hUp w17 h17) (by simp; omega) w17 fun p18 G18 H18 e18 w18 h18 => ?_
        walk_at "zz"
        refine ⟨by decide, NewO.good w18 fun p19 G19 H19 e19 w19 h19 => ?_⟩
        walk_at "zz"
        refine st_repI (hUp w19 h19) hr5 (by omega) w19 fun p20 G20 H20 e20 w20 h20 => ?_
        walk_at "zz"
        refine ⟨small (by simp), NewO.good w20 fun p21 G21 H21 e21 w21 h21 => ?_⟩
        have hall : AllP (fun v : V => ∃ (q : Addr) (ms : List Int), v = .ref q ∧ HL G21 q ms ∧ Lens15 ms) [.ref p4, .ref p15, .ref p16, .ref p18, .ref p20] := by
          have u20 : Same G18 G21 := (e19.trans e20).trans e21
          have u18 : Same G16 G21 := (e17.trans e18).trans u20
          refine ⟨⟨_, _, rfl, h4'.up (e16.trans u18), hL4, by omega⟩, ⟨_, _, rfl, h15.up (e16.trans u18), hLone⟩, ⟨_, _, rfl, h16.up u18, fun n hn => ?_, by simp; omega⟩, ⟨_, _, rfl, h18.up u20, fun n hn => ?_, by simp; omega⟩, ⟨_, _, rfl, h20.up e21, fun n hn => ?_, by simp; omega⟩, trivial⟩
          · rcases List.mem_append.mp hn with hn | hn
            · exact hL4 n hn
            · exact hLone.1 n hn
          · rcases List.mem_append.mp hn with hn | hn
            · exact hL4 n hn
            · have := List.mem_singleton.mp hn
              omega
          · have := (List.mem_replicate.mp hn).2
            omega
        refine for_l (SqL.of h21) (fun _ σ G' W' => W' = [(b, BagI)] ∧ ∃ x3 x4 x5 x6 x7 x8, σ = [some (.ref a), some (.int i), some (.ref b), x3, x4, x5, x6, x7, x8]) w21 ⟨rfl, _, _, _, _, _, _, rfl⟩ ?_ ?_
        · rintro i3 x3 σ' G22 W22 H22 hx3 e22 w22 ⟨rfl, z3, z4, z5, z6, z7, z8, rfl⟩
          obtain ⟨q, ms, rfl, hq, hms⟩ := hall.of _ (List.mem_of_getElem? hx3)
          walk_at "zz"
          refine ⟨G22, _, q, ms, w22, rfl, hq.up e22, hms, fun G23 H23 e23 w23 => ?_⟩
          walk_at "zz"
          exact st_btw (by walk_at "sm") w23 ⟨rfl, _, _, _, _, _, _, rfl⟩
        · rintro σ' G22 W22 H22 e22 w22 ⟨rfl, z3, z4, z5, z6, z7, z8, rfl⟩
          exact st_btw (by walk_at "sm") w22 ⟨rfl, _, _, _, _, _, _, rfl⟩
      · rintro σ' G3 W3 H3 e3 w3 ⟨rfl, y3, y4, y5, y6, y7, y8, rfl⟩
        exact st_btw (by walk_at "sm") w3.drop1 ⟨rfl, _, _, _, _, _, _, _, _, rfl⟩
    · rintro σ' G1 W1 H1 e1 w1 ⟨rfl, x1, x2, x3, x4, x5, x6, x7, x8, rfl⟩
      walk_at "zz"
      refine ⟨by decide, NewO.good w1 fun p1 G2 H2 e2 w2 h2 => ?_⟩
      walk_at "zz"
      refine ⟨by decide, NewO.good w2 fun p2 G3 H3 e3 w3 h3 => ?_⟩
      walk_at "zz"
      refine ⟨by decide, NewO.good w3 fun p3 G4 H4 e4 w4 h4 => ?_⟩
      walk_at "zz"
      refine ⟨by decide, NewO.good w4 fun p4 G5 H5 e5 w5 h5 => ?_⟩
      walk_at "zz"
      refine ⟨by decide, NewO.good w5 fun p5 G6 H6 e6 w6 h6 => ?_⟩
      walk_at "zz"
      refine ⟨by decide, NewO.good w6 fun p6 G7 H7 e7 w7 h7 => ?_⟩
      walk_at "zz"
      refine ⟨by decide, NewO.good w7 fun p7 G8 H8 e8 w8 h8 => ?_⟩
      walk_at "zz"
      refine ⟨by decide, NewO.good w8 fun p8 G9 H9 e9 w9 h9 => ?_⟩
      walk_at "zz"
      refine st_repI (hUp w9 h9) (by decide) (by decide) w9 fun p10 G10 H10 e10 w10 h10 => ?_
      walk_at "zz"
      refine ⟨small (by simp), NewO.good w10 fun p11 G11 H11 e11 w11 h11 => ?_⟩
      have hall : AllP (fun v : V => ∃ (q : Addr) (ms : List Int), v = .ref q ∧ HL G11 q ms ∧ Lens15 ms) [.ref p2, .ref p3, .ref p4, .ref p5, .ref p6, .ref p7, .ref p10, .ref p1] :=
        ⟨⟨_, [], rfl, by walk_at "up", by decide⟩, ⟨_, [1], rfl, by walk_at "up", by decide⟩, ⟨_, [0, 1], rfl, by walk_at "up", by decide⟩, ⟨_, [2], rfl, by walk_at "up", by decide⟩, ⟨_, [1, 1], rfl, by walk_at "up", by decide⟩, ⟨_, [1, 1, 1], rfl, by walk_at "up", by decide⟩, ⟨_, [15, 15], rfl, by walk_at "up", by decide⟩,
         ⟨_, [1, 2, 3, 4, 5, 6, 7, 8, 9, 10, 11, 12, 13, 14, 15, 15], rfl, by walk_at "up", by decide⟩, trivial⟩
      refine for_l (SqL.of h11) (fun i σ G' W' => W' = [] ∧ ∃ x1 x2 x3 x4 x5 x6 x7 x8, σ = [some (.ref a), x1, x2, x3, x4, x5, x6, x7, x8]) w11 ⟨rfl, _, _, _, _, _, _, _, _, rfl⟩ ?_ ?_
      · rintro i3 x3 σ' G22 W22 H22 hx3 e22 w22 ⟨rfl, z1, z2, z3, z4, z5, z6, z7, z8, rfl⟩
        obtain ⟨q, ms, rfl, hq, hms⟩ := hall.of _ (List.mem_of_getElem? hx3)
        walk_at "zz"
        refine ⟨G22, _, q, ms, w22, rfl, hq.up e22, hms, fun G23 H23 e23 w23 => ?_⟩
        walk_at "zz"
        exact st_btw (by walk_at "sm") w23 ⟨rfl, _, _, _, _, _, _, _, _, rfl⟩
      · rintro σ' G22 W22 H22 e22 w22 ⟨rfl, z1, z2, z3, z4, z5, z6, z7, z8, rfl⟩
        walk_at "zz"
        refine ⟨by decide, NewO.good w22 fun q1 G23 H23 e23 w23 h23 => ?_⟩
        walk_at "zz"
        refine st_repI (hUp w23 h23) (by decide) (by decide) w23 fun q2 G24 H24 e24 w24 h24 => ?_
        walk_at "zz"
        refine ⟨G24, _, q2, _, w24, rfl, .inl h24.seq, by decide +kernel, fun G25 H25 e25 w25 => ?_⟩
        walk_at "zz"
        rw [kind_full, show decide (wt (List.replicate (Int.toNat 256) 8) = 32768) = true by decide +kernel]
        walk_at "zz"
        refine ⟨by decide, NewO.good w25 fun q3 G26 H26 e26 w26 h26 => ?_⟩
        walk_at "zz"
        refine st_repI (hUp w26 h26) (by decide) (by decide) w26 fun q4 G27 H27 e27 w27 h27 => ?_
        walk_at "zz"
        refine ⟨by decide, NewO.good w27 fun q5 G28 H28 e28 w28 h28 => ?_⟩
        refine st_catI (ys := [15]) (hUp w28 (h27.up e28)) (hUp w28 h28) (by decide) w28 fun q6 G29 H29 e29 w29 h29 => ?_
        walk_at "zz"
        refine ⟨G29, _, q6, _, w29, rfl, .inl h29.seq, by decide +kernel, fun G30 H30 e30 w30 => ?_⟩
        walk_at "zz"
        rw [show kindS (List.replicate (Int.toNat 256) 8 ++ [15]) = Str.ofString "over" by decide +kernel, eq_self']
        walk_at "zz"
        refine ⟨by decide, NewO.good w30 fun q7 G31 H31 e31 w31 h31 => ?_⟩
        walk_at "zz"
        refine ⟨G31, _, q7, [], w31, rfl, .inl (SqL.of h31), by decide +kernel, fun G32 H32 e32 w32 => ?_⟩
        walk_at "zz"
        rw [show kindS [] = Str.ofString "thin" by decide +kernel, eq_self']
        exact k H32

end
theorem all_mk {l : PySem.W.OpenLaw} {w : World} {K : PySem.W.Frag} {h : Heap} {mg : Str → Option Value} {fa : Addr} (X : K.In h) (G : h.Ns mainGlobals mg) (hfa : mg "law" = some (.ref fa))
    {A0 : Addr} {od0 an0 : Option Addr} {sl0 : Array (Option Value)} {oc0 kV0 dc0 pm0 cd0 ct0 : Value}
    {A1 : Addr} {od1 an1 : Option Addr} {sl1 : Array (Option Value)} {oc1 kV1 dc1 pm1 cd1 ct1 : Value}
    {A2 : Addr} {od2 an2 : Option Addr} {sl2 : Array (Option Value)} {oc2 kV2 dc2 pm2 cd2 ct2 : Value}
    {A3 : Addr} {od3 an3 : Option Addr} {sl3 : Array (Option Value)} {oc3 kV3 dc3 pm3 cd3 ct3 : Value}
    {A4 : Addr} {od4 an4 : Option Addr} {sl4 : Array (Option Value)} {oc4 kV4 dc4 pm4 cd4 ct4 : Value}
    {A5 : Addr} {od5 an5 : Option Addr} {sl5 : Array (Option Value)} {oc5 kV5 dc5 pm5 cd5 ct5 : Value}
    {A6 : Addr} {od6 an6 : Option Addr} {sl6 : Array (Option Value)} {oc6 kV6 dc6 pm6 cd6 ct6 : Value}
    {A7 : Addr} {od7 an7 : Option Addr} {sl7 : Array (Option Value)} {oc7 kV7 dc7 pm7 cd7 ct7 : Value}
    {A8 : Addr} {od8 an8 : Option Addr} {sl8 : Array (Option Value)} {oc8 kV8 dc8 pm8 cd8 ct8 : Value}
    {A9 : Addr} {od9 an9 : Option Addr} {sl9 : Array (Option Value)} {oc9 kV9 dc9 pm9 cd9 ct9 : Value}
    {A10 : Addr} {od10 an10 : Option Addr} {sl10 : Array (Option Value)} {oc10 kV10 dc10 pm10 cd10 ct10 : Value}
    {A11 : Addr} {od11 an11 : Option Addr} {sl11 : Array (Option Value)} {oc11 kV11 dc11 pm11 cd11 ct11 : Value}
    {tc0 : Tok}
    {tc1 : Tok}
    {tc2 : Tok}
    (a0 : PySem.W.nsIn K mainGlobals "is_integer" = some (some (.ref A0)))
    (l0 : K.lookup A0 = some ⟨oc0, od0, .func (PySem.W.fnOf "is_integer" "is_integer" (defArgs s_is_integer) (defBody s_is_integer) (defScope s_is_integer) .none kV0 dc0 pm0 an0 cd0 ct0), sl0⟩)
    (c0 : PySem.W.codeIn K cd0 "is_integer" = true) (k0 : PySem.W.keepIn K (.ref A0) = true)
    (a1 : PySem.W.nsIn K mainGlobals "check_items" = some (some (.ref A1)))
    (l1 : K.lookup A1 = some ⟨oc1, od1, .func (PySem.W.fnOf "check_items" "check_items" (defArgs s_check_items) (defBody s_check_items) (defScope s_check_items) .none kV1 dc1 pm1 an1 cd1 ct1), sl1⟩)
    (c1 : PySem.W.codeIn K cd1 "check_items" = true) (k1 : PySem.W.keepIn K (.ref A1) = true)
    (a2 : PySem.W.nsIn K mainGlobals "excess_of" = some (some (.ref A2)))
    (l2 : K.lookup A2 = some ⟨oc2, od2, .func (PySem.W.fnOf "excess_of" "excess_of" (defArgs s_excess_of) (defBody s_excess_of) (defScope s_excess_of) .none kV2 dc2 pm2 an2 cd2 ct2), sl2⟩)
    (c2 : PySem.W.codeIn K cd2 "excess_of" = true) (k2 : PySem.W.keepIn K (.ref A2) = true)
    (a3 : PySem.W.nsIn K mainGlobals "kind_of" = some (some (.ref A3)))
    (l3 : K.lookup A3 = some ⟨oc3, od3, .func (PySem.W.fnOf "kind_of" "kind_of" (defArgs s_kind_of) (defBody s_kind_of) (defScope s_kind_of) .none kV3 dc3 pm3 an3 cd3 ct3), sl3⟩)
    (c3 : PySem.W.codeIn K cd3 "kind_of" = true) (k3 : PySem.W.keepIn K (.ref A3) = true)
    (a4 : PySem.W.nsIn K mainGlobals "is_good" = some (some (.ref A4)))
    (l4 : K.lookup A4 = some ⟨oc4, od4, .func (PySem.W.fnOf "is_good" "is_good" (defArgs s_is_good) (defBody s_is_good) (defScope s_is_good) .none kV4 dc4 pm4 an4 cd4 ct4), sl4⟩)
    (c4 : PySem.W.codeIn K cd4 "is_good" = true) (k4 : PySem.W.keepIn K (.ref A4) = true)
    (a5 : PySem.W.nsIn K mainGlobals "_law_bag" = some (some (.ref A5)))
    (l5 : K.lookup A5 = some ⟨oc5, od5, .func (PySem.W.fnOf "_law_bag" "_law_bag" (defArgs s__law_bag) (defBody s__law_bag) (defScope s__law_bag) .none kV5 dc5 pm5 an5 cd5 ct5), sl5⟩)
    (c5 : PySem.W.codeIn K cd5 "_law_bag" = true) (k5 : PySem.W.keepIn K (.ref A5) = true)
    (a6 : PySem.W.nsIn K mainGlobals "_law_take" = some (some (.ref A6)))
    (l6 : K.lookup A6 = some ⟨oc6, od6, .func (PySem.W.fnOf "_law_take" "_law_take" (defArgs s__law_take) (defBody s__law_take) (defScope s__law_take) .none kV6 dc6 pm6 an6 cd6 ct6), sl6⟩)
    (c6 : PySem.W.codeIn K cd6 "_law_take" = true) (k6 : PySem.W.keepIn K (.ref A6) = true)
    (a7 : PySem.W.nsIn K mainGlobals "_law_one" = some (some (.ref A7)))
    (l7 : K.lookup A7 = some ⟨oc7, od7, .func (PySem.W.fnOf "_law_one" "_law_one" (defArgs s__law_one) (defBody s__law_one) (defScope s__law_one) .none kV7 dc7 pm7 an7 cd7 ct7), sl7⟩)
    (c7 : PySem.W.codeIn K cd7 "_law_one" = true) (k7 : PySem.W.keepIn K (.ref A7) = true)
    (a8 : PySem.W.nsIn K mainGlobals "_law_lengths" = some (some (.ref A8)))
    (l8 : K.lookup A8 = some ⟨oc8, od8, .func (PySem.W.fnOf "_law_lengths" "_law_lengths" (defArgs s__law_lengths) (defBody s__law_lengths) (defScope s__law_lengths) .none kV8 dc8 pm8 an8 cd8 ct8), sl8⟩)
    (c8 : PySem.W.codeIn K cd8 "_law_lengths" = true) (k8 : PySem.W.keepIn K (.ref A8) = true)
    (a9 : PySem.W.nsIn K mainGlobals "_law_excess" = some (some (.ref A9)))
    (l9 : K.lookup A9 = some ⟨oc9, od9, .func (PySem.W.fnOf "_law_excess" "_law_excess" (defArgs s__law_excess) (defBody s__law_excess) (defScope s__law_excess) .none kV9 dc9 pm9 an9 cd9 ct9), sl9⟩)
    (c9 : PySem.W.codeIn K cd9 "_law_excess" = true) (k9 : PySem.W.keepIn K (.ref A9) = true)
    (a10 : PySem.W.nsIn K mainGlobals "_law_right" = some (some (.ref A10)))
    (l10 : K.lookup A10 = some ⟨oc10, od10, .func (PySem.W.fnOf "_law_right" "_law_right" (defArgs s__law_right) (defBody s__law_right) (defScope s__law_right) .none kV10 dc10 pm10 an10 cd10 ct10), sl10⟩)
    (c10 : PySem.W.codeIn K cd10 "_law_right" = true) (k10 : PySem.W.keepIn K (.ref A10) = true)
    (a11 : PySem.W.nsIn K mainGlobals "law" = some (some (.ref A11)))
    (l11 : K.lookup A11 = some ⟨oc11, od11, .func (PySem.W.fnOf "law" "law" (defArgs s_law) (defBody s_law) (defScope s_law) .none kV11 dc11 pm11 an11 cd11 ct11), sl11⟩)
    (c11 : PySem.W.codeIn K cd11 "law" = true) (k11 : PySem.W.keepIn K (.ref A11) = true)
    (co0 : PySem.W.nsIn K mainGlobals "MOST_SYMBOLS" = some (some (.int 288 tc0)))
    (co1 : PySem.W.nsIn K mainGlobals "WHOLE" = some (some (.int 32768 tc1)))
    (co2 : PySem.W.nsIn K mainGlobals "LONGEST" = some (some (.int 15 tc2)))
    (z_isinstance : PySem.W.nsIn K mainGlobals "isinstance" = some none)
    (z_int : PySem.W.nsIn K mainGlobals "int" = some none)
    (z_bool : PySem.W.nsIn K mainGlobals "bool" = some none)
    (z_enumerate : PySem.W.nsIn K mainGlobals "enumerate" = some none)
    (z_len : PySem.W.nsIn K mainGlobals "len" = some none)
    (z_list : PySem.W.nsIn K mainGlobals "list" = some none)
    (z_tuple : PySem.W.nsIn K mainGlobals "tuple" = some none)
    (z_sum : PySem.W.nsIn K mainGlobals "sum" = some none)
    (z_abs : PySem.W.nsIn K mainGlobals "abs" = some none)
    (z_range : PySem.W.nsIn K mainGlobals "range" = some none)
    (z_repr : PySem.W.nsIn K mainGlobals "repr" = some none)
    (z_max : PySem.W.nsIn K mainGlobals "max" = some none)
    (z_min : PySem.W.nsIn K mainGlobals "min" = some none) :
    ∃ fd : FuncData, (∀ (s : Shared) (v : Value), BindsTo s fd ⟨[v], []⟩ [("_law_script", v)]) ∧ ∀ base : Heap, K.In base → base.Ns mainGlobals mg → FnG l.prog w K mg base 6 fa fd ["_law_script"] (spLaw K) := by
  have e := hfa.symm.trans (PySem.W.mg_of X G a11)
  cases e
  have F0 : FunD K "is_integer" "is_integer" (defArgs s_is_integer) (defBody s_is_integer) (defScope s_is_integer) [] [] A0 (PySem.W.fnOf "is_integer" "is_integer" (defArgs s_is_integer) (defBody s_is_integer) (defScope s_is_integer) .none kV0 dc0 pm0 an0 cd0 ct0) :=
    ⟨⟨oc0, od0, .none, kV0, dc0, pm0, an0, cd0, ct0, sl0, rfl, l0, c0, (.inl ⟨rfl, rfl⟩), .inl rfl⟩, k0⟩
  have F1 : FunD K "check_items" "check_items" (defArgs s_check_items) (defBody s_check_items) (defScope s_check_items) [] [] A1 (PySem.W.fnOf "check_items" "check_items" (defArgs s_check_items) (defBody s_check_items) (defScope s_check_items) .none kV1 dc1 pm1 an1 cd1 ct1) :=
    ⟨⟨oc1, od1, .none, kV1, dc1, pm1, an1, cd1, ct1, sl1, rfl, l1, c1, (.inl ⟨rfl, rfl⟩), .inl rfl⟩, k1⟩
  have F2 : FunD K "excess_of" "excess_of" (defArgs s_excess_of) (defBody s_excess_of) (defScope s_excess_of) [] [] A2 (PySem.W.fnOf "excess_of" "excess_of" (defArgs s_excess_of) (defBody s_excess_of) (defScope s_excess_of) .none kV2 dc2 pm2 an2 cd2 ct2) :=
    ⟨⟨oc2, od2, .none, kV2, dc2, pm2, an2, cd2, ct2, sl2, rfl, l2, c2, (.inl ⟨rfl, rfl⟩), .inl rfl⟩, k2⟩
  have F3 : FunD K "kind_of" "kind_of" (defArgs s_kind_of) (defBody s_kind_of) (defScope s_kind_of) [] [] A3 (PySem.W.fnOf "kind_of" "kind_of" (defArgs s_kind_of) (defBody s_kind_of) (defScope s_kind_of) .none kV3 dc3 pm3 an3 cd3 ct3) :=
    ⟨⟨oc3, od3, .none, kV3, dc3, pm3, an3, cd3, ct3, sl3, rfl, l3, c3, (.inl ⟨rfl, rfl⟩), .inl rfl⟩, k3⟩
  have F4 : FunD K "is_good" "is_good" (defArgs s_is_good) (defBody s_is_good) (defScope s_is_good) [] [] A4 (PySem.W.fnOf "is_good" "is_good" (defArgs s_is_good) (defBody s_is_good) (defScope s_is_good) .none kV4 dc4 pm4 an4 cd4 ct4) :=
    ⟨⟨oc4, od4, .none, kV4, dc4, pm4, an4, cd4, ct4, sl4, rfl, l4, c4, (.inl ⟨rfl, rfl⟩), .inl rfl⟩, k4⟩
  have F5 : FunD K "_law_bag" "_law_bag" (defArgs s__law_bag) (defBody s__law_bag) (defScope s__law_bag) [] [] A5 (PySem.W.fnOf "_law_bag" "_law_bag" (defArgs s__law_bag) (defBody s__law_bag) (defScope s__law_bag) .none kV5 dc5 pm5 an5 cd5 ct5) :=
    ⟨⟨oc5, od5, .none, kV5, dc5, pm5, an5, cd5, ct5, sl5, rfl, l5, c5, (.inl ⟨rfl, rfl⟩), .inl rfl⟩, k5⟩
  have F6 : FunD K "_law_take" "_law_take" (defArgs s__law_take) (defBody s__law_take) (defScope s__law_take) [] [] A6 (PySem.W.fnOf "_law_take" "_law_take" (defArgs s__law_take) (defBody s__law_take) (defScope s__law_take) .none kV6 dc6 pm6 an6 cd6 ct6) :=
    ⟨⟨oc6, od6, .none, kV6, dc6, pm6, an6, cd6, ct6, sl6, rfl, l6, c6, (.inl ⟨rfl, rfl⟩), .inl rfl⟩, k6⟩
  have F7 : FunD K "_law_one" "_law_one" (defArgs s__law_one) (defBody s__law_one) (defScope s__law_one) [] [] A7 (PySem.W.fnOf "_law_one" "_law_one" (defArgs s__law_one) (defBody s__law_one) (defScope s__law_one) .none kV7 dc7 pm7 an7 cd7 ct7) :=
    ⟨⟨oc7, od7, .none, kV7, dc7, pm7, an7, cd7, ct7, sl7, rfl, l7, c7, (.inl ⟨rfl, rfl⟩), .inl rfl⟩, k7⟩
  have F8 : FunD K "_law_lengths" "_law_lengths" (defArgs s__law_lengths) (defBody s__law_lengths) (defScope s__law_lengths) [] [] A8 (PySem.W.fnOf "_law_lengths" "_law_lengths" (defArgs s__law_lengths) (defBody s__law_lengths) (defScope s__law_lengths) .none kV8 dc8 pm8 an8 cd8 ct8) :=
    ⟨⟨oc8, od8, .none, kV8, dc8, pm8, an8, cd8, ct8, sl8, rfl, l8, c8, (.inl ⟨rfl, rfl⟩), .inl rfl⟩, k8⟩
  have F9 : FunD K "_law_excess" "_law_excess" (defArgs s__law_excess) (defBody s__law_excess) (defScope s__law_excess) [] [] A9 (PySem.W.fnOf "_law_excess" "_law_excess" (defArgs s__law_excess) (defBody s__law_excess) (defScope s__law_excess) .none kV9 dc9 pm9 an9 cd9 ct9) :=
    ⟨⟨oc9, od9, .none, kV9, dc9, pm9, an9, cd9, ct9, sl9, rfl, l9, c9, (.inl ⟨rfl, rfl⟩), .inl rfl⟩, k9⟩
  have F10 : FunD K "_law_right" "_law_right" (defArgs s__law_right) (defBody s__law_right) (defScope s__law_right) [] [] A10 (PySem.W.fnOf "_law_right" "_law_right" (defArgs s__law_right) (defBody s__law_right) (defScope s__law_right) .none kV10 dc10 pm10 an10 cd10 ct10) :=
    ⟨⟨oc10, od10, .none, kV10, dc10, pm10, an10, cd10, ct10, sl10, rfl, l10, c10, (.inl ⟨rfl, rfl⟩), .inl rfl⟩, k10⟩
  have F11 : FunD K "law" "law" (defArgs s_law) (defBody s_law) (defScope s_law) [] [] fa (PySem.W.fnOf "law" "law" (defArgs s_law) (defBody s_law) (defScope s_law) .none kV11 dc11 pm11 an11 cd11 ct11) :=
    ⟨⟨oc11, od11, .none, kV11, dc11, pm11, an11, cd11, ct11, sl11, rfl, l11, c11, (.inl ⟨rfl, rfl⟩), .inl rfl⟩, k11⟩
  have T : Txt K mg ⟨A0, (PySem.W.fnOf "is_integer" "is_integer" (defArgs s_is_integer) (defBody s_is_integer) (defScope s_is_integer) .none kV0 dc0 pm0 an0 cd0 ct0),
      A1, (PySem.W.fnOf "check_items" "check_items" (defArgs s_check_items) (defBody s_check_items) (defScope s_check_items) .none kV1 dc1 pm1 an1 cd1 ct1),
      A2, (PySem.W.fnOf "excess_of" "excess_of" (defArgs s_excess_of) (defBody s_excess_of) (defScope s_excess_of) .none kV2 dc2 pm2 an2 cd2 ct2),
      A3, (PySem.W.fnOf "kind_of" "kind_of" (defArgs s_kind_of) (defBody s_kind_of) (defScope s_kind_of) .none kV3 dc3 pm3 an3 cd3 ct3),
      A4, (PySem.W.fnOf "is_good" "is_good" (defArgs s_is_good) (defBody s_is_good) (defScope s_is_good) .none kV4 dc4 pm4 an4 cd4 ct4),
      A5, (PySem.W.fnOf "_law_bag" "_law_bag" (defArgs s__law_bag) (defBody s__law_bag) (defScope s__law_bag) .none kV5 dc5 pm5 an5 cd5 ct5),
      A6, (PySem.W.fnOf "_law_take" "_law_take" (defArgs s__law_take) (defBody s__law_take) (defScope s__law_take) .none kV6 dc6 pm6 an6 cd6 ct6),
      A7, (PySem.W.fnOf "_law_one" "_law_one" (defArgs s__law_one) (defBody s__law_one) (defScope s__law_one) .none kV7 dc7 pm7 an7 cd7 ct7),
      A8, (PySem.W.fnOf "_law_lengths" "_law_lengths" (defArgs s__law_lengths) (defBody s__law_lengths) (defScope s__law_lengths) .none kV8 dc8 pm8 an8 cd8 ct8),
      A9, (PySem.W.fnOf "_law_excess" "_law_excess" (defArgs s__law_excess) (defBody s__law_excess) (defScope s__law_excess) .none kV9 dc9 pm9 an9 cd9 ct9),
      A10, (PySem.W.fnOf "_law_right" "_law_right" (defArgs s__law_right) (defBody s__law_right) (defScope s__law_right) .none kV10 dc10 pm10 an10 cd10 ct10),
      fa, (PySem.W.fnOf "law" "law" (defArgs s_law) (defBody s_law) (defScope s_law) .none kV11 dc11 pm11 an11 cd11 ct11),
      tc0,
      tc1,
      tc2⟩ :=
   ⟨F0,
    F0.bindsN fun _ _ _ _ _ _ us hl => match us, hl with | [_], _ => rfl,
    PySem.W.mg_of X G a0,
    F1,
    F1.bindsN fun _ _ _ _ _ _ us hl => match us, hl with | [_, _, _], _ => rfl,
    PySem.W.mg_of X G a1,
    F2,
    F2.bindsN fun _ _ _ _ _ _ us hl => match us, hl with | [_], _ => rfl,
    PySem.W.mg_of X G a2,
    F3,
    F3.bindsN fun _ _ _ _ _ _ us hl => match us, hl with | [_], _ => rfl,
    PySem.W.mg_of X G a3,
    F4,
    F4.bindsN fun _ _ _ _ _ _ us hl => match us, hl with | [_], _ => rfl,
    PySem.W.mg_of X G a4,
    F5,
    F5.bindsN fun _ _ _ _ _ _ us hl => match us, hl with | [_, _], _ => rfl,
    PySem.W.mg_of X G a5,
    F6,
    F6.bindsN fun _ _ _ _ _ _ us hl => match us, hl with | [_, _], _ => rfl,
    PySem.W.mg_of X G a6,
    F7,
    F7.bindsN fun _ _ _ _ _ _ us hl => match us, hl with | [_, _], _ => rfl,
    PySem.W.mg_of X G a7,
    F8,
    F8.bindsN fun _ _ _ _ _ _ us hl => match us, hl with | [_, _], _ => rfl,
    PySem.W.mg_of X G a8,
    F9,
    F9.bindsN fun _ _ _ _ _ _ us hl => match us, hl with | [_], _ => rfl,
    PySem.W.mg_of X G a9,
    F10,
    F10.bindsN fun _ _ _ _ _ _ us hl => match us, hl with | [_], _ => rfl,
    PySem.W.mg_of X G a10,
    F11,
    F11.bindsN fun _ _ _ _ _ _ us hl => match us, hl with | [_], _ => rfl,
    PySem.W.mg_of X G a11,
    ⟨_, kbnN F4 (fun us ws => [ws.getD 0 .none]) (fun r1 r3 => (.cons (valsGet r3 0) .nil)) fun _ _ _ _ _ _ us ws hl hw => match us, ws, hl, hw with | [], [_], _, _ => rfl⟩,
    ⟨_, kbnN F3 (fun us ws => [ws.getD 0 .none]) (fun r1 r3 => (.cons (valsGet r3 0) .nil)) fun _ _ _ _ _ _ us ws hl hw => match us, ws, hl, hw with | [], [_], _, _ => rfl⟩,
    PySem.W.mg_of X G co0,
    PySem.W.mg_of X G co1,
    PySem.W.mg_of X G co2,
    PySem.W.mg_none_of X G z_isinstance,
    PySem.W.mg_none_of X G z_int,
    PySem.W.mg_none_of X G z_bool,
    PySem.W.mg_none_of X G z_enumerate,
    PySem.W.mg_none_of X G z_len,
    PySem.W.mg_none_of X G z_list,
    PySem.W.mg_none_of X G z_tuple,
    PySem.W.mg_none_of X G z_sum,
    PySem.W.mg_none_of X G z_abs,
    PySem.W.mg_none_of X G z_range,
    PySem.W.mg_none_of X G z_repr,
    PySem.W.mg_none_of X G z_max,
    PySem.W.mg_none_of X G z_min⟩
  exact ⟨_, fun s v => F11.bindsA (ps := ["_law_script"]) (fun _ _ _ _ _ _ us hl => match us, hl with | [_], _ => rfl) s [v] rfl, fun base _ _ => ok_law T⟩
theorem walk {l : PySem.W.OpenLaw} {q : Program} {loose : List Str} {XP : (Str → Option Value) → Heap → Prop} {YP : World → Heap → Prop} {d : DefRec} {K : Params → PySem.W.Frag}
    (hn : l.most = some 63) (hdf : d.params.defaults = []) (hY : ∀ (w : World) (h : Heap), YP w h → (K w.params).In h)
    (F : ∀ (w : World) (mg : Str → Option Value) (fa : Addr) (h : Heap), (K w.params).In h → h.Ns mainGlobals mg → mg d.name = some (.ref fa) →
      ∃ fd : FuncData, (∀ (s : Shared) (u : Value), BindsTo s fd ⟨[u], []⟩ [("_law_script", u)]) ∧
        ∀ base : Heap, (K w.params).In base → base.Ns mainGlobals mg → FnG l.prog w (K w.params) mg base 6 fa fd ["_law_script"] (spLaw (K w.params))) :
    PySem.W.WalkO q loose XP YP l.row.toRowW d [] (fun f vs => PySem.call f vs) :=
  walk_G (n := 63) (k := 6) (x := "_law_script") (sp := fun w => spLaw (K w.params)) hn (by decide) hdf ⟨rfl, by decide, by decide⟩ hY F
    (fun _ _ a ns hl _ hS => ⟨a, ns, rfl, hS, hl, fun _ => rfl⟩)
end Z
open PySem PySem.W PyProof.Rows
set_option maxRecDepth 100000 in
set_option maxHeartbeats 0 in
theorem PySem.Challenge.cw_deflatehall_k05_kinds_of_lengths_holds : PySem.Challenge.rw_deflatehall_k05_kinds_of_lengths.Holds := by
  w_on; o_law; k_head; (case hw => w_witness2)
  k_fill
  refine Z.walk (l := PySem.Challenge.rw_deflatehall_k05_kinds_of_lengths) rfl rfl (fun w h Y => PySem.W.kIn_of Y) ?F
  case F =>
    intro w mg fa h KX G hmg
    refine' Z.all_mk KX G hmg ?a0 ?l0 ?c0 ?k0 ?a1 ?l1 ?c1 ?k1 ?a2 ?l2 ?c2 ?k2 ?a3 ?l3 ?c3 ?k3 ?a4 ?l4 ?c4 ?k4 ?a5 ?l5 ?c5 ?k5 ?a6 ?l6 ?c6 ?k6 ?a7 ?l7 ?c7 ?k7 ?a8 ?l8 ?c8 ?k8 ?a9 ?l9 ?c9 ?k9 ?a10 ?l10 ?c10 ?k10 ?a11 ?l11 ?c11 ?k11 ?co0 ?co1 ?co2 ?z_isinstance ?z_int ?z_bool ?z_enumerate ?z_len ?z_list ?z_tuple ?z_sum ?z_abs ?z_range ?z_repr ?z_max ?z_min
    (case a0 => k_is)
    (case l0 => k_is)
    (case c0 => k_is)
    (case k0 => k_is)
    (case a1 => k_is)
    (case l1 => k_is)
    (case c1 => k_is)
    (case k1 => k_is)
    (case a2 => k_is)
    (case l2 => k_is)
    (case c2 => k_is)
    (case k2 => k_is)
    (case a3 => k_is)
    (case l3 => k_is)
    (case c3 => k_is)
    (case k3 => k_is)
    (case a4 => k_is)
    (case l4 => k_is)
    (case c4 => k_is)
    (case k4 => k_is)
    (case a5 => k_is)
    (case l5 => k_is)
    (case c5 => k_is)
    (case k5 => k_is)
    (case a6 => k_is)
    (case l6 => k_is)
    (case c6 => k_is)
    (case k6 => k_is)
    (case a7 => k_is)
    (case l7 => k_is)
    (case c7 => k_is)
    (case k7 => k_is)
    (case a8 => k_is)
    (case l8 => k_is)
    (case c8 => k_is)
    (case k8 => k_is)
    (case a9 => k_is)
    (case l9 => k_is)
    (case c9 => k_is)
    (case k9 => k_is)
    (case a10 => k_is)
    (case l10 => k_is)
    (case c10 => k_is)
    (case k10 => k_is)
    (case a11 => k_is)
    (case l11 => k_is)
    (case c11 => k_is)
    (case k11 => k_is)
    (case co0 => k_is)
    (case co1 => k_is)
    (case co2 => k_is)
    (case z_isinstance => k_is)
    (case z_int => k_is)
    (case z_bool => k_is)
    (case z_enumerate => k_is)
    (case z_len => k_is)
    (case z_list => k_is)
    (case z_tuple => k_is)
    (case z_sum => k_is)
    (case z_abs => k_is)
    (case z_range => k_is)
    (case z_repr => k_is)
    (case z_max => k_is)
    (case z_min => k_is)
