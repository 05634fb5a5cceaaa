import PyProof.Rows.All
import Wide.All
import OpenK.AllK
import Wide.FinOn
import HandS.ForMost
import HandS.Defaults
import HandS.IsInst
import HandS.TupAny
import HandS.Codes
import HandS.Wide
import HandS.Walk
import HandS.More
import KE.GoesMore
import HandS.SetFor
import HandS.Strs
import PySem.Challenge.RW_deflatehall_k20_bits_of_tokens
set_option Elab.async false
set_option linter.all false
set_option maxRecDepth 100000
set_option maxHeartbeats 4000000
/-! Ghost heaps over the hand layer: what stands for good (G), what may change (W). -/
namespace Z
open PySem PySem.Spec PyProof.Rows L2

/-- it is o -/
def Is (o : HO) : HO → Prop := fun x => x = o
/-- what may change: an address, and what holds of the object there -/
abbrev Wl := List (Addr × (HO → Prop))
structure Wd (G : Hp) (W : Wl) (H : Hp) : Prop where
  ex : Same G H
  own : ∀ p ∈ W, G p.1 = none ∧ ∃ o, H p.1 = some o ∧ p.2 o
  nd : (W.map (·.1)).Nodup

theorem same_upd {H : Hp} {p : Addr} {o : HO} (h : H p = none) : Same H (upd H p o) := fun a u e => by
  rw [upd_ne (ne_of_none e h)]
  exact e
section
variable {G G' H H' : Hp} {W W1 W2 : Wl} {a p : Addr} {o : HO} {P P' : HO → Prop}
theorem Wd.free (w : Wd G W H) (h : H p = none) : G p = none := w.ex.free h
theorem Wd.ext (w : Wd G W H) (e : Same H H') : Wd G W H' :=
  ⟨w.ex.trans e, fun q hq => ⟨(w.own q hq).1, let ⟨o, h1, h2⟩ := (w.own q hq).2; ⟨o, e _ _ h1, h2⟩⟩, w.nd⟩
theorem Wd.at (w : Wd G W H) (h : G a = some o) : H a = some o := w.ex _ _ h
theorem Wd.neOwn (w : Wd G W H) (hp : H p = none) {q : Addr × (HO → Prop)} (hq : q ∈ W) : q.1 ≠ p := by
  obtain ⟨_, o, h, _⟩ := w.own q hq
  exact ne_of_none h hp
/-- a new object that stands for good -/
theorem Wd.new (w : Wd G W H) (hp : H p = none) : Wd (upd G p o) W (upd H p o) := by
  refine ⟨fun b u e => ?_, fun q hq => ?_, w.nd⟩
  · by_cases hb : b = p
    · subst hb
      rw [upd_same] at e ⊢
      exact e
    · rw [upd_ne hb] at e ⊢
      exact w.ex _ _ e
  · have hn := w.neOwn hp hq
    rw [upd_ne hn, upd_ne hn]
    exact w.own q hq
/-- a new object that may change -/
theorem Wd.newM (w : Wd G W H) (hp : H p = none) (h : P o) : Wd G ((p, P) :: W) (upd H p o) := by
  refine ⟨w.ex.trans (same_upd hp), fun q hq => ?_, ?_⟩
  · rcases List.mem_cons.mp hq with rfl | hq
    · exact ⟨w.free hp, o, upd_same, h⟩
    · have hn := w.neOwn hp hq
      rw [upd_ne hn]
      exact w.own q hq
  · rw [List.map_cons, List.nodup_cons]
    refine ⟨fun hm => ?_, w.nd⟩
    obtain ⟨q, hq, e⟩ := List.mem_map.mp hm
    exact w.neOwn hp hq e
theorem mem_mid {α : Type} {A B : List α} {x : α} : x ∈ A ++ x :: B := List.mem_append_right _ List.mem_cons_self
/-- the object at a changes -/
theorem Wd.put (w : Wd G (W1 ++ (a, P) :: W2) H) (h : P' o) : Wd G (W1 ++ (a, P') :: W2) (upd H a o) := by
  have h0 := w.own (a, P) mem_mid
  have nd : ((W1 ++ (a, P) :: W2).map (·.1)).Nodup := w.nd
  rw [List.map_append, List.map_cons, List.nodup_append] at nd
  obtain ⟨n1, n2, n3⟩ := nd
  rw [List.nodup_cons] at n2
  refine ⟨fun b u e => ?_, fun q hq => ?_, ?_⟩
  · have hb : b ≠ a := ne_of_none e h0.1
    rw [upd_ne hb]
    exact w.ex _ _ e
  · rcases List.mem_append.mp hq with hq | hq
    · have hn : q.1 ≠ a := fun z => n3 _ (List.mem_map.mpr ⟨q, hq, z⟩) _ List.mem_cons_self rfl
      rw [upd_ne hn]
      exact w.own q (List.mem_append_left _ hq)
    · rcases List.mem_cons.mp hq with rfl | hq
      · exact ⟨h0.1, o, upd_same, h⟩
      · have hn : q.1 ≠ a := fun z => n2.1 (List.mem_map.mpr ⟨q, hq, z⟩)
        rw [upd_ne hn]
        exact w.own q (List.mem_append_right _ (List.mem_cons_of_mem _ hq))
  · rw [List.map_append, List.map_cons, List.nodup_append]
    exact ⟨n1, List.nodup_cons.mpr n2, n3⟩
/-- what holds there always is kept -/
theorem Wd.put' (w : Wd G W H) (hm : (a, P) ∈ W) (h : P o) : Wd G W (upd H a o) := by
  obtain ⟨A, B, rfl⟩ := List.append_of_mem hm
  exact w.put h
theorem Wd.putI (w : Wd G (W1 ++ (a, P) :: W2) H) : Wd G (W1 ++ (a, Is o) :: W2) (upd H a o) := w.put rfl
/-- the first one changes -/
theorem Wd.put1 (w : Wd G ((a, P) :: W) H) : Wd G ((a, Is o) :: W) (upd H a o) := Wd.putI (W1 := []) w
theorem Wd.get (w : Wd G W H) (hm : (a, P) ∈ W) : ∃ o, H a = some o ∧ P o := (w.own _ hm).2
theorem Wd.drop (w : Wd G (W1 ++ (a, P) :: W2) H) : Wd G (W1 ++ W2) H := by
  refine ⟨w.ex, fun q hq => w.own q ?_, ?_⟩
  · rcases List.mem_append.mp hq with hq | hq
    · exact List.mem_append_left _ hq
    · exact List.mem_append_right _ (List.mem_cons_of_mem _ hq)
  · have nd := w.nd
    rw [List.map_append, List.map_cons] at nd
    rw [List.map_append]
    exact nd.sublist (List.Sublist.append_left (List.sublist_cons_self _ _) _)
theorem Wd.drop1 (w : Wd G ((a, P) :: W) H) : Wd G W H := Wd.drop (W1 := []) w
/-- what does not change any more stands for good -/
theorem Wd.freeze (w : Wd G (W1 ++ (a, P) :: W2) H) : ∃ o, P o ∧ H a = some o ∧ Same G (upd G a o) ∧ Wd (upd G a o) (W1 ++ W2) H := by
  obtain ⟨g, o, h, ho⟩ := w.own (a, P) mem_mid
  have nd : ((W1 ++ (a, P) :: W2).map (·.1)).Nodup := w.nd
  rw [List.map_append, List.map_cons, List.nodup_append] at nd
  obtain ⟨n1, n2, n3⟩ := nd
  rw [List.nodup_cons] at n2
  refine ⟨o, ho, h, same_upd g, fun b u e => ?_, fun q hq => ?_, w.drop.nd⟩
  · by_cases hb : b = a
    · subst hb
      rw [upd_same] at e
      cases e
      exact h
    · rw [upd_ne hb] at e
      exact w.ex _ _ e
  · have hn : q.1 ≠ a := by
      rcases List.mem_append.mp hq with hq | hq
      · exact fun z => n3 _ (List.mem_map.mpr ⟨q, hq, z⟩) _ List.mem_cons_self rfl
      · exact fun z => n2.1 (List.mem_map.mpr ⟨q, hq, z⟩)
    rw [upd_ne hn]
    refine w.own q ?_
    rcases List.mem_append.mp hq with hq | hq
    · exact List.mem_append_left _ hq
    · exact List.mem_append_right _ (List.mem_cons_of_mem _ hq)
theorem Wd.freeze1 (w : Wd G ((a, P) :: W) H) : ∃ o, P o ∧ H a = some o ∧ Same G (upd G a o) ∧ Wd (upd G a o) W H := Wd.freeze (W1 := []) w
theorem Wd.imp (w : Wd G (W1 ++ (a, P) :: W2) H) (h : ∀ o, P o → P' o) : Wd G (W1 ++ (a, P') :: W2) H := by
  have h0 := w.own (a, P) mem_mid
  refine ⟨w.ex, fun q hq => ?_, ?_⟩
  · rcases List.mem_append.mp hq with hq | hq
    · exact w.own q (List.mem_append_left _ hq)
    · rcases List.mem_cons.mp hq with rfl | hq
      · obtain ⟨g, o, e, ho⟩ := h0
        exact ⟨g, o, e, h _ ho⟩
      · exact w.own q (List.mem_append_right _ (List.mem_cons_of_mem _ hq))
  · have nd := w.nd
    rw [List.map_append, List.map_cons] at nd ⊢
    exact nd
theorem Wd.perm {V' : Wl} (w : Wd G W H) (h : W.Perm V') : Wd G V' H :=
  ⟨w.ex, fun q hq => w.own q (h.mem_iff.mpr hq), (h.map _).nodup_iff.mp w.nd⟩
end

/-! ### data -/
section
variable {K : PySem.W.Frag} {G G' : Hp}
theorem seqT {a : Addr} {xs : List V} (e : Same G G') (h : SqT K G a xs) : SqT K G' a xs := by
  rcases h with (h | ⟨o, h⟩) | h
  · exact .inl (.inl (e _ _ h))
  · exact .inl (.inr ⟨o, e _ _ h⟩)
  · exact .inr h
mutual
theorem dmono (e : Same G G') : ∀ {d : PyData} {v : V}, Dp K G v d → Dp K G' v d
  | _, _, .non => .non
  | _, _, .bl b => .bl b
  | _, _, .int i => .int i
  | _, _, .str x => .str x
  | _, _, .lst h r => .lst (e.seq h) (dmonoAll e r)
  | _, _, .tup h r => .tup (seqT e h) (dmonoAll e r)
theorem dmonoAll (e : Same G G') : ∀ {ds : List PyData} {vs : List V}, DpAll K G vs ds → DpAll K G' vs ds
  | _, _, .nil => .nil
  | _, _, .cons h r => .cons (dmono e h) (dmonoAll e r)
end
end

/-! ### how arguments bind -/
theorem bAll {K : PySem.W.Frag} {fd : FuncData} {ps : List Str} (h : ∃ ds, Vals ([] : List V) ds ∧ Binds K fd ps ds) : Binds K fd ps [] := by
  obtain ⟨ds, r, b⟩ := h
  cases r
  exact b
theorem valsGet {vs : List V} {us : List Value} (r : Vals vs us) (i : Nat) : L2.RelV (vs.getD i .non) (us.getD i .none) := by
  induction r generalizing i with
  | nil => exact rfl
  | cons h t ih =>
    cases i with
    | zero => simpa using h
    | succ i => simpa using ih i
section
variable {K : PySem.W.Frag} {x qual : Str} {params : Arguments} {body : List Stmt} {scope : Scope} {dvs : List V} {f : Addr} {fd : FuncData} {ps ks : List Str} {n : Nat}
theorem kbnN (F : FunD K x qual params body scope [] [] f fd) (g : List Value → List Value → List Value) {gV : List V → List V → List V}
    (rel : ∀ {vs : List V} {us : List Value} {zs : List V} {ws : List Value}, Vals vs us → Vals zs ws → Vals (gV vs zs) (g us ws))
    (h : ∀ (kV doc pm : Value) (an : Option Addr) (cdv ct : Value) (us ws : List Value), us.length = n → ws.length = ks.length →
      bindArgs (PySem.W.fnOf x qual params body scope .none kV doc pm an cdv ct) ⟨us, ks.zip ws⟩ = pure (ps.zip (g us ws))) : KBn K fd ps n ks g gV := by
  obtain ⟨oc, od, dV, kV, doc, pm, an, cdv, ct, osl, rfl, lk, hcd, hD, hK⟩ := F.ex
  rcases hD with ⟨_, rfl⟩ | ⟨e, _⟩
  · exact ⟨fun s us ws _ l1 l2 => .of_eq (h kV doc pm an cdv ct us ws l1 l2), rel⟩
  · exact absurd rfl e
theorem kbnD (F : FunD K x qual params body scope dvs [] f fd) (hd : dvs ≠ []) (g : List Value → List Value → List Value → List Value) {gV : List V → List V → List V}
    (rel : ∀ {vs : List V} {us : List Value} {its : List Value} {zs : List V} {ws : List Value}, Vals vs us → Vals dvs its → Vals zs ws → Vals (gV vs zs) (g us its ws))
    (h : ∀ (T : Addr) (kV doc pm : Value) (an : Option Addr) (cdv ct : Value) (us its ws : List Value), us.length = n → its.length = dvs.length → ws.length = ks.length →
      ∃ k, bindArgs (PySem.W.fnOf x qual params body scope (.ref T) kV doc pm an cdv ct) ⟨us, ks.zip ws⟩ = seqItems? (.ref T) >>= k ∧ k (some its.toArray) = pure (ps.zip (g us its ws))) : ∃ g', KBn K fd ps n ks g' gV := by
  obtain ⟨oc, od, dV, kV, doc, pm, an, cdv, ct, osl, rfl, lk, hcd, hD, hK⟩ := F.ex
  rcases hD with ⟨e, _⟩ | ⟨_, T, o, its, m, rfl, lT, oT, rT⟩
  · exact absurd e hd
  · refine ⟨fun us ws => g us its ws, fun s us ws X l1 l2 => ?_, fun r1 r3 => rel r1 rT r3⟩
    obtain ⟨k, e1, e2⟩ := h T kV doc pm an cdv ct us its ws l1 rT.length.symm l2
    refine BindsTo.of_looks fun M => ?_
    rw [e1]
    exact looks_items X lT oT (.of_pure e2)
end
section
variable {X : Cx} {CX : CXT} {k n : Nat} {f : Addr} {fd : FuncData} {ps ks : List Str} {sp : Sp} {E : XK} {x : Str} {p pos : Pos} {kws : List Keyword} {tk : TA} {g : List Value → List Value → List Value} {gV : List V → List V → List V}
/-- f(k = v, ..): keywords alone -/
theorem pe_callN0 (F : FnOk X.prog X.w X.K X.mg X.base CX k f fd ps sp) (hr : Room k X.A) (hg : Gl X x) (hm : X.mg x = some (.ref f)) (hk : PySem.W.keepIn X.K (.ref f) = true) (hb : KBn X.K fd ps 0 ks g gV) (hx : Passes CX X E)
    (hkw : PK X kws tk) (hall : (backToKw pos (keywordEach kws X.env)).all (·.1.isSome) = true := by rfl) (hks : (backToKw pos (keywordEach kws X.env)).filterMap (·.1) = ks := by rfl)
    (hdb : (x == ("__debug__" : Str)) = false := by decide) (hpl : ((backTo pos (starEach [] X.env)).any (·.1) || (backToKw pos (keywordEach kws X.env)).any (·.1.isNone)) = false := by rfl) :
    PE X (.Call (.Name x p) [] kws pos) (tCallN 0 ks.length sp gV E tNil tk) := by
  refine ⟨fun pins s σ H Q I h => wpAny_Call_Name_kw (ld_glob I hg hm ?_ hdb)⟩
  refine PySem.W.callWith_KW0 (h₀ := X.base) I.ok.mod.kin hk hall (thn (hkw.run pos pins _ σ H _ (I.tok _) h) fun ws s2 ⟨zs, H2, I2, rz, l1, l2, q2⟩ => ⟨I2.kIn, ?_⟩) hpl
  rw [hks]
  exact run_fnN (us := []) (vs := []) F hr hb hx I2 .nil rz rfl l2 q2
end
section
variable {X : Cx}
def CPowW (i j : Int) : Prop := 0 ≤ j ∧ (Builtin.Int.intBits i : Int) * j ≤ 2 ^ 27
theorem op_powW : OpR X (binaryOp .Pow) (rI CPowW fun i j => .int (i ^ j.toNat)) := opI fun _ _ _ _ _ _ _ hc q => PyProof.Rows.pow_int hc.1 hc.2 q
end

/-! ### readings, step by step (what is asked, from the left) -/
section
variable {K : PySem.W.Frag} {σ : L2.St} {H : Hp} {Q : VK} {D : Ends} {i : Nat} {v x y : V} {ta tb te : TE} {t u : TS} {tt tu : TT} {QT : Bool → Hp → Prop} {QA : List V → Hp → Prop} {QS nx bk ct : L2.St → Hp → Prop} {rt : VK} {r : R2} {tr : TA} {xs : List V}
theorem st_var (h : σ[i]? = some (some v)) (q : Q v H) : tVar i σ H Q := ⟨v, h, q⟩
theorem st_c (q : Q v H) : tC v σ H Q := q
theorem st_op (h : ta σ H fun x H1 => tb σ H1 fun y H2 => r x y H2 Q) : tOp r ta tb σ H Q := h
theorem st_un {r : V → Hp → VK → Prop} (h : ta σ H fun x H1 => r x H1 Q) : tUn r ta σ H Q := h
theorem st_i0 {g : Int → Int → V} {a b : Int} (q : Q (g a b) H) : rI0 g (.int a) (.int b) H Q := ⟨a, b, rfl, rfl, q⟩
theorem st_i {C : Int → Int → Prop} {g : Int → Int → V} {a b : Int} (c : C a b) (q : Q (g a b) H) : rI C g (.int a) (.int b) H Q := ⟨a, b, rfl, rfl, c, q⟩
theorem st_u {g : Int → V} {a : Int} (q : Q (g a) H) : rU g (.int a) H Q := ⟨a, rfl, q⟩
theorem st_eq (h : scal x y = true) (q : Q (.bl (decide (x = y))) H) : rEq x y H Q := ⟨h, q⟩
theorem st_ne (h : scal x y = true) (q : Q (.bl (!decide (x = y))) H) : rNe x y H Q := ⟨h, q⟩
theorem st_test (h : te σ H fun x H1 => ∃ k, x = .bl k ∧ QT k H1) : tTest te σ H QT := h
theorem st_tB (h : te σ H fun x H1 => ∃ k, x = .bl k ∧ QT k H1) : tB te σ H QT := h
theorem st_bl {b : Bool} {P : Bool → Prop} (q : P b) : ∃ k, V.bl b = .bl k ∧ P k := ⟨b, rfl, q⟩
theorem st_not (h : tt σ H fun c H1 => QT (!c) H1) : tNot tt σ H QT := h
theorem st_and (h : tt σ H fun c H1 => if c = true then tu σ H1 QT else QT false H1) : tAnd tt tu σ H QT := h
theorem st_or (h : tt σ H fun c H1 => if c = true then QT true H1 else tu σ H1 QT) : tOr tt tu σ H QT := h
theorem st_andV (h : ta σ H fun x H1 => ∃ c, x = .bl c ∧ if c = true then tb σ H1 Q else Q (.bl false) H1) : tAndV ta tb σ H Q := h
theorem st_orV (h : ta σ H fun x H1 => ∃ c, x = .bl c ∧ if c = true then Q (.bl true) H1 else tb σ H1 Q) : tOrV ta tb σ H Q := h
theorem st_notV (h : ta σ H fun x H1 => ∃ c, x = .bl c ∧ Q (.bl (!c)) H1) : tNotV ta σ H Q := h
theorem st_ifE (h : tt σ H fun c H1 => if c = true then ta σ H1 Q else tb σ H1 Q) : tIf tt ta tb σ H Q := h
theorem st_nil (q : QA [] H) : tNil σ H QA := q
theorem st_cons (h : te σ H fun x H1 => tr σ H1 fun xs H2 => QA (x :: xs) H2) : tCons te tr σ H QA := h
theorem st_cb {r : List V → Hp → VK → Prop} (h : tr σ H fun vs H1 => r vs H1 Q) : tCB r tr σ H Q := h
theorem st_seq (h : t ⟨u ⟨nx, rt, bk, ct⟩, rt, bk, ct⟩ σ H) : tSeq t u ⟨nx, rt, bk, ct⟩ σ H := h
theorem st_next (q : nx σ H) : tNext ⟨nx, rt, bk, ct⟩ σ H := q
theorem st_brk (q : bk σ H) : tBreak ⟨nx, rt, bk, ct⟩ σ H := q
theorem st_cont (q : ct σ H) : tCont ⟨nx, rt, bk, ct⟩ σ H := q
theorem st_drop (h : te σ H fun _ H1 => nx σ H1) : tDrop te ⟨nx, rt, bk, ct⟩ σ H := h
theorem st_ret (h : te σ H rt) : tRet te ⟨nx, rt, bk, ct⟩ σ H := h
theorem st_retN (h : rt .non H) : tRetN ⟨nx, rt, bk, ct⟩ σ H := h
theorem st_if (h : tt σ H fun b H1 => if b = true then t ⟨nx, rt, bk, ct⟩ σ H1 else u ⟨nx, rt, bk, ct⟩ σ H1) : tIfS tt t u ⟨nx, rt, bk, ct⟩ σ H := h
theorem st_asg {g : TG} (h : te σ H fun x H1 => g x σ H1 nx) : tAsg te g ⟨nx, rt, bk, ct⟩ σ H := h
theorem st_gname (q : QS (σ.set i (some v)) H) : gName i v σ H QS := q
theorem st_par {j : Nat} (h : tr σ H fun vs H1 => ∃ v w, vs = [v, w] ∧ nx ((σ.set i (some v)).set j (some w)) H1) : tPar i j tr ⟨nx, rt, bk, ct⟩ σ H := h
theorem st_two {w : V} {P : V → V → Prop} (q : P v w) : ∃ v' w', [v, w] = [v', w'] ∧ P v' w' := ⟨v, w, rfl, q⟩
theorem st_call {sp : Sp} {dvs : List V} {E : XK} (h : tr σ H fun vs H1 => sp (vs ++ dvs) H1 Q E) : tCall sp dvs E tr σ H Q := h
theorem st_callN {n m : Nat} {sp : Sp} {gV : List V → List V → List V} {E : XK} {tk : TA} (h : tr σ H fun vs H1 => tk σ H1 fun zs H2 => vs.length = n ∧ zs.length = m ∧ sp (gV vs zs) H2 Q E) : tCallN n m sp gV E tr tk σ H Q := h
/-- a new list, a new tuple at a free place -/
def NewO (o : HO) (H : Hp) (Q : VK) : Prop := ∀ p, H p = none → Q (.ref p) (upd H p o)
theorem st_lst (h : tr σ H fun xs H1 => xs.length ≤ sizeLine ∧ NewO (.lst xs) H1 Q) : tLst tr σ H Q := h
theorem st_tup (h : tr σ H fun xs H1 => xs.length ≤ sizeLine ∧ NewO (.tup xs) H1 Q) : tTup tr σ H Q := h
theorem small {n : Nat} (h : n ≤ 1000000) : n ≤ sizeLine := Nat.le_trans h (by decide)
theorem small' {n : Nat} (h : n ≤ 1000000) : n < sizeLine := Nat.lt_of_le_of_lt h (by decide)
/-- it stands for good -/
theorem NewO.good {o : HO} {G : Hp} {W : Wl} (w : Wd G W H) (k : ∀ p G' H', Same G G' → Wd G' W H' → G' p = some o → Q (.ref p) H') : NewO o H Q := fun p hp =>
  k p (upd G p o) (upd H p o) (same_upd (w.free hp)) (w.new hp) upd_same
/-- it may change -/
theorem NewO.own {o : HO} {G : Hp} {W : Wl} (w : Wd G W H) (k : ∀ p H', Wd G ((p, Is o) :: W) H' → Q (.ref p) H') : NewO o H Q := fun p hp => k p (upd H p o) (w.newM hp rfl)
end

/-! ### a def that lets nothing out -/
section
variable {P : Program} {w : World} {K : PySem.W.Frag} {mg : Str → Option Value} {base : Heap} {x qual : Str} {params : Arguments} {body : List Stmt} {scope : Scope} {dvs : List V} {kws : List (Str × V)} {f : Addr} {fd : FuncData}
theorem okD {N ps : List Str} {k : Nat} {sp : Sp} (F : FunD K x qual params body scope dvs kws f fd) (S : FnScope N ps scope) (len : ∀ vs H Q E, sp vs H Q E → vs.length = ps.length)
    (hb : ∀ (cdv : Value) (A : Around) (outer : List Env) (s : Shared) (H : Hp) (vs : List V) (Q : VK) (E : XK), Room k (A.deeper (envOfC qual scope s.heap.objs.size f cdv)) → sp vs H Q E →
      ∃ t, PSs (cxOf CX0 P w K mg base N qual scope f cdv A outer s H E).nox body t ∧ t { nx := fun _ H' => Q .non H', rt := Q } (start N vs) H) : FnOk P w K mg base CX0 (k + 1) f fd ps sp :=
  F.ok S len fun cdv A outer s H vs Q E hr h => let ⟨t, a, q⟩ := hb cdv A outer s H vs Q E hr h; ⟨t, a.nox, q⟩
end
/-! ### loops -/
def LoopQ (J : It) (g : TG) (tb : TS) (nx : L2.St → Hp → Prop) (rt : VK) (σ : L2.St) (H : Hp) : Prop := ∃ W : Nat → Nat → L2.St → Hp → Prop, (∃ m, W 0 m σ H) ∧ ∀ i m σ H, W i m σ H →
  (J.stop i H ∧ nx σ H) ∨ (J.go i H ∧ ∃ N : L2.St → Hp → Prop, (∀ σ' H', N σ' H' → ∃ m', m' < m ∧ W (i + 1) m' σ' H') ∧ ∀ x H', J.yld i H x H' → g x σ H' fun σ2 H2 => tb ⟨N, rt, nx, N⟩ σ2 H2)
/-- what holds between two turns, over a G that grows -/
def Btw (I : Nat → L2.St → Hp → Wl → Prop) (G : Hp) (i : Nat) : L2.St → Hp → Prop := fun σ H => ∃ G' W, Same G G' ∧ Wd G' W H ∧ I i σ G' W
section
variable {K : PySem.W.Frag} {σ : L2.St} {H G : Hp} {W : Wl} {nx bk ct : L2.St → Hp → Prop} {rt : VK} {g : TG} {tb : TS} {a b : Addr} {xs ys : List V} {n : Nat}
theorem st_for {wi : TI} (h : wi σ H fun J H1 => LoopQ J g tb nx rt σ H1) : tFor wi g tb ⟨nx, rt, bk, ct⟩ σ H := h
theorem st_btw {I : Nat → L2.St → Hp → Wl → Prop} {G' : Hp} {i : Nat} (e : Same G G') (w : Wd G' W H) (h : I i σ G' W) : Btw I G i σ H := ⟨G', W, e, w, h⟩
theorem loop_go {J : It} {Gp : Hp → Prop} {Y : Nat → Hp → V → Hp → Prop} (wk : Walk J n Gp Y) (I : Nat → L2.St → Hp → Wl → Prop) (w : Wd G W H) (hG : ∀ G' W' H', Same G G' → Wd G' W' H' → Gp H') (h0 : I 0 σ G W)
    (hs : ∀ i x σ' G' W' H' H'', i < n → Same G G' → Wd G' W' H' → I i σ' G' W' → Y i H' x H'' → g x σ' H'' fun σ2 H2 => tb ⟨Btw I G (i + 1), rt, nx, Btw I G (i + 1)⟩ σ2 H2)
    (hd : ∀ σ' G' W' H', Same G G' → Wd G' W' H' → I n σ' G' W' → nx σ' H') : LoopQ J g tb nx rt σ H :=
  for_it (D := ⟨nx, rt, nx, nx⟩) wk (Btw I G) ⟨G, W, Same.refl _, w, h0⟩ (fun _ _ _ _ ⟨_, _, e, w', _⟩ => hG _ _ _ e w') (fun i x σ' H' H'' hi ⟨G', W', e, w', h⟩ y => hs i x σ' G' W' H' H'' hi e w' h y) fun σ' H' ⟨G', W', e, w', h⟩ => hd σ' G' W' H' e w' h
theorem seq_up (w : Wd G W H) (h : SqL K G a xs) : SqL K H a xs := w.ex.seq h
theorem tup_up (w : Wd G W H) (h : SqT K G a xs) : SqT K H a xs := seqT w.ex h
/-- for x in a list -/
theorem for_l (hx : SqL K G a xs) (I : Nat → L2.St → Hp → Wl → Prop) (w : Wd G W H) (h0 : I 0 σ G W)
    (hs : ∀ i x σ' G' W' H', xs[i]? = some x → Same G G' → Wd G' W' H' → I i σ' G' W' → g x σ' H' fun σ2 H2 => tb ⟨Btw I G (i + 1), rt, nx, Btw I G (i + 1)⟩ σ2 H2)
    (hd : ∀ σ' G' W' H', Same G G' → Wd G' W' H' → I xs.length σ' G' W' → nx σ' H') : ∃ a', V.ref a = .ref a' ∧ (∃ xs, SqL K H a' xs) ∧ LoopQ (Itl K a') g tb nx rt σ H :=
  ⟨a, rfl, ⟨xs, seq_up w hx⟩, loop_go walk_list I w (fun _ _ _ e w' => seq_up w' (e.seq hx)) h0 (fun i x σ' G' W' H' H'' _ e w' h y => by obtain ⟨rfl, y⟩ := y; exact hs i x σ' G' W' H'' y e w' h) hd⟩
/-- for x in a tuple -/
theorem for_t (hx : SqT K G a xs) (I : Nat → L2.St → Hp → Wl → Prop) (w : Wd G W H) (h0 : I 0 σ G W)
    (hs : ∀ i x σ' G' W' H', xs[i]? = some x → Same G G' → Wd G' W' H' → I i σ' G' W' → g x σ' H' fun σ2 H2 => tb ⟨Btw I G (i + 1), rt, nx, Btw I G (i + 1)⟩ σ2 H2)
    (hd : ∀ σ' G' W' H', Same G G' → Wd G' W' H' → I xs.length σ' G' W' → nx σ' H') : ∃ a', V.ref a = .ref a' ∧ (∃ xs, SqT K H a' xs) ∧ LoopQ (Itt K a') g tb nx rt σ H :=
  ⟨a, rfl, ⟨xs, tup_up w hx⟩, loop_go walk_tup I w (fun _ _ _ e w' => tup_up w' (seqT e hx)) h0 (fun i x σ' G' W' H' H'' _ e w' h y => by obtain ⟨rfl, y⟩ := y; exact hs i x σ' G' W' H'' y e w' h) hd⟩
/-- for i in range(n) -/
theorem for_r1 {z : Int} (hz : -(2 ^ 62) ≤ z ∧ z < 2 ^ 62) (I : Nat → L2.St → Hp → Wl → Prop) (w : Wd G W H) (h0 : I 0 σ G W)
    (hs : ∀ (i : Nat) σ' G' W' H', (i : Int) < z → Same G G' → Wd G' W' H' → I i σ' G' W' → g (.int (i : Int)) σ' H' fun σ2 H2 => tb ⟨Btw I G (i + 1), rt, nx, Btw I G (i + 1)⟩ σ2 H2)
    (hd : ∀ σ' G' W' H', Same G G' → Wd G' W' H' → I z.toNat σ' G' W' → nx σ' H') : ∃ j : Int, [V.int z] = [.int j] ∧ -(2 ^ 62) ≤ j ∧ j < 2 ^ 62 ∧ LoopQ (Itr 0 j.toNat) g tb nx rt σ H :=
  ⟨z, rfl, hz.1, hz.2, loop_go walk_range I w (fun _ _ _ _ _ => trivial) h0 (fun i x σ' G' W' H' H'' hi e w' h y => by
    obtain ⟨rfl, rfl⟩ := y
    have e0 : (0 : Int) + (i : Int) = (i : Int) := Int.zero_add _
    dsimp only
    rw [e0]
    exact hs i σ' G' W' H'' (by omega) e w' h) hd⟩
/-- for i in range(lo, hi) -/
theorem for_r2 {lo z : Int} (hz : -(2 ^ 62) ≤ lo ∧ lo < 2 ^ 62 ∧ -(2 ^ 62) ≤ z ∧ z < 2 ^ 62) (I : Nat → L2.St → Hp → Wl → Prop) (w : Wd G W H) (h0 : I 0 σ G W)
    (hs : ∀ (i : Nat) σ' G' W' H', lo + (i : Int) < z → Same G G' → Wd G' W' H' → I i σ' G' W' → g (.int (lo + (i : Int))) σ' H' fun σ2 H2 => tb ⟨Btw I G (i + 1), rt, nx, Btw I G (i + 1)⟩ σ2 H2)
    (hd : ∀ σ' G' W' H', Same G G' → Wd G' W' H' → I (z - lo).toNat σ' G' W' → nx σ' H') :
    ∃ i j : Int, [V.int lo, V.int z] = [.int i, .int j] ∧ (-(2 ^ 62) ≤ i ∧ i < 2 ^ 62 ∧ -(2 ^ 62) ≤ j ∧ j < 2 ^ 62) ∧ LoopQ (Itr i (j - i).toNat) g tb nx rt σ H :=
  ⟨lo, z, rfl, hz, loop_go walk_range I w (fun _ _ _ _ _ => trivial) h0 (fun i x σ' G' W' H' H'' hi e w' h y => by
    obtain ⟨rfl, rfl⟩ := y
    exact hs i σ' G' W' H'' (by omega) e w' h) hd⟩
/-- for i, x in enumerate(a list) -/
theorem for_enum (hx : SqL K G a xs) {i1 i2 : Nat} (I : Nat → L2.St → Hp → Wl → Prop) (w : Wd G W H) (h0 : I 0 σ G W)
    (hs : ∀ (i : Nat) x σ' G' G'' W' H', xs[i]? = some x → Same G G' → I i σ' G' W' → Same G' G'' → Wd G'' W' H' → tb ⟨Btw I G (i + 1), rt, nx, Btw I G (i + 1)⟩ ((σ'.set i1 (some (.int (i : Int)))).set i2 (some x)) H')
    (hd : ∀ σ' G' W' H', Same G G' → Wd G' W' H' → I xs.length σ' G' W' → nx σ' H') :
    ∃ a' ys, [V.ref a] = [.ref a'] ∧ SqL K H a' ys ∧ LoopQ (Ite K a') (gTup K 2 (gCons (gName i1) (gCons (gName i2) gNil))) tb nx rt σ H :=
  ⟨a, xs, rfl, seq_up w hx, loop_go walk_enum I w (fun _ _ _ e w' => seq_up w' (e.seq hx)) h0 (fun i x σ' G' W' H' H'' _ e w' h y => by
    obtain ⟨T, x1, x2, rfl, hn, rfl, e1, e2⟩ := y
    cases e1
    refine ⟨T, _, rfl, SqT.of upd_same, rfl, _, _, rfl, ?_⟩
    refine ⟨_, _, rfl, ?_⟩
    exact ⟨rfl, hs i x2 σ' G' _ W' _ e2 e h (same_upd (w'.free hn)) (w'.new hn)⟩) hd⟩
end

/-! ### comprehensions -/
def LcQ (J : It) (g : TG) (tt : TT) (te : TE) (vs : List Nat) (σ : L2.St) (H1 : Hp) (Q : VK) : Prop := ∀ D, H1 D = none → ∃ W : Nat → Nat → Hp → Prop, (∃ m, W 0 m (upd H1 D (.lst []))) ∧ ∀ i m H, W i m H →
  (J.stop i H ∧ Q (.ref D) H) ∨ (J.go i H ∧ ∃ Nx : Hp → Prop, (∀ H', Nx H' → ∃ m', m' < m ∧ W (i + 1) m' H') ∧ ∀ x H', J.yld i H x H' → g x (wipe σ vs) H' fun σ2 H2 => wipe σ2 vs = wipe σ vs ∧ tt σ2 H2 fun b H3 =>
    if b = true then te σ2 H3 fun y H4 => ∃ acc, H4 D = some (.lst acc) ∧ acc.length < sizeLine ∧ Nx (upd H4 D (.lst (acc ++ [y]))) else Nx H3)
/-- what holds between two turns: the new list at D holds acc -/
def LcB (I : Nat → List V → Hp → Prop) (G : Hp) (W : Wl) (D : Addr) (i : Nat) : Hp → Prop := fun H => ∃ G' acc, Same G G' ∧ Wd G' ((D, Is (.lst acc)) :: W) H ∧ I i acc G'
section
variable {K : PySem.W.Frag} {σ : L2.St} {H G : Hp} {W : Wl} {D : Addr} {g : TG} {tt : TT} {te : TE} {vs : List Nat} {Q : VK} {a b : Addr} {xs ys : List V} {n : Nat}
theorem st_lc {wi : TI} (h : wi σ H fun J H1 => LcQ J g tt te vs σ H1 Q) : tLc wi g tt te vs σ H Q := h
theorem st_yes {QT : Bool → Hp → Prop} (q : QT true H) : tYes σ H QT := q
/-- an element is put -/
theorem lc_put {I : Nat → List V → Hp → Prop} {G' : Hp} {i : Nat} {acc : List V} {y : V} (w : Wd G' ((D, Is (.lst acc)) :: W) H) (e : Same G G') (hl : acc.length < 1000000) (h : I i (acc ++ [y]) G') :
    ∃ acc, H D = some (.lst acc) ∧ acc.length < sizeLine ∧ LcB I G W D i (upd H D (.lst (acc ++ [y]))) := by
  obtain ⟨o, ho, rfl⟩ := w.get List.mem_cons_self
  exact ⟨acc, ho, small' (Nat.le_of_lt hl), G', acc ++ [y], e, Wd.put (W1 := []) w rfl, h⟩
theorem lc_skip {I : Nat → List V → Hp → Prop} {G' : Hp} {i : Nat} {acc : List V} (w : Wd G' ((D, Is (.lst acc)) :: W) H) (e : Same G G') (h : I i acc G') : LcB I G W D i H := ⟨G', acc, e, w, h⟩
theorem lc_go {J : It} {Gp : Hp → Prop} {Y : Nat → Hp → V → Hp → Prop} (wk : Walk J n Gp Y) (I : Nat → List V → Hp → Prop) (w : Wd G W H) (hG : ∀ G' W' H', Same G G' → Wd G' W' H' → Gp H') (h0 : I 0 [] G)
    (hs : ∀ i x D G' H' H'' acc, i < n → Same G G' → Wd G' ((D, Is (.lst acc)) :: W) H' → I i acc G' → Y i H' x H'' → g x (wipe σ vs) H'' fun σ2 H2 => wipe σ2 vs = wipe σ vs ∧ tt σ2 H2 fun b H3 =>
      if b = true then te σ2 H3 fun y H4 => ∃ acc, H4 D = some (.lst acc) ∧ acc.length < sizeLine ∧ LcB I G W D (i + 1) (upd H4 D (.lst (acc ++ [y]))) else LcB I G W D (i + 1) H3)
    (hd : ∀ D G' H' acc, Same G G' → Wd G' ((D, Is (.lst acc)) :: W) H' → I n acc G' → Q (.ref D) H') : LcQ J g tt te vs σ H Q := fun D hD =>
  lc_it wk (LcB I G W D) ⟨G, [], Same.refl _, w.newM hD rfl, h0⟩ (fun _ _ _ ⟨_, _, e, w', _⟩ => hG _ _ _ e w') (fun i x H' H'' hi ⟨G', acc, e, w', h⟩ y => hs i x D G' H' H'' acc hi e w' h y) fun H' ⟨G', acc, e, w', h⟩ => hd D G' H' acc e w' h
/-- [.. for i in range(z)], the variable at slot j -/
theorem lc_r1 {z : Int} {j : Nat} (hz : -(2 ^ 62) ≤ z ∧ z < 2 ^ 62) (I : Nat → List V → Hp → Prop) (w : Wd G W H) (h0 : I 0 [] G) (hw : ∀ x, wipe ((wipe σ vs).set j x) vs = wipe σ vs)
    (hs : ∀ (i : Nat) D G' H' acc, (i : Int) < z → Same G G' → Wd G' ((D, Is (.lst acc)) :: W) H' → I i acc G' → tt ((wipe σ vs).set j (some (.int (i : Int)))) H' fun b H3 =>
      if b = true then te ((wipe σ vs).set j (some (.int (i : Int)))) H3 fun y H4 => ∃ acc, H4 D = some (.lst acc) ∧ acc.length < sizeLine ∧ LcB I G W D (i + 1) (upd H4 D (.lst (acc ++ [y]))) else LcB I G W D (i + 1) H3)
    (hd : ∀ D G' H' acc, Same G G' → Wd G' ((D, Is (.lst acc)) :: W) H' → I z.toNat acc G' → Q (.ref D) H') : ∃ j' : Int, [V.int z] = [.int j'] ∧ -(2 ^ 62) ≤ j' ∧ j' < 2 ^ 62 ∧ LcQ (Itr 0 j'.toNat) (gName j) tt te vs σ H Q :=
  ⟨z, rfl, hz.1, hz.2, lc_go walk_range I w (fun _ _ _ _ _ => trivial) h0 (fun i x D G' H' H'' acc hi e w' h y => by
    obtain ⟨rfl, rfl⟩ := y
    have e0 : (0 : Int) + (i : Int) = (i : Int) := Int.zero_add _
    dsimp only
    rw [e0]
    exact ⟨hw _, hs i D G' H'' acc (by omega) e w' h⟩) hd⟩
/-- [.. for x in a list] -/
theorem lc_l {j : Nat} (hx : SqL K G a xs) (I : Nat → List V → Hp → Prop) (w : Wd G W H) (h0 : I 0 [] G) (hw : ∀ x, wipe ((wipe σ vs).set j x) vs = wipe σ vs)
    (hs : ∀ (i : Nat) x D G' H' acc, xs[i]? = some x → Same G G' → Wd G' ((D, Is (.lst acc)) :: W) H' → I i acc G' → tt ((wipe σ vs).set j (some x)) H' fun b H3 =>
      if b = true then te ((wipe σ vs).set j (some x)) H3 fun y H4 => ∃ acc, H4 D = some (.lst acc) ∧ acc.length < sizeLine ∧ LcB I G W D (i + 1) (upd H4 D (.lst (acc ++ [y]))) else LcB I G W D (i + 1) H3)
    (hd : ∀ D G' H' acc, Same G G' → Wd G' ((D, Is (.lst acc)) :: W) H' → I xs.length acc G' → Q (.ref D) H') : ∃ a', V.ref a = .ref a' ∧ (∃ xs, SqL K H a' xs) ∧ LcQ (Itl K a') (gName j) tt te vs σ H Q :=
  ⟨a, rfl, ⟨xs, seq_up w hx⟩, lc_go walk_list I w (fun _ _ _ e w' => seq_up w' (e.seq hx)) h0 (fun i x D G' H' H'' acc _ e w' h y => by
    obtain ⟨rfl, y⟩ := y
    exact ⟨hw _, hs i x D G' H'' acc y e w' h⟩) hd⟩
end

/-! ### kinds of values -/
inductive Knd (K : PySem.W.Frag) (H : Hp) : V → Prop
  | int (i : Int) : Knd K H (.int i)
  | bl (b : Bool) : Knd K H (.bl b)
  | non : Knd K H .non
  | str (x : Str) : Knd K H (.str x)
  | lst {a : Addr} {xs : List V} (h : SqL K H a xs) : Knd K H (.ref a)
  | tup {a : Addr} {xs : List V} (h : SqT K H a xs) : Knd K H (.ref a)
  | dct {a : Addr} {kvs : List (Key × V)} (h : H a = some (.dK kvs)) : Knd K H (.ref a)
def isInt : V → Bool
  | .int _ => true
  | _ => false
def inRange (lo hi : Int) : V → Bool
  | .int i => decide (lo ≤ i) && decide (i ≤ hi)
  | _ => false
section
variable {K : PySem.W.Frag} {H : Hp} {x : V}
theorem tyL {a : Addr} {xs : List V} (h : SqL K H a xs) : TyX K H (.ref a) (.type "list") := by
  rcases h with (h | ⟨o, h⟩) | ⟨o, _, _, h, hc, _⟩
  · exact .base (.lst h)
  · exact .base (.frz h)
  · exact .kList h hc
theorem tyT {a : Addr} {xs : List V} (h : SqT K H a xs) : TyX K H (.ref a) (.type "tuple") := by
  rcases h with (h | ⟨o, h⟩) | ⟨o, _, _, h, hc, _⟩
  · exact .base (.tup h)
  · exact .fTuple h
  · exact .kTuple h hc
theorem Knd.ty (h : Knd K H x) : ∃ n b1 b2, TyX K H x (.type n) ∧ kitB n "int" = some b1 ∧ kitB n "bool" = some b2 ∧ isInt x = (b1 && !b2) := by
  cases h with
  | int i => exact ⟨"int", true, false, .base (.int i), by decide +kernel, by decide +kernel, rfl⟩
  | bl b => exact ⟨"bool", true, true, .base (.bl b), by decide +kernel, by decide +kernel, rfl⟩
  | non => exact ⟨"NoneType", false, false, .base .non, by decide +kernel, by decide +kernel, rfl⟩
  | str s => exact ⟨"str", false, false, .base (.str s), by decide +kernel, by decide +kernel, rfl⟩
  | lst h => exact ⟨"list", false, false, tyL h, by decide +kernel, by decide +kernel, rfl⟩
  | tup h => exact ⟨"tuple", false, false, tyT h, by decide +kernel, by decide +kernel, rfl⟩
  | dct h => exact ⟨"dict", false, false, .base (.dK h), by decide +kernel, by decide +kernel, rfl⟩
/-- isinstance(x, (list, tuple)) -/
def isSeq (K : PySem.W.Frag) (H : Hp) (x : V) : Prop := ∃ a xs, x = .ref a ∧ (SqL K H a xs ∨ SqT K H a xs)
theorem kB {a b : String} {r : Bool} {cs : List Value} {q : Bool} (h : kitB a b = some r) (hr : r = false → PySem.W.kitAny K (.type a) cs = some q) (hb : r = true → q = true) : PySem.W.kitAny K (.type a) (.type b :: cs) = some q := kitAny_cons (kit_ty h) hr hb
theorem kitLT_l : PySem.W.kitAny K (.type "list") [.type "list", .type "tuple"] = some true := kB (r := true) (by decide +kernel) (fun h => nomatch h) (fun _ => rfl)
theorem kitLT_t : PySem.W.kitAny K (.type "tuple") [.type "list", .type "tuple"] = some true := kB (r := false) (by decide +kernel) (fun _ => kB (r := true) (by decide +kernel) (fun h => nomatch h) (fun _ => rfl)) (fun h => nomatch h)
theorem isiSeq {Q : VK} {a p : Addr} {xs : List V} (hp : H p = some (.tup [.ty "list", .ty "tuple"])) (h : SqL K H a xs ∨ SqT K H a xs) (q : Q (.bl true) H) : rIsiT K [.ref a, .ref p] H Q := by
  rcases h with h | h
  · exact ⟨_, p, _, _, _, true, rfl, hp, .cons (.ty _) (.cons (.ty _) .nil), tyL h, kitLT_l, q⟩
  · exact ⟨_, p, _, _, _, true, rfl, hp, .cons (.ty _) (.cons (.ty _) .nil), tyT h, kitLT_t, q⟩
end

section
variable {K : PySem.W.Frag} {σ : L2.St} {H : Hp} {ta : TA} {tl : TE} {R : It → Hp → Prop}
theorem st_iEnum (h : ta σ H fun vs H1 => ∃ a xs, vs = [.ref a] ∧ SqL K H1 a xs ∧ R (Ite K a) H1) : iEnum K ta σ H R := h
theorem st_iList (h : tl σ H fun x H1 => ∃ a, x = .ref a ∧ (∃ xs, SqL K H1 a xs) ∧ R (Itl K a) H1) : iList K tl σ H R := h
theorem st_iTup (h : tl σ H fun x H1 => ∃ a, x = .ref a ∧ (∃ xs, SqT K H1 a xs) ∧ R (Itt K a) H1) : iTup K tl σ H R := h
theorem st_iR1 (h : ta σ H fun vs H1 => ∃ j : Int, vs = [.int j] ∧ -(2 ^ 62) ≤ j ∧ j < 2 ^ 62 ∧ R (Itr 0 j.toNat) H1) : iRng1 ta σ H R := h
theorem st_iR2 (h : ta σ H fun vs H1 => ∃ i j : Int, vs = [.int i, .int j] ∧ (-(2 ^ 62) ≤ i ∧ i < 2 ^ 62 ∧ -(2 ^ 62) ≤ j ∧ j < 2 ^ 62) ∧ R (Itr i (j - i).toNat) H1) : iRng2 ta σ H R := h
end

theorem atUp {G G' : Hp} {a : Addr} {o : HO} (e : Same G G') (h : G a = some o) : G' a = some o := e _ _ h
theorem hUp {G H : Hp} {W : Wl} {a : Addr} {o : HO} (w : Wd G W H) (h : G a = some o) : H a = some o := w.ex _ _ h
theorem dUp {K : PySem.W.Frag} {G H : Hp} {W : Wl} {v : V} {d : PyData} (w : Wd G W H) (h : Dp K G v d) : Dp K H v d := dmono w.ex h
theorem getI {ns : List Int} {i : Nat} {x : V} (h : (ns.map V.int)[i]? = some x) : ∃ n, ns[i]? = some n ∧ x = V.int n ∧ n ∈ ns := by
  rw [List.getElem?_map] at h
  obtain ⟨n, hn, e⟩ := Option.map_eq_some_iff.mp h
  exact ⟨n, hn, e.symm, List.mem_of_getElem? hn⟩

section
variable {K : PySem.W.Frag} {σ : L2.St} {H : Hp} {Q : VK} {QS : L2.St → Hp → Prop} {to ti : TE} {v x : V} {xs : List V} {a : Addr}
theorem st_gsub {t : TSet} (h : to σ H fun o H1 => ti σ H1 fun i H2 => t o i v H2 fun H3 => QS σ H3) : gSub to ti t v σ H QS := h
/-- xs[i] -/
theorem st_ixL {i : Int} (h : SqL K H a xs) (hv : atI xs i = some v) (q : Q v H) : rIxL K (.ref a) (.int i) H Q := ⟨a, xs, i, v, rfl, rfl, h, hv, q⟩
theorem st_ixT {i : Int} (h : SqT K H a xs) (hv : atI xs i = some v) (q : Q v H) : rIxT K (.ref a) (.int i) H Q := ⟨a, xs, i, v, rfl, rfl, h, hv, q⟩
theorem st_setL {i : Int} {j : Nat} {Q : Hp → Prop} (h : H a = some (.lst xs)) (hj : ixN xs.length i = some j) (q : Q (upd H a (.lst (xs.set j v)))) : rSetL (.ref a) (.int i) v H Q := ⟨a, xs, i, j, rfl, rfl, h, hj, q⟩
end

section
variable {K : PySem.W.Frag} {σ : L2.St} {H : Hp} {Q : VK} {to te : TE} {t : TA} {T : String} {r : V → List V → Hp → VK → Prop} {xs : List V} {a : Addr}
theorem st_bm (h : to σ H fun x H1 => tyV K T x H1 ∧ t σ H1 fun xs H2 => r x xs H2 Q) : tBM K T r to t σ H Q := h
theorem st_bm0 (h : to σ H fun x H1 => tyV K T x H1 ∧ r x [] H1 Q) : tBM0 K T r to σ H Q := h
theorem tyL' (h : H a = some (.lst xs)) : tyV K "list" (.ref a) H := Or.inl ⟨rfl, _, SqL.of h⟩
theorem map_ins (ns : List Int) (i : Nat) (n : Int) : (ns.map V.int).take i ++ [V.int n] ++ (ns.map V.int).drop i = (ns.take i ++ [n] ++ ns.drop i).map V.int := by simp [List.map_take, List.map_drop]
theorem map_set' (ns : List Int) (i : Nat) (n : Int) : (ns.map V.int).set i (V.int n) = (ns.set i n).map V.int := by simp [List.map_set]
theorem atI_map {ns : List Int} {i : Int} (h0 : 0 ≤ i) (h1 : i < ns.length) : ∃ n, atI (ns.map V.int) i = some (V.int n) ∧ n ∈ ns ∧ ns[i.toNat]? = some n := by
  obtain ⟨n, hn⟩ : ∃ n, ns[i.toNat]? = some n := ⟨_, List.getElem?_eq_getElem (by omega)⟩
  refine ⟨n, ?_, List.mem_of_getElem? hn, hn⟩
  have e : i = (i.toNat : Int) := by omega
  rw [e]
  exact atI_nat (by rw [List.getElem?_map, hn]; rfl)
theorem ixN_of {n : Nat} {i : Int} (h0 : 0 ≤ i) (h1 : i < n) : ixN n i = some i.toNat := by
  unfold ixN
  rw [if_pos h0, if_pos h1]
end

theorem st_cut {t u : TS} {nx bk ct : L2.St → Hp → Prop} {rt : VK} {σ : L2.St} {H : Hp} (M : L2.St → Hp → Prop) (h : t ⟨M, rt, bk, ct⟩ σ H) (k : ∀ σ' H', M σ' H' → u ⟨nx, rt, bk, ct⟩ σ' H') : C8.tCut t u ⟨nx, rt, bk, ct⟩ σ H := ⟨M, h, k⟩
section
variable {K : PySem.W.Frag} {H : Hp}
def dI (ns : List Int) : PyData := .list (ns.map .int)
theorem dpInts : ∀ ns : List Int, DpAll K H (ns.map V.int) (ns.map PyData.int)
  | [] => .nil
  | n :: ns => .cons (.int n) (dpInts ns)
theorem dp_ints {a : Addr} {ns : List Int} (h : SqL K H a (ns.map V.int)) : Dp K H (.ref a) (dI ns) := .lst h (dpInts ns)
/-- data that may be compared: of a depth up to n -/
def Sh (n : Nat) (d : PyData) : Prop := d.canLay0 = true ∧ d.depth ≤ n
theorem sh_all {n : Nat} : ∀ {ds : List PyData}, (∀ d ∈ ds, Sh n d) → PyData.canLayAll0 ds = true ∧ PyData.depthAll ds ≤ n
  | [], _ => ⟨rfl, Nat.zero_le _⟩
  | d :: ds, h => by
    obtain ⟨a1, a2⟩ := h d List.mem_cons_self
    obtain ⟨b1, b2⟩ := sh_all (ds := ds) fun x hx => h x (List.mem_cons_of_mem _ hx)
    refine ⟨?_, ?_⟩
    · unfold PyData.canLayAll0
      rw [a1, b1]
      rfl
    · unfold PyData.depthAll
      exact Nat.max_le.mpr ⟨a2, b2⟩
theorem Sh.list {n : Nat} {ds : List PyData} (h : ∀ d ∈ ds, Sh n d) : Sh (n + 1) (.list ds) := by
  obtain ⟨a, b⟩ := sh_all h
  exact ⟨by unfold PyData.canLay0; exact a, by unfold PyData.depth; exact Nat.succ_le_succ b⟩
theorem Sh.tuple {n : Nat} {ds : List PyData} (h : ∀ d ∈ ds, Sh n d) : Sh (n + 1) (.tuple ds) := by
  obtain ⟨a, b⟩ := sh_all h
  exact ⟨by unfold PyData.canLay0; exact a, by unfold PyData.depth; exact Nat.succ_le_succ b⟩
theorem Sh.int {n : Nat} (i : Int) : Sh n (.int i) := ⟨by unfold PyData.canLay0; rfl, by unfold PyData.depth; exact Nat.zero_le _⟩
theorem Sh.bool {n : Nat} (i : Bool) : Sh n (.bool i) := ⟨by unfold PyData.canLay0; rfl, by unfold PyData.depth; exact Nat.zero_le _⟩
theorem Sh.none {n : Nat} : Sh n .none := ⟨by unfold PyData.canLay0; rfl, by unfold PyData.depth; exact Nat.zero_le _⟩
theorem Sh.ok {n : Nat} {d : PyData} (h : Sh n d) (hn : n ≤ 64) : SeqAt.shaped d = true := by
  unfold SeqAt.shaped
  rw [h.1, decide_eq_true (Nat.le_trans h.2 hn)]
  rfl
theorem sh_ints (ns : List Int) : Sh 1 (dI ns) := Sh.list fun d hd => by
  obtain ⟨n, _, rfl⟩ := List.mem_map.mp hd
  exact .int n
theorem eqvAll_map {α : Type} [DecidableEq α] (f : α → PyData) (h : ∀ x y, PyData.eqv (f x) (f y) = decide (x = y)) : ∀ xs ys : List α, PyData.eqvAll (xs.map f) (ys.map f) = decide (xs = ys)
  | [], [] => by simp [PyData.eqvAll]
  | [], _ :: _ => by simp [PyData.eqvAll]
  | _ :: _, [] => by simp [PyData.eqvAll]
  | x :: xs, y :: ys => by
    rw [List.map_cons, List.map_cons, PyData.eqvAll, h, eqvAll_map f h xs ys]
    by_cases e1 : x = y <;> by_cases e2 : xs = ys <;> simp [e1, e2]
theorem eqv_int (a b : Int) : PyData.eqv (.int a) (.int b) = decide (a = b) := by
  unfold PyData.eqv
  by_cases e : a = b <;> simp [e]
theorem eqv_dI (a b : List Int) : PyData.eqv (dI a) (dI b) = decide (a = b) := by
  unfold dI PyData.eqv
  exact eqvAll_map _ eqv_int a b
/-- xs == ys of data -/
theorem st_eqD {Q : VK} {x y : V} {d e : PyData} {b : Bool} (hx : Dp K H x d) (hy : Dp K H y e) (sx : SeqAt.shaped d = true) (sy : SeqAt.shaped e = true) (hb : PyData.eqv d e = b) (q : Q (.bl b) H) : rEqD K x y H Q := ⟨d, e, hx, hy, sx, sy, by rw [hb]; exact q⟩
theorem st_neD {Q : VK} {x y : V} {d e : PyData} {b : Bool} (hx : Dp K H x d) (hy : Dp K H y e) (sx : SeqAt.shaped d = true) (sy : SeqAt.shaped e = true) (hb : PyData.eqv d e = b) (q : Q (.bl (!b)) H) : rNeD K x y H Q := ⟨d, e, hx, hy, sx, sy, by rw [hb]; exact q⟩
/-- lists of ints -/
theorem st_eqI {Q : VK} {a b : Addr} {xs ys : List Int} (hx : SqL K H a (xs.map V.int)) (hy : SqL K H b (ys.map V.int)) (q : Q (.bl (decide (xs = ys))) H) : rEqD K (.ref a) (.ref b) H Q :=
  st_eqD (dp_ints hx) (dp_ints hy) ((sh_ints xs).ok (by decide)) ((sh_ints ys).ok (by decide)) (eqv_dI xs ys) q
theorem st_neI {Q : VK} {a b : Addr} {xs ys : List Int} (hx : SqL K H a (xs.map V.int)) (hy : SqL K H b (ys.map V.int)) (q : Q (.bl (!decide (xs = ys))) H) : rNeD K (.ref a) (.ref b) H Q :=
  st_neD (dp_ints hx) (dp_ints hy) ((sh_ints xs).ok (by decide)) ((sh_ints ys).ok (by decide)) (eqv_dI xs ys) q
end

theorem st_ifV {σ : L2.St} {H : Hp} {Q : VK} {tt : TT} {ta tb : TE} (v : V) (c : Bool) (ht : ∀ QT : Bool → Hp → Prop, QT c H → tt σ H QT) (h1 : c = true → ∀ Q : VK, Q v H → ta σ H Q) (h2 : c = false → ∀ Q : VK, Q v H → tb σ H Q) (q : Q v H) : tIf tt ta tb σ H Q :=
  ht _ (by
    cases c with
    | true => exact iteT (h1 rfl Q q)
    | false => exact iteF (h2 rfl Q q))
theorem ne_self (v : V) : (!decide (v = v)) = false := by rw [decide_eq_true rfl]; rfl
theorem eq_self' (v : V) : decide (v = v) = true := decide_eq_true rfl
end Z

/-! enumerate of a tuple -/
namespace PySem
open AutoSeq1 (wpAny_loadPart')
theorem zEnumNew (l : Addr) (its : Array Value) (n : Nat) (dd : Option Addr) (sl : Array (Option Value)) :
    Meets (Builtin.«enumerate.__new__» ⟨[.type "enumerate", .ref l], []⟩) (fun _ R s => s.heap.get? l = some { cls := .type "tuple", dict := dd, data := .seq its n, slots := sl } ∧
      R (.ok (.ret (.ref (s.heap.push { cls := .type "tuple_iterator", data := .fields #[.ref l, .int 0 0] }).objs.size)))
        { s with heap := (s.heap.push { cls := .type "tuple_iterator", data := .fields #[.ref l, .int 0 0] }).push { cls := .type "enumerate", data := .fields #[.none, .bool false, .ref s.heap.objs.size, rawInt 0, .none, .none] } }) :=
  .of_wp fun prog w A R s q => by
    obtain ⟨hp, g, d, tk, os⟩ := s
    obtain ⟨hl, hR⟩ := q
    have hsub := sub_enumerate
    have hT : Heap.IsTuple (Shared.heap ⟨hp, g, d, tk, os⟩) l its := ⟨_, hl, rfl, n, rfl⟩
    wp_walk using wpAny_loadPart' hl
    refine wpAny_stack_any fun st => wpAny_pure ?_
    split
    · rename_i c _ _ _ _ _
      cases (c == Value.type "enumerate") <;> (wp_walk using wpAny_loadPart' hl, wpAny_pyIter_tuple hT; exact ⟨_, rfl, hR⟩)
    · wp_walk using wpAny_loadPart' hl, wpAny_pyIter_tuple hT
      exact ⟨_, rfl, hR⟩
theorem zEnumCall {prog : Program} {w : World} {A : Around} {E : Value → Shared → Prop} {s : Shared} {l : Addr} {its : Array Value} {Q : Value → Shared → Prop} (hT : s.heap.IsTuple l its)
    (k : ∀ h', IsEnum h' (s.heap.objs.size + 1) s.heap.objs.size 0 .none → h'.IsTupleIter s.heap.objs.size l 0 → h'.objs.size = s.heap.objs.size + 2 → (∀ b o, s.heap.get? b = some o → h'.get? b = some o) →
      Q (.ref (s.heap.objs.size + 1)) { s with heap := h' }) : wpAny (model prog w) A (call (.type "enumerate") [.ref l]) Q E s := by
  obtain ⟨⟨c, dd, dt, sl⟩, hl, hc, n, hd⟩ := hT
  obtain rfl : c = .type "tuple" := hc
  obtain rfl : dt = .seq its n := hd
  refine callType_new F.called_enumerate (by decide) (F.typeCall_enumerate_1 _) (F.newCall_enumerate_1 _) (fun obj => F.args_object_init_2 obj _) F.entry_enumerate_new (zEnumNew l its n dd sl) ⟨hl, ?_⟩
  have hz : (s.heap.push { cls := .type "tuple_iterator", data := .fields #[.ref l, .int 0 0] }).objs.size = s.heap.objs.size + 1 := Heap.size_push ..
  show _ ∧ _
  rw [hz]
  have he : IsEnum ((s.heap.push { cls := .type "tuple_iterator", data := .fields #[.ref l, .int 0 0] }).push { cls := .type "enumerate", data := .fields #[.none, .bool false, .ref s.heap.objs.size, rawInt 0, .none, .none] })
      (s.heap.objs.size + 1) s.heap.objs.size 0 .none := hz ▸ Heap.get?_push_size _ rfl
  exact ⟨⟨_, he, rfl⟩, k _ he ⟨_, Heap.get?_push_of_some _ (Heap.get?_push_size _ rfl), rfl, rfl⟩ (by rw [Heap.size_push, hz]) fun b o x => Heap.get?_push_of_some _ (Heap.get?_push_of_some _ x)⟩
theorem zEnumEnd {prog : Program} {w : World} {A : Around} {E : Value → Shared → Prop} {s : Shared} {e it l : Addr} {i : Nat} {its : Array Value} {old : Value} {k : Int} {Q : Option Value → Shared → Prop} (hh : A.handled = none)
    (he : IsEnum s.heap e it k old) (hit : s.heap.IsTupleIter it l i) (hl : s.heap.IsTuple l its) (hx : its[i]? = none) (q : ∀ h', Heap.ExtBut it s.heap h' → Q none { s with heap := h' }) :
    wpAny (model prog w) A (pyNext (.ref e)) Q E s := by
  have ty : s.TypeIs (.ref e) "enumerate" := ⟨_, he, rfl⟩
  unfold pyNext
  refine wpAny_bind (wpAny_attempt (wpAny_callSpecial?_slot (name := Str.ofString "__next__") ty F.slot_enumerate_next (wpAny_call_entry F.slot_enumerate_next ty F.entry_enumerate_next ?_ (F.args_enumerate_next_1 _))))
  show wpAny _ _ (field (.ref e) 2 >>= _) _ _ _
  refine wpAny_bind (wpAny_field he rfl (x := .ref it) rfl (wpAny_bind (wpAny_nextOf_tuple_end hh hit hl hx fun h' x he' ⟨o, ho, hc⟩ => ?_)))
  exact wpAny_bind (wpAny_isInstance (T := "StopIteration") (b := true) ⟨o, ho, hc⟩ isSubtype_stop (wpAny_pure (q _ he')))
end PySem
namespace Z
open PySem PySem.Spec PyProof.Rows L2
def IteT (K : PySem.W.Frag) (a : Addr) : It :=
  ⟨fun i H => ∃ (xs : List V) (x : V), SqT K H a xs ∧ xs[i]? = some x, fun i H v H' => ∃ T x, v = .ref T ∧ H T = none ∧ H' = upd H T (.tup [.int (i : Nat), x]) ∧ ∀ xs, SqT K H a xs → xs[i]? = some x,
    fun i H => ∃ xs : List V, SqT K H a xs ∧ xs.length ≤ i⟩
theorem tup_ne {h : Heap} {a b : Addr} {its : Array Value} {o : Obj} {n : String} (p : IsTup h a its) (ho : h.get? b = some o) (hc : o.cls = .type n) (hn : n ≠ "tuple") : a ≠ b := fun z => by
  obtain ⟨o', e, c, _⟩ := p
  rw [z, ho] at e
  cases e
  rw [hc] at c
  exact hn (by injection c)
theorem turn_enumT {P : Program} {w : World} {K : PySem.W.Frag} {elts : List Expr} {kk : Nat} {tpos : Pos} (a e it : Addr) :
    Turn P w K (.Tuple elts kk tpos) (IteT K a) [e, it] e (fun i h => (∃ old, IsEnum h e it ((i : Nat) : Int) old) ∧ h.IsTupleIter it a i ∧ e ≠ it) where
  mem := List.mem_cons_self
  obj := fun i h st b hb => by
    obtain ⟨⟨old, he⟩, ⟨o, ho, hc, hd⟩, _⟩ := st
    rcases (show b = e ∨ b = it by simpa using hb) with z | z
    · exact z ▸ ⟨_, he, fun v q => nomatch q⟩
    · exact z ▸ ⟨o, ho, fun v q => by rw [hd] at q; cases q⟩
  keep := fun i h h' st k => let ⟨⟨old, he⟩, hi, hne⟩ := st; ⟨⟨old, k e List.mem_cons_self _ he⟩, hi.at fun o q => k it (by simp) o q, hne⟩
  item := by
    intro X hP hw hK hc i pins s σ H E I hf st hg
    cases hP; cases hw; cases hK
    obtain ⟨⟨old, he⟩, hit, hne⟩ := st
    obtain ⟨xs, x, hq, hx⟩ := hg
    obtain ⟨its, rv, p, hz⟩ := I.tuple hq
    obtain ⟨u, hu, ru⟩ := rv.get hx
    obtain ⟨oi, hoi, hci, _⟩ := id hit
    have nai : a ≠ it := tup_ne p hoi hci (by decide)
    have nae : a ≠ e := tup_ne p he rfl (by decide)
    have hel := Heap.lt_size he
    have hil := Heap.lt_size hoi
    have hlt : i < its.length := (List.getElem?_eq_some_iff.mp hu).1
    refine wpAny_pyNext_enum_itemD (Draws.tuple (A := X.A.in1) (I.ok.hd hc) it a nai its.toArray) he ⟨hit, p⟩ (by simpa using hlt) hne (by simp [hne, nae.symm]) fun v h' tk hv ho hst hT hsz hk => ?_
    obtain rfl : u = v := by
      have hv' : its[i]? = some v := by simpa using hv
      rw [hu] at hv'
      exact Option.some.inj hv'
    refine ⟨_, rfl, wpAny_letOwnedTupleGo_enum (s := { s with heap := h', toks := tk + 1 }) ho fun h'' he' sb => ?_⟩
    have hT2 := (sb.2 _ (Nat.ne_of_gt hel)).trans hT
    have new : ObjOk X.prog X.w (upd H s.heap.objs.size (.tup [.int (i : Nat), x])) h'' s.heap.objs.size (.tup [.int (i : Nat), x]) :=
      ⟨by show 2 ≤ sizeLine; decide, [.int i tk, u], .cons ⟨_, rfl⟩ (.cons ru .nil), ⟨_, hT2, rfl, _, rfl⟩⟩
    have I1 := I.turnedNew (t' := tk + 1) (ch := [e, it]) (fun b ob hb q => (sb.2 b (fun z => hb (by simp [z]))).trans (hk b ob (fun z => hb (by simp [z])) (fun z => hb (by simp [z])) q)) hf (Nat.le_refl _) new
    refine ⟨.ref s.heap.objs.size, _, I1, rfl, ⟨_, x, rfl, I.hok.fresh (Nat.le_refl _), rfl, fun ys hy => by rw [I.tuple_inj hy hq]; exact hx⟩, ⟨⟨u, ?_⟩, hst.1.at fun o q => (sb.2 it (Ne.symm hne)).trans q, hne⟩, fun b hb => ?_⟩
    · rw [show ((i + 1 : Nat) : Int) = (i : Int) + 1 by omega]
      exact he'
    · have hb' : b < s.heap.objs.size := by
        rcases (show b = e ∨ b = it by simpa using hb) with z | z
        · exact z ▸ hel
        · exact z ▸ hil
      rw [upd_ne (Nat.ne_of_lt hb')]
      exact (hf b hb).1
  done := by
    intro X hP hw hK hc i pins s σ H E I hf st hg
    cases hP; cases hw; cases hK
    obtain ⟨⟨old, he⟩, hit, hne⟩ := st
    obtain ⟨xs, hq, hx⟩ := hg
    obtain ⟨its, rv, p, hz⟩ := I.tuple hq
    obtain ⟨oi, hoi, hci, hdi⟩ := id hit
    have nai : a ≠ it := tup_ne p hoi hci (by decide)
    obtain ⟨f0, f1, f2, f3, f4, f5⟩ := hf it (by simp)
    have hl := rv.length
    exact zEnumEnd (I.ok.hd hc) he hit (show s.heap.IsTuple a its.toArray from p) (by simp; omega) fun h' eb => ⟨rfl, I.turned (t' := s.toks) (fun b o hb q => eb b o hb q) f0 f1 f3 f4 f5⟩
  self := fun A i s Q E st h => let ⟨⟨_, he⟩, _⟩ := st; wpAny_pyIter_enum he h

/-- enumerate of a list or of a tuple -/
def iEnumA (K : PySem.W.Frag) (ta : TA) : TI := fun σ H R => ta σ H fun vs H1 => ∃ a xs, vs = [.ref a] ∧ ((SqL K H1 a xs ∧ R (Ite K a) H1) ∨ (SqT K H1 a xs ∧ R (IteT K a) H1))
theorem pi_enumA {X : Cx} {e : Expr} {ta : TA} {p pos tpos : Pos} {elts : List Expr} {kk : Nat} (hg : Gl X "enumerate") (hm : X.mg "enumerate" = none) (ha : PA X [e] ta) (hs : starEach [e] X.env = [(false, eval e X.env)] := by rfl) :
    PI X (.Tuple elts kk tpos) (.Call (.Name "enumerate" p) [e] [] pos) (iEnumA X.K ta) := by
  refine ⟨fun pins s σ H R I h => Call_ (ld_blt I hg hm boot_enumerate (PyProof.Rows.callWith_type1 (thn (ha.run pos pins s σ H _ I h) fun us s1 ⟨vs, H1, I1, r1, a, xs, ex, hq⟩ => ?_) hs rfl))⟩
  subst ex
  cases r1 with
  | cons r rr =>
    cases rr
    cases r
    have fp : ∀ b ∈ [s1.heap.objs.size + 1, s1.heap.objs.size], FpOk X pins H1 b := fun b hb => by
      have hle : s1.heap.objs.size ≤ b := by
        rcases (show b = s1.heap.objs.size + 1 ∨ b = s1.heap.objs.size by simpa using hb) with z | z
        · exact z ▸ Nat.le_add_right _ _
        · exact z ▸ Nat.le_refl _
      exact I1.fpOk hle (I1.hok.fresh hle)
    rcases hq with ⟨hq, q⟩ | ⟨hq, q⟩
    · obtain ⟨its, rv, p', hz⟩ := I1.list hq
      refine call_enumerate_list p'.isList fun h' he hit hsz hk => wpAny_pyIter_enum he ?_
      exact ⟨s1.heap.objs.size + 1, _, _, _, H1, rfl, I1.kept (t' := s1.toks) hk, turn_enum a (s1.heap.objs.size + 1) s1.heap.objs.size, ⟨⟨.none, he⟩, hit, Nat.succ_ne_self _⟩, fp, q⟩
    · obtain ⟨its, rv, p', hz⟩ := I1.tuple hq
      refine zEnumCall (show s1.heap.IsTuple a its.toArray from p') fun h' he hit hsz hk => wpAny_pyIter_enum he ?_
      exact ⟨s1.heap.objs.size + 1, _, _, _, H1, rfl, I1.kept (t' := s1.toks) hk, turn_enumT a (s1.heap.objs.size + 1) s1.heap.objs.size, ⟨⟨.none, he⟩, hit, Nat.succ_ne_self _⟩, fp, q⟩
theorem walk_enumT {K : PySem.W.Frag} {a : Addr} {xs : List V} : Walk (IteT K a) xs.length (fun H => SqT K H a xs) (YPair (fun i => some (.int (i : Nat))) (fun i => xs[i]?)) :=
  ⟨fun i H hi g => ⟨xs, xs[i], g, by simp [hi]⟩, fun H g => ⟨xs, g, Nat.le_refl _⟩, fun i H x H' hi g y => by
    obtain ⟨T, z, e1, e2, e3, e4⟩ := y
    exact ⟨T, _, z, e1, e2, e3, rfl, e4 xs g⟩⟩
section
variable {K : PySem.W.Frag} {σ : L2.St} {H G : Hp} {W : Wl} {nx : L2.St → Hp → Prop} {rt : VK} {tb : TS} {a : Addr} {xs : List V} {ta : TA} {R : It → Hp → Prop}
theorem st_iEnumA (h : ta σ H fun vs H1 => ∃ a xs, vs = [.ref a] ∧ ((SqL K H1 a xs ∧ R (Ite K a) H1) ∨ (SqT K H1 a xs ∧ R (IteT K a) H1))) : iEnumA K ta σ H R := h
/-- for i, x in enumerate(a list or tuple) -/
theorem for_enumA (hx : SqL K G a xs ∨ SqT K G a xs) {i1 i2 : Nat} (I : Nat → L2.St → Hp → Wl → Prop) (w : Wd G W H) (h0 : I 0 σ G W)
    (hs : ∀ (i : Nat) x σ' G' G'' W' H', xs[i]? = some x → Same G G' → I i σ' G' W' → Same G' G'' → Wd G'' W' H' → tb ⟨Btw I G (i + 1), rt, nx, Btw I G (i + 1)⟩ ((σ'.set i1 (some (.int (i : Int)))).set i2 (some x)) H')
    (hd : ∀ σ' G' W' H', Same G G' → Wd G' W' H' → I xs.length σ' G' W' → nx σ' H') :
    ∃ a' ys, [V.ref a] = [.ref a'] ∧ ((SqL K H a' ys ∧ LoopQ (Ite K a') (gTup K 2 (gCons (gName i1) (gCons (gName i2) gNil))) tb nx rt σ H) ∨ (SqT K H a' ys ∧ LoopQ (IteT K a') (gTup K 2 (gCons (gName i1) (gCons (gName i2) gNil))) tb nx rt σ H)) := by
  have step : ∀ (i : Nat) (x : V) (σ' : L2.St) (G' : Hp) (W' : Wl) (H' H'' : Hp), i < xs.length → Same G G' → Wd G' W' H' → I i σ' G' W' → YPair (fun i => some (.int (i : Nat))) (fun i => xs[i]?) i H' x H'' →
      gTup K 2 (gCons (gName i1) (gCons (gName i2) gNil)) x σ' H'' fun σ2 H2 => tb ⟨Btw I G (i + 1), rt, nx, Btw I G (i + 1)⟩ σ2 H2 := fun i x σ' G' W' H' H'' _ e w' h y => by
    obtain ⟨T, x1, x2, rfl, hn, rfl, e1, e2⟩ := y
    cases e1
    refine ⟨T, _, rfl, SqT.of upd_same, rfl, _, _, rfl, ?_⟩
    refine ⟨_, _, rfl, ?_⟩
    exact ⟨rfl, hs i x2 σ' G' _ W' _ e2 e h (same_upd (w'.free hn)) (w'.new hn)⟩
  rcases hx with hx | hx
  · exact ⟨a, xs, rfl, .inl ⟨seq_up w hx, loop_go walk_enum I w (fun _ _ _ e w' => seq_up w' (e.seq hx)) h0 step hd⟩⟩
  · exact ⟨a, xs, rfl, .inr ⟨tup_up w hx, loop_go walk_enumT I w (fun _ _ _ e w' => tup_up w' (seqT e hx)) h0 step hd⟩⟩
end

/-! ### a list or a tuple -/
def iSeqA (K : PySem.W.Frag) (tl : TE) : TI := fun σ H R => iList K tl σ H R ∨ iTup K tl σ H R
theorem pi_seqA {X : Cx} {tg l : Expr} {tl : TE} (h : PE X l tl) : PI X tg l (iSeqA X.K tl) := ⟨fun pins s σ H R I q => q.elim (fun q => (pi_list h).run pins s σ H R I q) fun q => (pi_tup h).run pins s σ H R I q⟩
section
variable {K : PySem.W.Frag} {σ : L2.St} {H G : Hp} {W : Wl} {nx : L2.St → Hp → Prop} {rt : VK} {g : TG} {tb : TS} {a : Addr} {xs : List V} {tl : TE} {tt : TT} {te : TE} {vs : List Nat} {Q : VK} {j : Nat}
theorem for_seq (ht : ∀ Q : VK, Q (.ref a) H → tl σ H Q) (hx : SqL K G a xs ∨ SqT K G a xs) (I : Nat → L2.St → Hp → Wl → Prop) (w : Wd G W H) (h0 : I 0 σ G W)
    (hs : ∀ i x σ' G' W' H', xs[i]? = some x → Same G G' → Wd G' W' H' → I i σ' G' W' → g x σ' H' fun σ2 H2 => tb ⟨Btw I G (i + 1), rt, nx, Btw I G (i + 1)⟩ σ2 H2)
    (hd : ∀ σ' G' W' H', Same G G' → Wd G' W' H' → I xs.length σ' G' W' → nx σ' H') : iSeqA K tl σ H fun J H1 => LoopQ J g tb nx rt σ H1 := by
  rcases hx with hx | hx
  · exact .inl (st_iList (ht _ (for_l hx I w h0 hs hd)))
  · exact .inr (st_iTup (ht _ (for_t hx I w h0 hs hd)))
theorem lc_t (hx : SqT K G a xs) (I : Nat → List V → Hp → Prop) (w : Wd G W H) (h0 : I 0 [] G) (hw : ∀ x, wipe ((wipe σ vs).set j x) vs = wipe σ vs)
    (hs : ∀ (i : Nat) x D G' H' acc, xs[i]? = some x → Same G G' → Wd G' ((D, Is (.lst acc)) :: W) H' → I i acc G' → tt ((wipe σ vs).set j (some x)) H' fun b H3 =>
      if b = true then te ((wipe σ vs).set j (some x)) H3 fun y H4 => ∃ acc, H4 D = some (.lst acc) ∧ acc.length < sizeLine ∧ LcB I G W D (i + 1) (upd H4 D (.lst (acc ++ [y]))) else LcB I G W D (i + 1) H3)
    (hd : ∀ D G' H' acc, Same G G' → Wd G' ((D, Is (.lst acc)) :: W) H' → I xs.length acc G' → Q (.ref D) H') : ∃ a', V.ref a = .ref a' ∧ (∃ xs, SqT K H a' xs) ∧ LcQ (Itt K a') (gName j) tt te vs σ H Q :=
  ⟨a, rfl, ⟨xs, tup_up w hx⟩, lc_go walk_tup I w (fun _ _ _ e w' => tup_up w' (seqT e hx)) h0 (fun i x D G' H' H'' acc _ e w' h y => by
    obtain ⟨rfl, y⟩ := y
    exact ⟨hw _, hs i x D G' H'' acc y e w' h⟩) hd⟩
theorem lc_seq (ht : ∀ Q : VK, Q (.ref a) H → tl σ H Q) (hx : SqL K G a xs ∨ SqT K G a xs) (I : Nat → List V → Hp → Prop) (w : Wd G W H) (h0 : I 0 [] G) (hw : ∀ x, wipe ((wipe σ vs).set j x) vs = wipe σ vs)
    (hs : ∀ (i : Nat) x D G' H' acc, xs[i]? = some x → Same G G' → Wd G' ((D, Is (.lst acc)) :: W) H' → I i acc G' → tt ((wipe σ vs).set j (some x)) H' fun b H3 =>
      if b = true then te ((wipe σ vs).set j (some x)) H3 fun y H4 => ∃ acc, H4 D = some (.lst acc) ∧ acc.length < sizeLine ∧ LcB I G W D (i + 1) (upd H4 D (.lst (acc ++ [y]))) else LcB I G W D (i + 1) H3)
    (hd : ∀ D G' H' acc, Same G G' → Wd G' ((D, Is (.lst acc)) :: W) H' → I xs.length acc G' → Q (.ref D) H') : iSeqA K tl σ H fun J H1 => LcQ J (gName j) tt te vs σ H1 Q := by
  rcases hx with hx | hx
  · exact .inl (st_iList (ht _ (lc_l hx I w h0 hw hs hd)))
  · exact .inr (st_iTup (ht _ (lc_t hx I w h0 hw hs hd)))
end
end Z

/-! defs that ask what guards stand around them (repr of data) -/
namespace Z
open PySem PySem.Spec PyProof.Rows L2
/-- a promise kept where no guard stands around -/
structure FnG (P : Program) (w : World) (K : PySem.W.Frag) (mg : Str → Option Value) (base : Heap) (k : Nat) (f : Addr) (fd : FuncData) (ps : List Str) (sp : Sp) : Prop where
  len : ∀ vs H Q E, sp vs H Q E → vs.length = ps.length
  run : ∀ (A : Around) (outer : List Env) (s : Shared) (H : Hp) (args : Args) (us : List Value) (vs : List V) (Q : VK) (E : XK), Room k A → A.guards = some [] → Env0 P w K mg base A outer s H → BindsTo s fd args (ps.zip us) → Vals vs us → sp vs H Q E →
    codeAny (model P w) A (.call (.ref f) args) (CR CX0 outer P w H s Q E) s
theorem FnG.of {P : Program} {w : World} {K : PySem.W.Frag} {mg : Str → Option Value} {base : Heap} {k : Nat} {f : Addr} {fd : FuncData} {ps : List Str} {sp : Sp} (F : FnOk P w K mg base CX0 k f fd ps sp) : FnG P w K mg base k f fd ps sp :=
  ⟨F.len, fun A outer s H args us vs Q E hr _ e0 hb r h => F.run A outer s H args us vs Q E hr e0 hb r h⟩
section
variable {P : Program} {w : World} {K : PySem.W.Frag} {mg : Str → Option Value} {base : Heap} {x qual : Str} {params : Arguments} {body : List Stmt} {scope : Scope} {dvs : List V} {kws : List (Str × V)} {f : Addr} {fd : FuncData}
theorem okG {N ps : List Str} {k : Nat} {sp : Sp} (F : FunD K x qual params body scope dvs kws f fd) (S : FnScope N ps scope) (len : ∀ vs H Q E, sp vs H Q E → vs.length = ps.length)
    (hbody : ∀ (cdv : Value) (A : Around) (outer : List Env) (s : Shared) (H : Hp) (vs : List V) (Q : VK) (E : XK), A.guards = some [] → Room k (A.deeper (envOfC qual scope s.heap.objs.size f cdv)) → sp vs H Q E →
      ∃ t, PSs (cxOf CX0 P w K mg base N qual scope f cdv A outer s H E).nox body t ∧ t { nx := fun _ H' => Q .non H', rt := Q } (start N vs) H) : FnG P w K mg base (k + 1) f fd ps sp := by
  obtain ⟨oc, od, dV, kV, doc, pm, an, cdv, ct, osl, rfl, lk, hcd, _, _⟩ := F.ex
  refine ⟨len, fun A outer s H args us vs Q E hr hgd e0 hb r hsp => ?_⟩
  have KX : K.In s.heap := e0.mod.kin.keeps fun b o e => (e0.bs b o e).1
  have kd : ∀ y ∈ ps.zip us, scope.names.lookup y.1 = some .local ∨ (scope.names.lookup y.1 = some .cell ∧ ((cellsFrom (s.heap.objs.size + 1) scope.names []).lookup y.1).isSome = true) := fun y hy =>
    (S.par y.1 (List.of_mem_zip (a := y.1) (b := y.2) hy).1).imp (fun q => q) fun q => ⟨q, PySem.W.cellsFrom_some _ _ _ (.inl q)⟩
  refine codeAny_call_function hr.depth (KX _ _ lk) rfl S.co S.gen rfl (PySem.W.codeRec_of KX hcd) (hb _ _ _ _ (wpAny_newFunctionEnv_cells S.kind kd fun env he s1 y => ?_))
  cases he
  obtain ⟨t, ht, hq⟩ := hbody cdv A outer s H vs Q E hgd (hr.deeper _) hsp
  refine ⟨(e0.mod.nolimit.keeps fun b o e => (e0.bs b o e).1).keeps y.toInCall.keep, codeAny_func (wpAny_mono (ht.nox.run [] s1 (start N vs) H _ (inv_start S hr.hd e0 (len _ _ _ _ hsp) r y) hq) (fun fl s' hs => ?_) fun e s' hs => hs)⟩
  cases fl with
  | ret u => exact let ⟨v, _, H', J, rv, q⟩ := hs; ⟨v, H', J.os, J.bare, J.base, J.hok, rv, q⟩
  | next => exact let ⟨_, H', J, q⟩ := hs; ⟨.non, H', J.os, J.bare, J.base, J.hok, rfl, q⟩
  | brk => exact let ⟨_, _, _, q⟩ := hs; False.elim q
  | cont => exact let ⟨_, _, _, q⟩ := hs; False.elim q
end
section
variable {X : Cx} {k n : Nat} {f : Addr} {fd : FuncData} {ps ks : List Str} {ds : List Value} {dvs : List V} {sp : Sp} {E : XK} {x : Str} {p pos : Pos} {e : Expr} {es : List Expr} {kws : List Keyword} {t tk : TA} {g : List Value → List Value → List Value} {gV : List V → List V → List V}
theorem run_fnG {pins : List (Addr × Obj)} {σ : L2.St} {H : Hp} {s : Shared} {Q : VK} {us : List Value} {vs : List V} (F : FnG X.prog X.w X.K X.mg X.base k f fd ps sp) (hr : Room k X.A) (hgd : X.A.guards = some []) (hb : Binds X.K fd ps ds) (hd : Vals dvs ds)
    (I : Inv X pins σ H s) (r : Vals vs us) (h : sp (vs ++ dvs) H Q E) : wpAny (model X.prog X.w) X.A (call (.ref f) us) (EP X pins σ Q) X.xe s := by
  have r2 := r.append hd
  refine wpAny_call (codeAny_mono (F.run X.A X.stack s H ⟨us, []⟩ _ _ Q E hr hgd I.env0 (hb s us I.kIn (r2.length.symm.trans (F.len _ _ _ _ h))) r2 h) fun r s' hq => ?_)
  cases r with
  | error e => exact False.elim hq
  | ok fl => cases fl with
    | ret u => exact I.after hq
    | _ => exact False.elim hq
theorem pe_callG (F : FnG X.prog X.w X.K X.mg X.base k f fd ps sp) (hr : Room k X.A) (hgd : X.A.guards = some []) (hg : Gl X x) (hm : X.mg x = some (.ref f)) (hk : PySem.W.keepIn X.K (.ref f) = true) (hb : Binds X.K fd ps ds) (hd : Vals dvs ds)
    (ha : PA X (e :: es) t) (hdb : (x == ("__debug__" : Str)) = false := by decide) (he : starEach (e :: es) X.env = (false, eval e X.env) :: starEach es X.env := by rfl) (hpl : (backTo pos (starEach es X.env)).any (·.1) = false := by rfl) :
    PE X (.Call (.Name x p) (e :: es) [] pos) (tCall sp dvs E0 t) :=
  ⟨fun pins s σ H Q I h => wpAny_Call_Name_kw (ld_glob I hg hm (PySem.W.callWith_K (h₀ := X.base) I.ok.mod.kin hk (thn (ha.run pos pins _ σ H _ (I.tok _) h) fun us s1 ⟨vs, H1, I1, r, q⟩ => ⟨I1.kIn, run_fnG (E := E0) F hr hgd hb hd I1 r q⟩) he hpl) hdb)⟩
/-- repr of data -/
def rRepr (K : PySem.W.Frag) : List V → Hp → VK → Prop := fun xs H Q => ∃ x d, xs = [x] ∧ Dp K H x d ∧ d.showable = true ∧ d.canLay0 = true ∧ d.depth ≤ 60 ∧ d.shown.length ≤ sizeLine ∧ Q (.str d.shown) H
theorem call_reprD (hgd : X.A.guards = some []) (hu : X.A.units + 64 < cLine) : CallR X (.builtin "repr") (rRepr X.K) := by
  intro pins s σ H xs us Q I r h
  obtain ⟨x, d, rfl, hd, hs, hc, hp, hz, q⟩ := h
  obtain ⟨u, rfl, rx⟩ := vals1 r
  obtain ⟨as, rd⟩ := Dp.reads I d x u hd rx
  cases hd with
  | non =>
    cases rx
    exact PySem.P.repr_of_none ⟨.str _, H, I.tok _, ⟨_, rfl⟩, q⟩
  | bl b =>
    cases rx
    refine PySem.P.repr_of_bool ⟨.str _, H, I.tok _, ⟨_, rfl⟩, ?_⟩
    simpa [PyData.shown] using q
  | int i =>
    obtain ⟨t, rfl⟩ := rx
    refine PySem.P.repr_of_int (by simpa [PyData.showable] using hs) ⟨.str _, H, I.tok _, ⟨_, rfl⟩, ?_⟩
    simpa [PyData.shown] using q
  | str z =>
    obtain ⟨t, rfl⟩ := rx
    refine PySem.P.repr_of_str ⟨.str _, H, I.tok _, ⟨_, rfl⟩, ?_⟩ (by simpa [PyData.shown] using hz)
    simpa [PyData.shown] using q
  | lst _ _ =>
    cases rx
    exact repr_of_reads' rd hs (PyData.noDict_hsm (PyData.hasDict_of_canLay _ hc)) hgd (by omega) (fun _ _ e => e) (fun h' u tk hk => ⟨.str _, H, I.kept (t' := tk) hk, ⟨_, rfl⟩, q⟩) hz
  | tup _ _ =>
    cases rx
    exact repr_of_reads' rd hs (PyData.noDict_hsm (PyData.hasDict_of_canLay _ hc)) hgd (by omega) (fun _ _ e => e) (fun h' u tk hk => ⟨.str _, H, I.kept (t' := tk) hk, ⟨_, rfl⟩, q⟩) hz
end

/-! ### lists of ints put together -/
section
variable {K : PySem.W.Frag} {G H : Hp} {W : Wl} {Q : VK} {a b : Addr}
/-- a list of ints that stands whole -/
def HL (G : Hp) (a : Addr) (ns : List Int) : Prop := G a = some (.lst (ns.map V.int))
theorem HL.seq {ns : List Int} (h : HL G a ns) : SqL K G a (ns.map V.int) := SqL.of h
theorem HL.up {G' : Hp} {ns : List Int} (h : HL G a ns) (e : Same G G') : HL G' a ns := e _ _ h
theorem st_catI {xs ys : List Int} (ha : H a = some (.lst (xs.map V.int))) (hb : H b = some (.lst (ys.map V.int))) (hz : xs.length + ys.length ≤ 1000000) (w : Wd G W H) (k : ∀ p G' H', Same G G' → Wd G' W H' → HL G' p (xs ++ ys) → Q (.ref p) H') : rCat (.ref a) (.ref b) H Q := by
  refine ⟨a, b, _, _, rfl, rfl, ha, hb, small (by rw [List.length_map, List.length_map]; exact hz), fun p hp => ?_⟩
  rw [← List.map_append]
  exact k p _ _ (same_upd (w.free hp)) (w.new hp) upd_same
theorem st_catV {xs ys : List V} (ha : H a = some (.lst xs)) (hb : H b = some (.lst ys)) (hz : xs.length + ys.length ≤ 1000000) (w : Wd G W H) (k : ∀ p G' H', Same G G' → Wd G' W H' → G' p = some (.lst (xs ++ ys)) → Q (.ref p) H') : rCat (.ref a) (.ref b) H Q :=
  ⟨a, b, _, _, rfl, rfl, ha, hb, small hz, fun p hp => k p _ _ (same_upd (w.free hp)) (w.new hp) upd_same⟩
theorem flat_rep {α : Type} (n : Nat) (x : α) : (List.replicate n [x]).flatten = List.replicate n x := by
  induction n with
  | zero => rfl
  | succ n ih => rw [List.replicate_succ, List.flatten_cons, ih]; rfl
theorem st_repI {x k : Int} (ha : H a = some (.lst [.int x])) (h0 : 0 ≤ k) (h1 : k ≤ 1000000) (w : Wd G W H) (q : ∀ p G' H', Same G G' → Wd G' W H' → HL G' p (List.replicate k.toNat x) → Q (.ref p) H') : rRep (.ref a) (.int k) H Q := by
  refine ⟨a, k, _, rfl, rfl, ha, by omega, by omega, small (by simp; omega), fun p hp => ?_⟩
  rw [flat_rep]
  exact q p _ _ (same_upd (w.free hp)) (w.new hp) (by unfold HL; rw [upd_same, List.map_replicate])
theorem st_repI2 {xs : List Int} {k : Int} (ha : H a = some (.lst (xs.map V.int))) (h0 : 0 ≤ k) (h1 : xs.length * k.toNat ≤ 1000000) (h2 : k ≤ 1000000) (w : Wd G W H) (q : ∀ p G' H', Same G G' → Wd G' W H' → HL G' p (List.replicate k.toNat xs).flatten → Q (.ref p) H') : rRep (.ref a) (.int k) H Q := by
  refine ⟨a, k, _, rfl, rfl, ha, by omega, by omega, small (by rw [List.length_map]; exact h1), fun p hp => ?_⟩
  exact q p _ _ (same_upd (w.free hp)) (w.new hp) (by unfold HL; rw [upd_same, List.map_flatten, List.map_replicate])
theorem iteBT {c : Bool} {a b : Prop} (h : c = true) (q : a) : if c = true then a else b := by rw [if_pos h]; exact q
theorem iteBF {c : Bool} {a b : Prop} (h : c = false) (q : b) : if c = true then a else b := by rw [h]; exact L2.iteF q
theorem iteNT {a b : Prop} (h : a) : if (!false) = true then a else b := L2.iteT h
theorem iteNF {a b : Prop} (h : b) : if (!true) = true then a else b := L2.iteF h
theorem mem_two {v x y : V} {P : V → Prop} (h : v ∈ [x, y]) (h1 : P x) (h2 : P y) : P v := by
  rcases List.mem_cons.mp h with rfl | h
  · exact h1
  · rcases List.mem_cons.mp h with rfl | h
    · exact h2
    · exact nomatch h
end
section
variable {K : PySem.W.Frag} {H : Hp}
def dT (ns : List Int) : PyData := .tuple (ns.map .int)
theorem dp_tints {a : Addr} {ns : List Int} (h : SqT K H a (ns.map V.int)) : Dp K H (.ref a) (dT ns) := .tup h (dpInts ns)
theorem sh_tints (ns : List Int) : Sh 1 (dT ns) := Sh.tuple fun d hd => by
  obtain ⟨n, _, rfl⟩ := List.mem_map.mp hd
  exact .int n
theorem eqv_dT (a b : List Int) : PyData.eqv (dT a) (dT b) = decide (a = b) := by
  unfold dT PyData.eqv
  exact eqvAll_map _ eqv_int a b
/-- tuples of ints -/
theorem st_eqT {Q : VK} {a b : Addr} (xs ys : List Int) (hx : SqT K H a (xs.map V.int)) (hy : SqT K H b (ys.map V.int)) (q : Q (.bl (decide (xs = ys))) H) : rEqD K (.ref a) (.ref b) H Q :=
  st_eqD (dp_tints hx) (dp_tints hy) ((sh_tints xs).ok (by decide)) ((sh_tints ys).ok (by decide)) (eqv_dT xs ys) q
theorem st_neT {Q : VK} {a b : Addr} (xs ys : List Int) (hx : SqT K H a (xs.map V.int)) (hy : SqT K H b (ys.map V.int)) (q : Q (.bl (!decide (xs = ys))) H) : rNeD K (.ref a) (.ref b) H Q :=
  st_neD (dp_tints hx) (dp_tints hy) ((sh_tints xs).ok (by decide)) ((sh_tints ys).ok (by decide)) (eqv_dT xs ys) q
end
/-- all of a list -/
def AllP {α : Type} (P : α → Prop) : List α → Prop
  | [] => True
  | x :: xs => P x ∧ AllP P xs
theorem AllP.app {α : Type} {P : α → Prop} : ∀ {xs ys : List α}, AllP P xs → AllP P ys → AllP P (xs ++ ys)
  | [], _, _, h => h
  | _ :: _, _, h, h2 => ⟨h.1, AllP.app h.2 h2⟩
theorem AllP.of {α : Type} {P : α → Prop} : ∀ {xs : List α}, AllP P xs → ∀ x ∈ xs, P x
  | _ :: _, h, _, hx => by
    rcases List.mem_cons.mp hx with rfl | hx
    · exact h.1
    · exact AllP.of h.2 _ hx
/-! ### comprehensions whose elements change what may change -/
section
variable {K : PySem.W.Frag} {σ : L2.St} {H G : Hp} {D : Addr} {g : TG} {tt : TT} {te : TE} {vs : List Nat} {Q : VK} {a b : Addr} {xs ys : List V} {n : Nat}
theorem lc_goW {J : It} {Gp : Hp → Prop} {Y : Nat → Hp → V → Hp → Prop} (wk : Walk J n Gp Y) (Wf : Nat → Wl) (I : Nat → List V → Hp → Prop) (w : Wd G (Wf 0) H) (hG : ∀ G' W' H', Same G G' → Wd G' W' H' → Gp H') (h0 : I 0 [] G)
    (hs : ∀ i x D G' H' H'' acc, i < n → Same G G' → Wd G' ((D, Is (.lst acc)) :: Wf i) H' → I i acc G' → Y i H' x H'' → g x (wipe σ vs) H'' fun σ2 H2 => wipe σ2 vs = wipe σ vs ∧ tt σ2 H2 fun b H3 =>
      if b = true then te σ2 H3 fun y H4 => ∃ acc, H4 D = some (.lst acc) ∧ acc.length < sizeLine ∧ LcB I G (Wf (i + 1)) D (i + 1) (upd H4 D (.lst (acc ++ [y]))) else LcB I G (Wf (i + 1)) D (i + 1) H3)
    (hd : ∀ D G' H' acc, Same G G' → Wd G' ((D, Is (.lst acc)) :: Wf n) H' → I n acc G' → Q (.ref D) H') : LcQ J g tt te vs σ H Q := fun D hD =>
  lc_it wk (fun i => LcB I G (Wf i) D i) ⟨G, [], Same.refl _, w.newM hD rfl, h0⟩ (fun _ _ _ ⟨_, _, e, w', _⟩ => hG _ _ _ e w') (fun i x H' H'' hi ⟨G', acc, e, w', h⟩ y => hs i x D G' H' H'' acc hi e w' h y) fun H' ⟨G', acc, e, w', h⟩ => hd D G' H' acc e w' h
theorem lc_r1W {z : Int} {j : Nat} (hz : -(2 ^ 62) ≤ z ∧ z < 2 ^ 62) (Wf : Nat → Wl) (I : Nat → List V → Hp → Prop) (w : Wd G (Wf 0) H) (h0 : I 0 [] G) (hw : ∀ x, wipe ((wipe σ vs).set j x) vs = wipe σ vs)
    (hs : ∀ (i : Nat) D G' H' acc, (i : Int) < z → Same G G' → Wd G' ((D, Is (.lst acc)) :: Wf i) H' → I i acc G' → tt ((wipe σ vs).set j (some (.int (i : Int)))) H' fun b H3 =>
      if b = true then te ((wipe σ vs).set j (some (.int (i : Int)))) H3 fun y H4 => ∃ acc, H4 D = some (.lst acc) ∧ acc.length < sizeLine ∧ LcB I G (Wf (i + 1)) D (i + 1) (upd H4 D (.lst (acc ++ [y]))) else LcB I G (Wf (i + 1)) D (i + 1) H3)
    (hd : ∀ D G' H' acc, Same G G' → Wd G' ((D, Is (.lst acc)) :: Wf z.toNat) H' → I z.toNat acc G' → Q (.ref D) H') : ∃ j' : Int, [V.int z] = [.int j'] ∧ -(2 ^ 62) ≤ j' ∧ j' < 2 ^ 62 ∧ LcQ (Itr 0 j'.toNat) (gName j) tt te vs σ H Q :=
  ⟨z, rfl, hz.1, hz.2, lc_goW walk_range Wf I w (fun _ _ _ _ _ => trivial) h0 (fun i x D G' H' H'' acc hi e w' h y => by
    obtain ⟨rfl, rfl⟩ := y
    have e0 : (0 : Int) + (i : Int) = (i : Int) := Int.zero_add _
    dsimp only
    rw [e0]
    exact ⟨hw _, hs i D G' H'' acc (by omega) e w' h⟩) hd⟩
end
section
variable {K : PySem.W.Frag} {σ : L2.St} {H G : Hp} {W : Wl} {Q : VK} {a b : Addr} {xs ys : List V}
theorem st_chain {r r' : R2} {ta tb tc : TE} (h : ta σ H fun x H1 => tb σ H1 fun y H2 => r x y H2 fun z H3 => ∃ k, z = .bl k ∧ (if k = true then tc σ H3 fun w' H4 => r' y w' H4 Q else Q (.bl false) H3)) : tChain r r' ta tb tc σ H Q := h
theorem st_gtup {n : Nat} {t : TGs} {QS : L2.St → Hp → Prop} (hx : SqT K H a xs) (hl : xs.length = n) (h : t xs σ H QS) : gTup K n t (.ref a) σ H QS := ⟨a, xs, rfl, hx, hl, h⟩
theorem st_gcons {v : V} {r : List V} {t : TG} {u : TGs} {QS : L2.St → Hp → Prop} (h : t v σ H fun σ' H' => u r σ' H' QS) : gCons t u (v :: r) σ H QS := ⟨v, r, rfl, h⟩
theorem st_gnil {QS : L2.St → Hp → Prop} (h : QS σ H) : gNil [] σ H QS := ⟨rfl, h⟩
theorem Wd.is1 {o : HO} (w : Wd G ((a, Is o) :: W) H) : H a = some o := by
  obtain ⟨o', h, rfl⟩ := w.get List.mem_cons_self
  exact h
theorem st_appL {y : V} (h : H a = some (.lst xs)) (hl : xs.length < 1000000) (q : Q .non (upd H a (.lst (xs ++ [y])))) : rAppend (.ref a) [y] H Q := ⟨a, xs, y, rfl, rfl, h, small' (Nat.le_of_lt hl), q⟩
theorem st_sl {r : V → Option Int → Option Int → Hp → VK → Prop} {te : TE} {tl th : TO} (h : te σ H fun x H1 => tl σ H1 fun l H2 => th σ H2 fun u H3 => r x l u H3 Q) : tSl r te tl th σ H Q := h
theorem st_noPart {Q : Option Int → Hp → Prop} (q : Q none H) : tNoPart σ H Q := q
theorem st_part {Q : Option Int → Hp → Prop} {t : TE} (h : t σ H fun x H1 => ∃ i, x = .int i ∧ Q (some i) H1) : tPart t σ H Q := h
theorem cut_lo {xs : List V} {i : Int} (h0 : 0 ≤ i) (h1 : i ≤ xs.length) : cutV xs none (some i) = xs.take i.toNat := by
  unfold cutV
  simp only [HT.sIx, if_neg (show ¬ i < 0 by omega)]
  rw [List.drop_zero, Nat.sub_zero, Nat.min_eq_left (by omega)]
theorem cut_hi {xs : List V} {i : Int} (h0 : 0 ≤ i) (h1 : i ≤ xs.length) : cutV xs (some i) none = xs.drop i.toNat := by
  unfold cutV
  simp only [HT.sIx, if_neg (show ¬ i < 0 by omega)]
  rw [Nat.min_eq_left (by omega), List.take_of_length_le]
  rw [List.length_drop]
  omega
theorem st_slL {lo hi : Option Int} (h : SqL K H a xs) (w : Wd G W H) (q : ∀ p G' H', Same G G' → Wd G' W H' → G' p = some (.lst (cutV xs lo hi)) → Q (.ref p) H') : rSlL K (.ref a) lo hi H Q := ⟨a, xs, rfl, h, NewO.good w q⟩
theorem dw_ok {i j : Int} (h0 : 0 < j) (h1 : j < 2 ^ 250) : CDivW i j := by
  have h2 : j.natAbs.log2 < 250 := (Nat.log2_lt (by omega)).mpr (by omega)
  exact ⟨h0, by omega⟩
theorem pw_ok {i j : Int} (h0 : 0 ≤ i) (h1 : i < 2 ^ 100) (h2 : 0 ≤ j) (h3 : j ≤ 1000) : CPowW i j := by
  refine ⟨h2, ?_⟩
  have h4 : Builtin.Int.intBits i ≤ 100 := PyProof.Rows.intBits_le (by omega)
  have h5 : (Builtin.Int.intBits i : Int) ≤ 100 := by omega
  have h6 := Int.mul_le_mul h5 h3 h2 (by decide)
  omega
end
/-! ### the law itself -/
section
variable {P : Program} {w : World} {K : PySem.W.Frag} {mg mb : Str → Option Value} {k : Nat} {fa a : Addr} {fd : FuncData} {x : Str} {sp : Sp} {s₁ : Shared} {vs : List Value} {ns : List Int}
/-- the heap behind the top without what H tells -/
theorem hid_ns {h : Heap} {H : Hp} {b : Addr} {m : Str → Option Value} {va : Array Value} (hA : ∀ b, H b ≠ none → b = a) (ha : h.get? a = some { cls := .type "list", data := .seq va }) (n : h.Ns b m) : (hidT h H).Ns b m := by
  obtain ⟨o, es, ep, e, d, r⟩ := n
  refine ⟨o, es, ep, hidT_get e ?_, d, r⟩
  cases q : H b with
  | none => rfl
  | some u =>
    rw [hA b (by rw [q]; exact fun z => nomatch z), ha] at e
    have e2 := Option.some.inj e
    rw [← e2] at d
    exact nomatch d
theorem law_core (KX : K.In s₁.heap) (hns : s₁.heap.Ns mainGlobals mg) (hb : s₁.heap.Ns builtinsNs mb) (hbb : ∀ x : Str, x ≠ "__name__" → mb x = bootBuiltins x) (hlim : s₁.heap.NoLimit) (hg : s₁.gens = #[])
    (ha : s₁.heap.get? a = some { cls := .type "list", data := .seq vs.toArray }) (hr : Room k callerA) (F : ∀ base : Heap, K.In base → base.Ns mainGlobals mg → FnG P w K mg base k fa fd [x] sp) (hbind : ∀ (s : Shared) (u : Value), BindsTo s fd ⟨[u], []⟩ [(x, u)])
    {H : Hp} (hO : Only H) (hsp : sp [.ref a] H (fun v _ => v = .bl true) fun _ _ _ => False) (hok : HOk P w H s₁.heap) (hA : ∀ b, H b ≠ none → b = a) (hK : H a ≠ none → K.lookup a = none) :
    codeAny (model P w) callerA (.call (.ref fa) ⟨[.ref a], []⟩) (fun r s' => r = .ok (.ret (.bool true)) ∧ OldK s₁.heap s'.heap ∧ s'.os = s₁.os ∧ AllBare s'.gens) s₁ := by
  have hKb : K.In (hidT s₁.heap H) := fun b o e => hidT_get (KX b o e) (by
    cases q : H b with
    | none => rfl
    | some u =>
      have n : H b ≠ none := by rw [q]; exact fun z => nomatch z
      have eb := hA b n
      rw [eb] at n e
      rw [hK n] at e
      exact nomatch e)
  have M : Mod K mg (hidT s₁.heap H) := ⟨hKb, hid_ns hA ha hns, ⟨mb, hid_ns hA ha hb, hbb⟩, let ⟨mc, h1, h2⟩ := hlim; ⟨mc, hid_ns hA ha h1, h2⟩⟩
  have e0 : Env0 P w K mg (hidT s₁.heap H) callerA [] s₁ H := ⟨rfl, M, fun b o e => of_hidT e, Nat.le_of_eq (hidT_size _ _), trivial, fun b z => (List.not_mem_nil z).elim, hok, .of_eq hg⟩
  refine codeAny_mono ((F _ hKb (hid_ns hA ha hns)).run callerA [] s₁ H ⟨[.ref a], []⟩ [.ref a] [.ref a] _ _ hr rfl e0 (hbind s₁ (.ref a)) (.cons rfl .nil) hsp) fun r s' h => ?_
  cases r with
  | error e => exact False.elim h
  | ok fl => cases fl with
    | ret u =>
      obtain ⟨v, H', os, bare, un, hok', r', q⟩ := h
      cases (show v = .bl true from q)
      cases (show u = Value.bool true from r')
      refine ⟨rfl, OldK.of_keep fun b o e => ?_, os, bare⟩
      cases z : H b with
      | none => exact un.keep b o e z (List.not_mem_nil) (List.not_mem_nil)
      | some u =>
        rcases hO b with y | ⟨ob, xs, y⟩
        · rw [z] at y
          cases y
        · have e1 := (hok b _ y).1
          have e2 := (hok' b _ (un.frzs b ob _ y)).1
          rw [e] at e1
          cases e1
          exact e2
    | _ => exact False.elim h
theorem law_callG (KX : K.In s₁.heap) (hns : s₁.heap.Ns mainGlobals mg) (hb : s₁.heap.Ns builtinsNs mb) (hbb : ∀ x : Str, x ≠ "__name__" → mb x = bootBuiltins x) (hlim : s₁.heap.NoLimit) (hg : s₁.gens = #[])
    (ha : s₁.heap.get? a = some { cls := .type "list", data := .seq vs.toArray }) (hi : IntsAre vs ns) (hl : ns.length ≤ sizeLine) (hr : Room k callerA) (F : ∀ base : Heap, K.In base → base.Ns mainGlobals mg → FnG P w K mg base k fa fd [x] sp)
    (hbind : ∀ (s : Shared) (u : Value), BindsTo s fd ⟨[u], []⟩ [(x, u)]) (hsp : ∀ H : Hp, Only H → SqL K H a (ns.map V.int) → sp [.ref a] H (fun v _ => v = .bl true) fun _ _ _ => False) :
    codeAny (model P w) callerA (.call (.ref fa) ⟨[.ref a], []⟩) (fun r s' => r = .ok (.ret (.bool true)) ∧ OldK s₁.heap s'.heap ∧ s'.os = s₁.os ∧ AllBare s'.gens) s₁ := by
  have rv := vals_ints hi
  cases hk : K.lookup a with
  | some o =>
    have e := KX a o hk
    rw [ha] at e
    cases e
    have hO : Only fun _ => none := fun _ => .inl rfl
    exact law_core KX hns hb hbb hlim hg ha hr F hbind hO (hsp _ hO (.inr ⟨_, vs.toArray, _, hk, rfl, rfl, rfl, by rw [List.size_toArray, hi.length]; exact hl, by simpa using rv⟩)) (fun b u z => nomatch z) (fun b z => (z rfl).elim) fun z => (z rfl).elim
  | none =>
    have hO : Only fun b => if b = a then some (.frz { cls := .type "list", data := .seq vs.toArray } (.lst (ns.map V.int))) else none := fun b => by
      by_cases z : b = a
      · exact .inr ⟨_, _, if_pos z⟩
      · exact .inl (if_neg z)
    refine law_core KX hns hb hbb hlim hg ha hr F hbind hO (hsp _ hO (.inl (.inr ⟨_, if_pos rfl⟩))) (fun b u z => ?_) (fun b z => ?_) fun _ => hk
    · by_cases y : b = a
      · have z2 := (if_pos y).symm.trans z
        cases z2
        cases y
        exact ⟨ha, by rw [List.length_map]; exact hl, vs, _, rv, ha⟩
      · exact nomatch (if_neg y).symm.trans z
    · exact Decidable.byContradiction fun y => z (if_neg y)
end
theorem walk_G {l : PySem.W.OpenLaw} {n k : Nat} {q : Program} {loose : List Str} {XP : (Str → Option Value) → Heap → Prop} {YP : World → Heap → Prop} {d : DefRec} {K : Params → PySem.W.Frag} {sp : World → Sp} {x : Str} (hn : l.most = some n) (hn2 : n ≤ sizeLine) (hdf : d.params.defaults = [])
    (hr : Room k callerA) (hY : ∀ (w : World) (h : Heap), YP w h → (K w.params).In h)
    (F : ∀ (w : World) (mg : Str → Option Value) (fa : Addr) (h : Heap), (K w.params).In h → h.Ns mainGlobals mg → mg d.name = some (.ref fa) →
      ∃ fd : FuncData, (∀ (s : Shared) (u : Value), BindsTo s fd ⟨[u], []⟩ [(x, u)]) ∧ ∀ base : Heap, (K w.params).In base → base.Ns mainGlobals mg → FnG l.prog w (K w.params) mg base k fa fd [x] (sp w))
    (hsp : ∀ (w : World) (H : Hp) (a : Addr) (ns : List Int), ns.length ≤ n → Only H → SqL (K w.params) H a (ns.map V.int) → sp w [.ref a] H (fun v _ => v = .bl true) fun _ _ _ => False) :
    PySem.W.WalkO q loose XP YP l.row.toRowW d [] (fun f vs => PySem.call f vs) := by
  refine Att.attach_call hn hdf fun w s₀ s₁ mg mb fa o pm cd doc a vs ns G Y ho hd hcd hmg hobj hints hlen hg => ?_
  obtain ⟨fd, hb, hF⟩ := F w mg fa _ (hY w _ Y) G.T.g hmg
  exact law_callG (hY w _ Y) G.T.g G.T.b G.T.builtins G.T.nolimit hg hobj hints (Nat.le_trans hlen hn2) hr hF hb fun H hO hS => hsp w H a ns hlen hO hS
end Z

/-! data of a small size: kinds, repr, places in lists -/
namespace Z
open PySem PySem.Spec PyProof.Rows L2
/-- data whose repr may be asked: n deep -/
def Od (n : Nat) (d : PyData) : Prop := (d.canLay0 && d.showable && d.intsShort 60) = true ∧ d.depth ≤ n ∧ d.weight ≤ 200 * 10 ^ n
instance (n : Nat) (d : PyData) : Decidable (Od n d) := by unfold Od; infer_instance
theorem Od.mono {m n : Nat} {d : PyData} (h : Od m d) (e : m ≤ n) : Od n d := ⟨h.1, Nat.le_trans h.2.1 e, Nat.le_trans h.2.2 (Nat.mul_le_mul_left _ (Nat.pow_le_pow_right (by decide) e))⟩
theorem od_all {n : Nat} : ∀ {ds : List PyData}, (∀ d ∈ ds, Od n d) → (PyData.canLayAll0 ds && PyData.showableAll ds && PyData.intsShortAll 60 ds) = true ∧ PyData.depthAll ds ≤ n ∧ PyData.weightAll ds ≤ ds.length * (200 * 10 ^ n + 1)
  | [], _ => ⟨rfl, Nat.zero_le _, Nat.zero_le _⟩
  | d :: ds, h => by
    obtain ⟨a1, a2, a3⟩ := h d List.mem_cons_self
    obtain ⟨b1, b2, b3⟩ := od_all (ds := ds) fun x hx => h x (List.mem_cons_of_mem _ hx)
    simp only [Bool.and_eq_true] at a1 b1
    refine ⟨?_, ?_, ?_⟩
    · unfold PyData.canLayAll0 PyData.showableAll PyData.intsShortAll
      rw [a1.1.1, a1.1.2, a1.2, b1.1.1, b1.1.2, b1.2]
      rfl
    · unfold PyData.depthAll
      exact Nat.max_le.mpr ⟨a2, b2⟩
    · unfold PyData.weightAll
      rw [List.length_cons, Nat.add_mul]
      omega
theorem od_weight {n k : Nat} (h : k ≤ 9) : k * (200 * 10 ^ n + 1) ≤ 200 * 10 ^ (n + 1) := by
  have h1 : 1 ≤ 10 ^ n := Nat.pow_pos (by decide)
  have h2 : k * (200 * 10 ^ n + 1) ≤ 9 * (200 * 10 ^ n + 1) := Nat.mul_le_mul_right _ h
  rw [Nat.pow_succ]
  omega
theorem Od.list {n : Nat} {ds : List PyData} (h : ∀ d ∈ ds, Od n d) (hl : ds.length ≤ 9) : Od (n + 1) (.list ds) := by
  obtain ⟨a, b, c⟩ := od_all h
  refine ⟨?_, ?_, ?_⟩
  · unfold PyData.canLay0 PyData.showable PyData.intsShort
    exact a
  · unfold PyData.depth
    exact Nat.succ_le_succ b
  · unfold PyData.weight
    exact Nat.le_trans c (od_weight hl)
theorem Od.tuple {n : Nat} {ds : List PyData} (h : ∀ d ∈ ds, Od n d) (hl : ds.length ≤ 9) : Od (n + 1) (.tuple ds) := by
  obtain ⟨a, b, c⟩ := od_all h
  refine ⟨?_, ?_, ?_⟩
  · unfold PyData.canLay0 PyData.showable PyData.intsShort
    exact a
  · unfold PyData.depth
    exact Nat.succ_le_succ b
  · unfold PyData.weight
    exact Nat.le_trans c (od_weight hl)
/-- a longer list, its elements light -/
theorem weightAll_le {w0 : Nat} : ∀ {ds : List PyData}, (∀ d ∈ ds, d.weight ≤ w0) → PyData.weightAll ds ≤ ds.length * (w0 + 1)
  | [], _ => Nat.zero_le _
  | d :: ds, h => by
    have h1 := h d List.mem_cons_self
    have h2 := weightAll_le (ds := ds) fun x hx => h x (List.mem_cons_of_mem _ hx)
    unfold PyData.weightAll
    rw [List.length_cons, Nat.add_mul]
    omega
theorem Od.listW {n w0 : Nat} {ds : List PyData} (h : ∀ d ∈ ds, Od n d) (hw : ∀ d ∈ ds, d.weight ≤ w0) (hl : ds.length * (w0 + 1) ≤ 200 * 10 ^ (n + 1)) : Od (n + 1) (.list ds) ∧ (PyData.list ds).weight ≤ ds.length * (w0 + 1) := by
  obtain ⟨a, b, c⟩ := od_all h
  refine ⟨⟨?_, ?_, ?_⟩, ?_⟩
  · unfold PyData.canLay0 PyData.showable PyData.intsShort
    exact a
  · unfold PyData.depth
    exact Nat.succ_le_succ b
  · unfold PyData.weight
    exact Nat.le_trans (weightAll_le hw) hl
  · unfold PyData.weight
    exact weightAll_le hw
theorem log_lt {i : Int} {k : Nat} (h : i.natAbs < 2 ^ k) (h0 : 0 < k) : i.natAbs.log2 < k := by
  by_cases e : i.natAbs = 0
  · rw [e]
    exact h0
  · exact (Nat.log2_lt e).mpr h
theorem short13 {i : Int} (h : -999999999999 < i ∧ i < 999999999999) : (PyData.shown (.int i)).length ≤ 13 := by
  have h2 := intsShort_of_noneOrIn (lo := -999999999999) (hi := 999999999999) (by decide) (by decide) (.int i) (by simp [noneOrIn, h])
  unfold PyData.intsShort at h2
  exact of_decide_eq_true h2
theorem Od.int {n : Nat} {i : Int} (h : -999999999999 < i ∧ i < 999999999999) : Od n (.int i) := by
  have hl : i.natAbs.log2 < 64 := log_lt (by omega) (by decide)
  refine ⟨?_, ?_, ?_⟩
  · unfold PyData.canLay0 PyData.showable PyData.intsShort
    rw [decide_eq_true (show i.natAbs.log2 < 1920 by omega), decide_eq_true (Nat.le_trans (short13 h) (by decide))]
    rfl
  · unfold PyData.depth
    exact Nat.zero_le _
  · have h1 : 1 ≤ 10 ^ n := Nat.pow_pos (by decide)
    unfold PyData.weight
    split <;> omega
theorem Od.bool {n : Nat} (b : Bool) : Od n (.bool b) := (show Od 0 (.bool b) by cases b <;> decide).mono (Nat.zero_le _)
theorem strOk_of (s : String) : PyData.strOk (Str.ofString s) = true := by
  rw [Str.ofString_eq_toList]
  unfold PyData.strOk
  rw [List.all_toArray, List.all_eq_true]
  intro n hn
  obtain ⟨c, _, rfl⟩ := List.mem_map.mp hn
  refine decide_eq_true ?_
  rcases c.valid with h | h
  · exact Nat.lt_trans (show c.toNat < 55296 from h) (by decide)
  · exact h.2
theorem Od.strInt {n : Nat} {i : Int} (h : -999999999999 < i ∧ i < 999999999999) : Od n (.str (toString i)) := by
  have h2 : ((toString i : Str)).length ≤ 13 := by
    have := short13 h
    unfold PyData.shown at this
    exact this
  refine ⟨?_, ?_, ?_⟩
  · unfold PyData.canLay0 PyData.showable PyData.intsShort
    rw [strOk_of]
    rfl
  · unfold PyData.depth
    exact Nat.zero_le _
  · have h1 : 1 ≤ 10 ^ n := Nat.pow_pos (by decide)
    unfold PyData.weight
    have h3 : (toString i : Str).cps.size = (toString i : Str).length := rfl
    omega
theorem Od.rep {n : Nat} {d : PyData} (h : Od n d) (hn : n ≤ 3) : d.showable = true ∧ d.canLay0 = true ∧ d.depth ≤ 60 ∧ d.shown.length ≤ sizeLine := by
  obtain ⟨a, b, c⟩ := h
  simp only [Bool.and_eq_true] at a
  refine ⟨a.1.2, a.1.1, by omega, ?_⟩
  have h1 := PyData.shown_le 60 (by decide) d (PyData.leavesShort_of_canLay0 60 d a.1.1 a.2)
  have h2 : 10 ^ n ≤ 10 ^ 3 := Nat.pow_le_pow_right (by decide) hn
  have h3 : sizeLine = 16777216 := by decide
  omega
section
variable {X : Cx} {K : PySem.W.Frag} {G H : Hp} {x : V} {d : PyData} {Q : VK}
theorem st_repr {n : Nat} (h : Dp K H x d) (o : Od n d) (hn : n ≤ 3) (q : Q (.str d.shown) H) : rRepr K [x] H Q := let ⟨h1, h2, h3, h4⟩ := o.rep hn; ⟨x, d, rfl, h, h1, h2, h3, h4, q⟩
def nm : PyData → String
  | .none => "NoneType"
  | .bool _ => "bool"
  | .int _ => "int"
  | .str _ => "str"
  | .list _ => "list"
  | .tuple _ => "tuple"
  | .dict _ => "dict"
theorem dp_ty (h : Dp K H x d) : TyX K H x (.type (nm d)) := by
  cases h with
  | non => exact .base .non
  | bl b => exact .base (.bl b)
  | int i => exact .base (.int i)
  | str s => exact .base (.str s)
  | lst h _ => exact tyL h
  | tup h _ => exact tyT h
theorem dp_knd (h : Dp K H x d) : Knd K H x := by
  cases h with
  | non => exact .non
  | bl b => exact .bl b
  | int i => exact .int i
  | str s => exact .str s
  | lst h _ => exact .lst h
  | tup h _ => exact .tup h
def isTup : PyData → Bool
  | .tuple _ => true
  | _ => false
def isLst : PyData → Bool
  | .list _ => true
  | _ => false
def isI : PyData → Bool
  | .int _ => true
  | _ => false
def inR (lo hi : Int) : PyData → Bool
  | .int i => decide (lo ≤ i) && decide (i ≤ hi)
  | _ => false
theorem isInt_d (h : Dp K H x d) : isInt x = isI d := by cases h <;> rfl
theorem inRange_d {lo hi : Int} (h : Dp K H x d) : inRange lo hi x = inR lo hi d := by cases h <;> rfl
theorem isiD {T : String} {b : Bool} (h : Dp K H x d) (e : kitB (nm d) T = some b) (q : Q (.bl b) H) : rIsi K [x, .ty T] H Q := ⟨_, _, _, _, b, rfl, .ty _, dp_ty h, kit_ty e, q⟩
theorem kit_tup : kitB (nm d) "tuple" = some (isTup d) := by
  cases d with
  | none => exact (show kitB "NoneType" "tuple" = some false by decide +kernel)
  | bool b => exact (show kitB "bool" "tuple" = some false by decide +kernel)
  | int b => exact (show kitB "int" "tuple" = some false by decide +kernel)
  | str b => exact (show kitB "str" "tuple" = some false by decide +kernel)
  | list b => exact (show kitB "list" "tuple" = some false by decide +kernel)
  | tuple b => exact (show kitB "tuple" "tuple" = some true by decide +kernel)
  | dict b => exact (show kitB "dict" "tuple" = some false by decide +kernel)
theorem kit_lst : kitB (nm d) "list" = some (isLst d) := by
  cases d with
  | none => exact (show kitB "NoneType" "list" = some false by decide +kernel)
  | bool b => exact (show kitB "bool" "list" = some false by decide +kernel)
  | int b => exact (show kitB "int" "list" = some false by decide +kernel)
  | str b => exact (show kitB "str" "list" = some false by decide +kernel)
  | list b => exact (show kitB "list" "list" = some true by decide +kernel)
  | tuple b => exact (show kitB "tuple" "list" = some false by decide +kernel)
  | dict b => exact (show kitB "dict" "list" = some false by decide +kernel)
theorem isiLT {p : Addr} (hp : H p = some (.tup [.ty "list", .ty "tuple"])) (h : Dp K H x d) (q : Q (.bl (isLst d || isTup d)) H) : rIsiT K [x, .ref p] H Q := by
  refine ⟨_, p, _, _, _, isLst d || isTup d, rfl, hp, .cons (.ty _) (.cons (.ty _) .nil), dp_ty h, ?_, q⟩
  refine kB (r := isLst d) kit_lst (fun e => ?_) (fun e => by rw [e]; rfl)
  refine kB (r := isTup d) kit_tup (fun e2 => ?_) (fun e2 => by rw [e, e2]; rfl)
  rw [e, e2]
  rfl
end
section
variable {K : PySem.W.Frag} {G G' H : Hp} {W : Wl} {Q : VK} {v : V} {xs : List V} {n : Nat}
def SomeN (n : Nat) (K : PySem.W.Frag) (G : Hp) (v : V) : Prop := ∃ d, Dp K G v d ∧ Od n d
theorem SomeN.up (e : Same G G') (h : SomeN n K G v) : SomeN n K G' v := let ⟨d, h1, h2⟩ := h; ⟨d, dmono e h1, h2⟩
theorem SomeN.mono {m : Nat} (h : SomeN n K G v) (e : n ≤ m) : SomeN m K G v := let ⟨d, h1, h2⟩ := h; ⟨d, h1, h2.mono e⟩
theorem AllP.mk {α : Type} {P : α → Prop} : ∀ {xs : List α}, (∀ x ∈ xs, P x) → AllP P xs
  | [], _ => trivial
  | x :: _, h => ⟨h x List.mem_cons_self, AllP.mk fun y hy => h y (List.mem_cons_of_mem _ hy)⟩
theorem allN {n : Nat} : ∀ {xs : List V}, AllP (SomeN n K G) xs → ∃ ds, DpAll K G xs ds ∧ (∀ d ∈ ds, Od n d) ∧ ds.length = xs.length
  | [], _ => ⟨[], .nil, (fun _ h => nomatch h), rfl⟩
  | x :: xs, h => by
    obtain ⟨d, h1, h2⟩ := h.1
    obtain ⟨ds, h3, h4, h5⟩ := allN h.2
    refine ⟨d :: ds, .cons h1 h3, fun y hy => ?_, by rw [List.length_cons, List.length_cons, h5]⟩
    rcases List.mem_cons.mp hy with rfl | hy
    · exact h2
    · exact h4 y hy
theorem SomeN.lst {a : Addr} (hs : SqL K G a xs) (h : AllP (SomeN n K G) xs) (hl : xs.length ≤ 9) : SomeN (n + 1) K G (.ref a) := by
  obtain ⟨ds, h1, h2, h3⟩ := allN h
  exact ⟨.list ds, .lst hs h1, Od.list h2 (by omega)⟩
theorem SomeN.tup {a : Addr} (hs : SqT K G a xs) (h : AllP (SomeN n K G) xs) (hl : xs.length ≤ 9) : SomeN (n + 1) K G (.ref a) := by
  obtain ⟨ds, h1, h2, h3⟩ := allN h
  exact ⟨.tuple ds, .tup hs h1, Od.tuple h2 (by omega)⟩
theorem AllP.up (e : Same G G') (h : AllP (SomeN n K G) xs) : AllP (SomeN n K G') xs := AllP.mk fun x hx => (AllP.of h x hx).up e
theorem at_some {i : Int} (h0 : 0 ≤ i) (h1 : i < xs.length) : ∃ v, atI xs i = some v ∧ v ∈ xs := by
  obtain ⟨v, hv⟩ : ∃ v, xs[i.toNat]? = some v := ⟨_, List.getElem?_eq_getElem (by omega)⟩
  exact ⟨v, by rw [show i = (i.toNat : Int) by omega]; exact atI_nat hv, List.mem_of_getElem? hv⟩
end
end Z

/-! sets of ints out of lists, sorted; while; lists or tuples by index -/
namespace Z
open PySem PySem.Spec PyProof.Rows L2
/-- an empty set -/
def sObj (w : World) : Obj := { cls := .type "set", dict := none, data := .set #[] 0 (.fresh 0 0 (!w.params.followText "set-order")) }
section
variable {P : Program} {w : World} {A : Around} {E : Value → Shared → Prop} {s : Shared} {p0 : Addr} {its : Array Value} {Q : Value → Shared → Prop}
theorem set_of_list (zs : List Int) (h0 : A.handled = none) (hL : s.heap.IsList p0 its) (hI : IntsAre its.toList zs) (hB : zs.length + 1 < scanBound)
    (k : ∀ (h2 : Heap) (tk c : Nat), SetR w h2 s.heap.objs.size (fun j => decide (j ∈ zs)) c → c ≤ zs.length → (∀ b o, s.heap.get? b = some o → h2.get? b = some o) → Q (.ref s.heap.objs.size) { s with heap := h2, toks := tk }) :
    wpAny (model P w) A (call (.type "set") [.ref p0]) Q E s := by
  have hz : its.size = zs.length := by
    have q := IntsAre.length hI
    rwa [Array.length_toList] at q
  obtain ⟨c1, tl1, mr⟩ := PySem.F.called_set.mro
  have f1 := PySem.F.called_set.made
  have f2 := PySem.F.called_set.sub
  refine wpAny_call (codeAny_of_tree (show wpAny _ _ (callAny (.type "set") _) _ _ _ from wpAny_pure ⟨Code.quiet_builtin _ (by decide +kernel), codeAny_builtin PySem.F.entry_type_call ?_⟩))
  rw [Around.under_plain (weight_type_call_type "set" [.ref p0] []) rfl]
  have f3 := PySem.F.called_set.notType
  have f4 := PySem.F.called_set.canCreate
  have f5 := PySem.F.typeCall_set_1 (.ref p0)
  repeat (any_goals (first | assumption | wp_step))
  refine codeAny_mono (code_set_led1 (.ref p0) (E := E) (Q₁ := fun x t => x = .ref s.heap.objs.size ∧ t = { s with heap := s.heap.push (sObj w) }) ⟨rfl, rfl⟩) fun r t hr => ?_
  match r, hr with
  | .error _, hr => exact hr
  | .ok (.ret x), hr =>
    obtain ⟨rfl, rfl⟩ := hr
    have gS : (s.heap.push (sObj w)).get? s.heap.objs.size = some (sObj w) := Heap.get?_push_size _ rfl
    have tS : Shared.TypeIs { s with heap := s.heap.push (sObj w) } (.ref s.heap.objs.size) "set" := ⟨_, gS, rfl⟩
    have f6 := PySem.F.called_set.init.lookup
    have f7 := PySem.F.called_set.init.bind (.ref s.heap.objs.size)
    repeat (any_goals (first | assumption | wp_step))
    refine codeAny_mono (codeAny_call_builtin (R := wants (fun r t => r = .none ∧ ∃ h2 tk c, t = { s with heap := h2, toks := tk } ∧ SetR w h2 s.heap.objs.size (fun j => decide (j ∈ zs)) c ∧ c ≤ zs.length ∧
      ∀ b o, s.heap.get? b = some o → h2.get? b = some o) E) PySem.F.called_set.init.plain PySem.F.entry_set_init (check_set_init_1 tS ?_)) fun r t hr => ?_
    · obtain ⟨⟨oc, od, odt, osl⟩, e1, e2, nl, e3⟩ := hL
      simp only at e2 e3
      subst e2
      subst e3
      have g1 : (s.heap.push (sObj w)).get? p0 = some { cls := .type "list", dict := od, data := .seq its nl, slots := osl } := Heap.get?_push_of_some _ e1
      have f8 := PySem.F.sub_list_set
      have f9 := PySem.F.sub_list_frozenset
      have fA : (Value.type "list" == Value.type "dict") = false := by decide
      have iL : (s.heap.push (sObj w)).IsList p0 its := ⟨_, g1, rfl, nl, rfl⟩
      unfold Builtin.«set.__init__» noKeywords Builtin.Frozenset.updateFrom
      generalize hPI : pyIter = PI
      wp_walk
      subst hPI
      refine wpAny_pyIter_list iL ?_
      refine wpAny_bind (wpAny_runValue ?_)
      have lt0 : p0 < s.heap.objs.size := Heap.lt_size e1
      have h3 : A.in1.in1.in1.handled = none := by simp [h0]
      have sz1 : (s.heap.push (sObj w)).objs.size = s.heap.objs.size + 1 := Heap.size_push ..
      have ne1 : p0 ≠ (s.heap.push (sObj w)).objs.size := by rw [sz1]; exact Nat.ne_of_lt (Nat.lt_succ_of_lt lt0)
      have nf : s.heap.objs.size ∉ [(s.heap.push (sObj w)).objs.size, p0] := by
        rw [sz1]
        simp only [List.mem_cons, List.not_mem_nil, or_false, not_or]
        exact ⟨Nat.ne_of_lt (Nat.lt_succ_self _), Nat.ne_of_gt lt0⟩
      have hv : ∀ (i : Nat) (v : Value), its[i]? = some v → ∃ k t, zs[i]? = some k ∧ v = .int k t := fun i v hv => by
        have hi : i < zs.length := by rw [← hz]; exact (Array.getElem?_eq_some_iff.mp hv).1
        obtain ⟨t, e⟩ := PyProof.Rows.IntsAre.int_at hI i v (by rw [Array.getElem?_toList]; exact hv)
        refine ⟨zs[i], t, List.getElem?_eq_getElem hi, ?_⟩
        rw [e, List.getD_eq_getElem?_getD, List.getElem?_eq_getElem hi] <;> rfl
      refine set_update_ints ((Walks.list h3 _ p0 ne1 its).toS) s.heap.objs.size nf zs hz hB hv (its.size - 0) 0 _ (by omega) (Nat.zero_le _) ⟨⟨_, Heap.get?_push_size _ rfl, rfl, rfl⟩, iL.push _⟩ ?_ ?_
      · exact ⟨0, Nat.le_refl 0, setR_new_at (Heap.get?_push_of_some _ gS)⟩
      · intro t c hm hc hS
        obtain ⟨h2, g2, d2, tk, os2⟩ := t
        have x1 : g2 = s.gens := hm.gens
        have x2 : d2 = s.drawn := hm.drawn
        have x3 : os2 = s.os := hm.os
        subst x1
        subst x2
        subst x3
        refine show wpAny _ _ _ _ _ _ from wpAny_pure (show wpAny _ _ (ret Value.none) _ _ _ from wpAny_pure ⟨rfl, h2, tk, c, rfl, hS, by omega, fun b o e => ?_⟩)
        have y0 : b < s.heap.objs.size := Heap.lt_size e
        refine hm.heap b o ?_ (Heap.get?_push_of_some _ (Heap.get?_push_of_some _ e))
        simp only [List.mem_cons, List.not_mem_nil, or_false, not_or]
        refine ⟨Nat.ne_of_lt y0, ?_⟩
        rw [sz1]
        exact Nat.ne_of_lt (Nat.lt_succ_of_lt y0)
    · match r, hr with
      | .error _, hr => exact hr
      | .ok (.ret x), hr =>
        obtain ⟨rfl, h2, tk, c, rfl, hS, hc, hk⟩ := hr
        repeat (any_goals (first | assumption | wp_step))
        exact k _ _ _ hS hc hk
      | .ok .next, hr => exact hr.elim
      | .ok .brk, hr => exact hr.elim
      | .ok .cont, hr => exact hr.elim
  | .ok .next, hr => exact hr.elim
  | .ok .brk, hr => exact hr.elim
  | .ok .cont, hr => exact hr.elim
end
section
variable {X : Cx} {K : PySem.W.Frag} {H G : Hp} {W : Wl} {Q : VK} {a : Addr}
/-- set(xs), xs a list of ints -/
def rSetL (K : PySem.W.Frag) (w : World) : List V → Hp → VK → Prop := fun vs H Q => ∃ (l : Addr) (ns : List Int), vs = [.ref l] ∧ SqL K H l (ns.map V.int) ∧ ns.length ≤ 1000 ∧
  ∀ p n, H p = none → n ≤ ns.length → Q (.ref p) (upd H p (SetO w p (fun j => decide (j ∈ ns)) n))
theorem cr_setL (hc : X.calm = true) : CallR X (.type "set") (rSetL X.K X.w) := by
  intro pins s σ H vs us Q I r h
  obtain ⟨l, ns, rfl, hl, hk, q⟩ := h
  rw [Vals.ref1 r]
  obtain ⟨its, rv, pl, hz⟩ := I.list hl
  refine set_of_list (P := X.prog) (w := X.w) ns (I.ok.hd hc) pl.isList (by simpa using ints_of_vals rv) (by unfold scanBound; omega) fun h2 tk c R hcn k => ?_
  exact ⟨.ref s.heap.objs.size, upd H s.heap.objs.size (SetO X.w s.heap.objs.size (fun j => decide (j ∈ ns)) c), I.laid (t' := tk) k (Nat.le_refl _) (setO_new R), rfl, q _ c (I.hok.fresh (Nat.le_refl _)) hcn⟩
theorem st_setOf {w0 : World} {ns : List Int} (ha : SqL K H a (ns.map V.int)) (hl : ns.length ≤ 1000) (w : Wd G W H) (k : ∀ p n G' H', Same G G' → Wd G' W H' → n ≤ ns.length → H' p = some (SetO w0 p (fun j => decide (j ∈ ns)) n) → Q (.ref p) H') : rSetL K w0 [.ref a] H Q :=
  ⟨a, ns, rfl, ha, hl, fun p n hp hn => k p n _ _ (same_upd (w.free hp)) (w.new hp) hn upd_same⟩
theorem st_sortedSet {w0 : World} {S : Int → Bool} {n : Nat} (ha : H a = some (SetO w0 a S n)) (hn : n < 64) (w : Wd G W H)
    (k : ∀ p ns G' H', Same G G' → Wd G' W H' → HL G' p ns → ns.Pairwise (· < ·) → (∀ j : Int, j ∈ ns ↔ S j = true) → ns.length = n → Q (.ref p) H') : rSortedSet w0 [.ref a] H Q :=
  ⟨a, S, n, rfl, ha, hn, fun ns p h1 h2 h3 hp => k p ns _ _ (same_upd (w.free hp)) (w.new hp) upd_same h1 h2 h3⟩
/-- a list or a tuple by index -/
def rIxA (K : PySem.W.Frag) : R2 := fun x y H Q => ∃ p xs i v, x = .ref p ∧ y = .int i ∧ (SqL K H p xs ∨ SqT K H p xs) ∧ atI xs i = some v ∧ Q v H
theorem ix_seqA : IxR X (rIxA X.K) := by
  intro value slice pins s σ H x y v u Q I rx ry h hs
  obtain ⟨p, xs, i, z, rfl, rfl, hq | hq, he, q⟩ := h
  · exact ix_list value slice pins s σ H (.ref p) (.int i) v u Q I rx ry ⟨p, xs, i, z, rfl, rfl, hq, he, q⟩ hs
  · exact ix_tup value slice pins s σ H (.ref p) (.int i) v u Q I rx ry ⟨p, xs, i, z, rfl, rfl, hq, he, q⟩ hs
theorem st_ixA {xs : List V} {i : Int} {v : V} (h : SqL K H a xs ∨ SqT K H a xs) (e : atI xs i = some v) (q : Q v H) : rIxA K (.ref a) (.int i) H Q := ⟨a, xs, i, v, rfl, rfl, h, e, q⟩
end
/-! while -/
section
variable {c : TT} {tb : TS} {nx bk ct : L2.St → Hp → Prop} {rt : VK} {σ : L2.St} {H G : Hp} {W : Wl} {I : Nat → L2.St → Hp → Wl → Prop} {m : Nat}
def Wbt (I : Nat → L2.St → Hp → Wl → Prop) (G : Hp) (m : Nat) : L2.St → Hp → Prop := fun σ H => ∃ m2 G' W, m2 < m ∧ Same G G' ∧ Wd G' W H ∧ I m2 σ G' W
theorem st_wbt {m2 : Nat} {G' : Hp} (h : m2 < m) (e : Same G G') (w : Wd G' W H) (q : I m2 σ G' W) : Wbt I G m σ H := ⟨m2, G', W, h, e, w, q⟩
theorem wt_go (h : tb ⟨Wbt I G m, rt, nx, Wbt I G m⟩ σ H) : ∃ N : L2.St → Hp → Prop, (∀ σ' H', N σ' H' → ∃ m', m' < m ∧ ∃ G' W', Same G G' ∧ Wd G' W' H' ∧ I m' σ' G' W') ∧ tb ⟨N, rt, nx, N⟩ σ H :=
  ⟨Wbt I G m, fun _ _ ⟨m2, G', W', h1, h2, h3, h4⟩ => ⟨m2, h1, G', W', h2, h3, h4⟩, h⟩
theorem while_m (I : Nat → L2.St → Hp → Wl → Prop) (m : Nat) (w : Wd G W H) (h0 : I m σ G W)
    (hs : ∀ m σ' G' W' H', Same G G' → Wd G' W' H' → I m σ' G' W' → c σ' H' fun b H1 => if b = true then ∃ N : L2.St → Hp → Prop, (∀ σ' H', N σ' H' → ∃ m', m' < m ∧ ∃ G' W', Same G G' ∧ Wd G' W' H' ∧ I m' σ' G' W') ∧ tb ⟨N, rt, nx, N⟩ σ' H1 else nx σ' H1) :
    tWhile c tb ⟨nx, rt, bk, ct⟩ σ H := ⟨fun m σ H => ∃ G' W', Same G G' ∧ Wd G' W' H ∧ I m σ G' W', ⟨m, G, W, Same.refl _, w, h0⟩, fun m σ' H' ⟨G', W', e, w', h⟩ => hs m σ' G' W' H' e w' h⟩
end
/-! methods of lists -/
section
variable {K : PySem.W.Frag} {H : Hp} {Q : VK} {a : Addr}
theorem first_at {ns : List Int} {m : Int} (h : m ∈ ns) : ∃ j : Nat, j < ns.length ∧ ns[j]? = some m ∧ ∀ i : Nat, i < j → ns[i]? ≠ some m := by
  induction ns with
  | nil => exact nomatch h
  | cons x xs ih =>
    by_cases e : x = m
    · exact ⟨0, Nat.succ_pos _, by rw [e]; rfl, fun i hi => absurd hi (Nat.not_lt_zero i)⟩
    · obtain ⟨j, h1, h2, h3⟩ := ih ((List.mem_cons.mp h).resolve_left fun z => e z.symm)
      refine ⟨j + 1, Nat.succ_lt_succ h1, h2, fun i hi => ?_⟩
      cases i with
      | zero => exact fun z => e (Option.some.inj z)
      | succ i => exact h3 i (Nat.lt_of_succ_lt_succ hi)
theorem flat_ints : ∀ ns : List Int, (ns.map V.int).all flatV = true
  | [] => rfl
  | _ :: ns => flat_ints ns
/-- xs.index(m), m in xs -/
theorem st_indexI {ns : List Int} {m : Int} (ha : SqL K H a (ns.map V.int)) (hm : m ∈ ns) (q : ∀ j : Nat, j < ns.length → ns[j]? = some m → Q (.int (j : Int)) H) : rIndex K (.ref a) [.int m] H Q := by
  obtain ⟨j, h1, h2, h3⟩ := first_at hm
  refine ⟨a, _, _, j, .int m, rfl, rfl, ha, rfl, flat_ints ns, by rw [List.getElem?_map, h2]; rfl, by simp [eqV], fun i z hi hz => ?_, q j h1 h2⟩
  rw [List.getElem?_map] at hz
  cases e : ns[i]? with
  | none => rw [e] at hz; exact nomatch hz
  | some k =>
    rw [e] at hz
    cases hz
    have := h3 i hi
    rw [e] at this
    have hne : k ≠ m := fun z => this (by rw [z])
    simp [eqV, hne]
end
end Z

local macro_rules | `(tactic| walk_at "cond") => `(tactic| first
  | (show (0 : Int) < _; first | decide | omega) | (show (0 : Int) ≤ _; first | decide | omega) | ((refine (show L2.CDiv _ _ from ⟨?_, ?_⟩)) <;> omega) | ((refine (show L2.CMul _ _ from Or.inl ⟨?_, ?_⟩)) <;> omega) | ((refine (show L2.CMul _ _ from Or.inr ⟨?_, ?_⟩)) <;> omega)
  | (refine (show Z.CPowW _ _ from ⟨?_, ?_⟩) <;> decide) | (refine (show L2.CPow _ _ from ⟨?_, ?_, ?_⟩); omega; omega; decide))
local macro_rules | `(tactic| walk_at "z") => `(tactic| first
  | with_reducible refine Z.st_seq ?_ | with_reducible refine Z.st_asg ?_ | with_reducible refine Z.st_if ?_ | with_reducible refine Z.st_ret ?_ | with_reducible refine Z.st_drop ?_ | with_reducible refine Z.st_next ?_ | with_reducible refine Z.st_retN ?_ | with_reducible refine Z.st_brk ?_ | with_reducible refine Z.st_cont ?_
  | with_reducible refine Z.st_gname ?_ | with_reducible refine Z.st_par ?_ | with_reducible refine Z.st_two ?_
  | ((with_reducible refine' Z.st_var ?hv ?hq); (case hv => exact rfl)) | with_reducible refine Z.st_c ?_ | with_reducible refine Z.st_op ?_ | with_reducible refine Z.st_un ?_ | with_reducible refine Z.st_i0 ?_ | with_reducible refine Z.st_u ?_
  | with_reducible refine Z.st_test ?_ | with_reducible refine Z.st_tB ?_ | with_reducible refine Z.st_bl ?_ | with_reducible refine Z.st_not ?_ | with_reducible refine Z.st_and ?_ | with_reducible refine Z.st_or ?_
  | with_reducible refine Z.st_andV ?_ | with_reducible refine Z.st_orV ?_ | with_reducible refine Z.st_notV ?_
  | with_reducible refine Z.st_nil ?_ | with_reducible refine Z.st_cons ?_ | with_reducible refine Z.st_cb ?_ | with_reducible refine Z.st_call ?_ | with_reducible refine Z.st_callN ?_
  | with_reducible refine Z.st_lst ?_ | with_reducible refine Z.st_tup ?_
  | ((with_reducible refine Z.st_eq ?_ ?_); exact rfl) | ((with_reducible refine Z.st_ne ?_ ?_); exact rfl)
  | with_reducible refine Z.st_for ?_ | with_reducible refine Z.st_iEnumA ?_ | with_reducible refine Z.st_iList ?_ | with_reducible refine Z.st_iTup ?_ | with_reducible refine Z.st_iR1 ?_ | with_reducible refine Z.st_iR2 ?_
  | ((with_reducible refine' Z.st_i ?hc ?hq); (case hc => walk_at "cond"))
  | with_reducible refine Z.st_gsub ?_ | with_reducible refine Z.st_bm ?_ | with_reducible refine Z.st_bm0 ?_
  | with_reducible refine Z.st_lc ?_ | with_reducible refine Z.st_yes ?_ | with_reducible refine Z.st_sl ?_ | with_reducible refine Z.st_chain ?_ | with_reducible refine Z.st_gcons ?_ | with_reducible refine Z.st_gnil ?_ | with_reducible refine Z.st_noPart ?_ | with_reducible refine Z.st_part ?_
  | with_reducible refine L2.iteT ?_ | with_reducible refine L2.iteF ?_ | with_reducible refine Z.iteNT ?_ | with_reducible refine Z.iteNF ?_)
local macro_rules | `(tactic| walk_at "zz") => `(tactic| repeat walk_at "z")
local macro_rules | `(tactic| walk_at "sm") => `(tactic| first | exact L2.Same.refl _ | assumption | (refine' L2.Same.trans ?ha ?hb; (case hb => assumption); (case ha => walk_at "sm")))
local macro_rules | `(tactic| walk_at "up") => `(tactic| first
  | assumption
  | (refine' Z.seq_up ?w ?h; (case w => assumption); (case h => walk_at "up")) | (refine' Z.tup_up ?w ?h; (case w => assumption); (case h => walk_at "up")) | (refine' Z.dUp ?w ?h; (case w => assumption); (case h => walk_at "up")) | (refine' Z.hUp ?w ?h; (case w => assumption); (case h => walk_at "up"))
  | (refine' L2.Same.seq ?e ?h; (case e => assumption); (case h => walk_at "up")) | (refine' Z.seqT ?e ?h; (case e => assumption); (case h => walk_at "up")) | (refine' Z.dmono ?e ?h; (case e => assumption); (case h => walk_at "up")) | (refine' Z.atUp ?e ?h; (case e => assumption); (case h => walk_at "up")))
local macro_rules | `(tactic| walk_at "zi") => `(tactic| with_reducible refine Z.st_ifE ?_)
local macro_rules | `(tactic| walk_at "nw") => `(tactic| first
  | refine ⟨by first | decide | exact Z.small (by simp), Z.NewO.good (by assumption) fun p G1 H1 e1 w1 h1 => ?_⟩
  | refine Z.st_catV (by walk_at "up") (by walk_at "up") (by first | decide | (simp; done) | (simp; omega)) (by assumption) fun p G1 H1 e1 w1 h1 => ?_)
local macro_rules | `(tactic| walk_at "zn") => `(tactic| repeat first
  | walk_at "z"
  | walk_at "nw")
local macro_rules | `(tactic| walk_at "dp") => `(tactic| first
  | exact L2.Dp.non
  | exact L2.Dp.bl _
  | exact L2.Dp.int _
  | exact L2.Dp.str _
  | assumption
  | (refine' L2.Dp.lst (L2.SqL.of ?h) ?t; (case h => walk_at "up"); (case t => walk_at "dps"))
  | (refine' L2.Dp.tup (L2.SqT.of ?h) ?t; (case h => walk_at "up"); (case t => walk_at "dps"))
  | walk_at "up")
local macro_rules | `(tactic| walk_at "dps") => `(tactic| first
  | exact L2.DpAll.nil
  | (refine' L2.DpAll.cons ?a ?b; (case a => walk_at "dp"); (case b => walk_at "dps")))
local macro_rules | `(tactic| walk_at "od") => `(tactic| first
  | decide +kernel
  | (refine Z.Od.int ?_; omega)
  | exact Z.Od.strInt (by omega)
  | exact Z.Od.bool _
  | assumption
  | (refine Z.Od.mono ?_ ?_ <;> first | assumption | decide))
local macro_rules | `(tactic| walk_at "al") => `(tactic| first
  | exact trivial
  | (refine' Z.AllP.app ?a ?b; (case a => walk_at "al"); (case b => walk_at "al"))
  | (refine' And.intro (Exists.intro _ (And.intro ?a ?b)) ?c; (case a => walk_at "dp"); (case b => walk_at "od"); (case c => walk_at "al")))
local macro_rules | `(tactic| walk_at "ib") => `(tactic| first
  | refine Z.iteBT (by rfl) ?_
  | refine Z.iteBF (by rfl) ?_)

namespace Z
open PySem PySem.Spec PyProof.Rows L2

def top (i : Nat) : Stmt := PySem.Challenge.pw_deflatehall_k20_bits_of_tokens.main.body.getD i (.Pass ⟨0, 0, 0, 0⟩)
def kc_LENGTHS : List Int := [3, 4, 5, 6, 7, 8, 9, 10, 11, 13, 15, 17, 19, 23, 27, 31, 35, 43, 51, 59, 67, 83, 99, 115, 131, 163, 195, 227, 258]
def kc_LENGTH_EXTRAS : List Int := [0, 0, 0, 0, 0, 0, 0, 0, 1, 1, 1, 1, 2, 2, 2, 2, 3, 3, 3, 3, 4, 4, 4, 4, 5, 5, 5, 5, 0]
def kc_DISTANCES : List Int := [1, 2, 3, 4, 5, 7, 9, 13, 17, 25, 33, 49, 65, 97, 129, 193, 257, 385, 513, 769, 1025, 1537, 2049, 3073, 4097, 6145, 8193, 12289, 16385, 24577]
def kc_DISTANCE_EXTRAS : List Int := [0, 0, 0, 0, 1, 1, 2, 2, 3, 3, 4, 4, 5, 5, 6, 6, 7, 7, 8, 8, 9, 9, 10, 10, 11, 11, 12, 12, 13, 13]
abbrev s_place_in : Stmt := top 6
abbrev s_length_symbol : Stmt := top 7
abbrev s_distance_symbol : Stmt := top 8
abbrev s_symbol_bits : Stmt := top 9
abbrev s_token_bits : Stmt := top 10
abbrev s__law_bag : Stmt := top 12
abbrev s__law_take : Stmt := top 13
abbrev s__law_one : Stmt := top 14
abbrev s__law_whole : Stmt := top 15
abbrev s__law_drawn_data : Stmt := top 16
abbrev s__law_token : Stmt := top 17
abbrev s__law_symbol : Stmt := top 18
abbrev s__law_size : Stmt := top 19
abbrev s__law_token_bits : Stmt := top 20
abbrev s__law_split : Stmt := top 21
abbrev s__law_trees : Stmt := top 22
abbrev s_law : Stmt := top 23
abbrev sN_place_in : List Str := ["firsts", "value", "first"]
abbrev sP_place_in : List Str := ["firsts", "value"]
theorem sc_place_in : FnScope sN_place_in sP_place_in (defScope s_place_in) := ⟨rfl, rfl, rfl, by decide +kernel, rfl, by decide +kernel, by decide +kernel⟩
abbrev sN_length_symbol : List Str := ["length", "place"]
abbrev sP_length_symbol : List Str := ["length"]
theorem sc_length_symbol : FnScope sN_length_symbol sP_length_symbol (defScope s_length_symbol) := ⟨rfl, rfl, rfl, by decide +kernel, rfl, by decide +kernel, by decide +kernel⟩
abbrev sN_distance_symbol : List Str := ["distance", "place"]
abbrev sP_distance_symbol : List Str := ["distance"]
theorem sc_distance_symbol : FnScope sN_distance_symbol sP_distance_symbol (defScope s_distance_symbol) := ⟨rfl, rfl, rfl, by decide +kernel, rfl, by decide +kernel, by decide +kernel⟩
abbrev sN_symbol_bits : List Str := ["lengths", "symbol"]
abbrev sP_symbol_bits : List Str := ["lengths", "symbol"]
theorem sc_symbol_bits : FnScope sN_symbol_bits sP_symbol_bits (defScope s_symbol_bits) := ⟨rfl, rfl, rfl, by decide +kernel, rfl, by decide +kernel, by decide +kernel⟩
abbrev sN_token_bits : List Str := ["token", "lengths", "distances", "symbol", "extra", "field", "far", "more", "size", "other"]
abbrev sP_token_bits : List Str := ["token", "lengths", "distances"]
theorem sc_token_bits : FnScope sN_token_bits sP_token_bits (defScope s_token_bits) := ⟨rfl, rfl, rfl, by decide +kernel, rfl, by decide +kernel, by decide +kernel⟩
abbrev sN__law_bag : List Str := ["_law_script", "_law_at", "_law_cell", "_law_digits"]
abbrev sP__law_bag : List Str := ["_law_script", "_law_at"]
theorem sc__law_bag : FnScope sN__law_bag sP__law_bag (defScope s__law_bag) := ⟨rfl, rfl, rfl, by decide +kernel, rfl, by decide +kernel, by decide +kernel⟩
abbrev sN__law_take : List Str := ["_law_bag_here", "_law_many", "_law_digit"]
abbrev sP__law_take : List Str := ["_law_bag_here", "_law_many"]
theorem sc__law_take : FnScope sN__law_take sP__law_take (defScope s__law_take) := ⟨rfl, rfl, rfl, by decide +kernel, rfl, by decide +kernel, by decide +kernel⟩
abbrev sN__law_one : List Str := ["_law_bag_here", "_law_things"]
abbrev sP__law_one : List Str := ["_law_bag_here", "_law_things"]
theorem sc__law_one : FnScope sN__law_one sP__law_one (defScope s__law_one) := ⟨rfl, rfl, rfl, by decide +kernel, rfl, by decide +kernel, by decide +kernel⟩
abbrev sN__law_whole : List Str := ["_law_value"]
abbrev sP__law_whole : List Str := ["_law_value"]
theorem sc__law_whole : FnScope sN__law_whole sP__law_whole (defScope s__law_whole) := ⟨rfl, rfl, rfl, by decide +kernel, rfl, by decide +kernel, by decide +kernel⟩
abbrev sN__law_drawn_data : List Str := ["_law_bag_here", "_law_most", "_law_pool", "_law_turn", "_law_some", "_law_row", "_law_size_here", "_law_at"]
abbrev sP__law_drawn_data : List Str := ["_law_bag_here", "_law_most"]
theorem sc__law_drawn_data : FnScope sN__law_drawn_data sP__law_drawn_data (defScope s__law_drawn_data) := ⟨rfl, rfl, rfl, by decide +kernel, rfl, by decide +kernel, by decide +kernel⟩
abbrev sN__law_token : List Str := ["_law_bag_here", "_law_far", "_law_size_here"]
abbrev sP__law_token : List Str := ["_law_bag_here", "_law_far"]
theorem sc__law_token : FnScope sN__law_token sP__law_token (defScope s__law_token) := ⟨rfl, rfl, rfl, by decide +kernel, rfl, by decide +kernel, by decide +kernel⟩
abbrev sN__law_symbol : List Str := ["_law_first", "_law_plain", "_law_groups", "_law_each", "_law_value", "_law_at", "_law_symbol_here", "_law_extra", "_law_turn"]
abbrev sP__law_symbol : List Str := ["_law_first", "_law_plain", "_law_groups", "_law_each", "_law_value"]
theorem sc__law_symbol : FnScope sN__law_symbol sP__law_symbol (defScope s__law_symbol) := ⟨rfl, rfl, rfl, by decide +kernel, rfl, by decide +kernel, by decide +kernel⟩
abbrev sN__law_size : List Str := ["_law_some", "_law_symbol_here"]
abbrev sP__law_size : List Str := ["_law_some", "_law_symbol_here"]
theorem sc__law_size : FnScope sN__law_size sP__law_size (defScope s__law_size) := ⟨rfl, rfl, rfl, by decide +kernel, rfl, by decide +kernel, by decide +kernel⟩
abbrev sN__law_token_bits : List Str := ["_law_token_here", "_law_some", "_law_far", "_law_one_here", "_law_other", "_law_sizes"]
abbrev sP__law_token_bits : List Str := ["_law_token_here", "_law_some", "_law_far"]
theorem sc__law_token_bits : FnScope sN__law_token_bits sP__law_token_bits (defScope s__law_token_bits) := ⟨rfl, rfl, rfl, by decide +kernel, rfl, by decide +kernel, by decide +kernel⟩
abbrev sN__law_split : List Str := ["_law_bag_here", "_law_symbols", "_law_many", "_law_some", "_law_at", "_law_gathered", "_law_k"]
abbrev sP__law_split : List Str := ["_law_bag_here", "_law_symbols", "_law_many"]
theorem sc__law_split : FnScope sN__law_split sP__law_split (defScope s__law_split) := ⟨rfl, rfl, rfl, by decide +kernel, rfl, by decide +kernel, by decide +kernel⟩
abbrev sN__law_trees : List Str := ["_law_bag_here", "_law_row", "_law_used", "_law_turn", "_law_symbol_here", "_law_steps", "_law_some"]
abbrev sP__law_trees : List Str := ["_law_bag_here", "_law_row"]
theorem sc__law_trees : FnScope sN__law_trees sP__law_trees (defScope s__law_trees) := ⟨rfl, rfl, rfl, by decide +kernel, rfl, by decide +kernel, by decide +kernel⟩
abbrev sN_law : List Str := ["_law_script", "_law_fixed", "_law_at", "_law_bag_here", "_law_turn", "_law_row", "_law_token_here", "_law_some", "_law_far", "_law_due"]
abbrev sP_law : List Str := ["_law_script"]
theorem sc_law : FnScope sN_law sP_law (defScope s_law) := ⟨rfl, rfl, rfl, by decide +kernel, rfl, by decide +kernel, by decide +kernel⟩
structure Adr where
  f_place_in : Addr
  fd_place_in : FuncData
  f_length_symbol : Addr
  fd_length_symbol : FuncData
  f_distance_symbol : Addr
  fd_distance_symbol : FuncData
  f_symbol_bits : Addr
  fd_symbol_bits : FuncData
  f_token_bits : Addr
  fd_token_bits : FuncData
  f__law_bag : Addr
  fd__law_bag : FuncData
  f__law_take : Addr
  fd__law_take : FuncData
  f__law_one : Addr
  fd__law_one : FuncData
  f__law_whole : Addr
  fd__law_whole : FuncData
  f__law_drawn_data : Addr
  fd__law_drawn_data : FuncData
  f__law_token : Addr
  fd__law_token : FuncData
  f__law_symbol : Addr
  fd__law_symbol : FuncData
  f__law_size : Addr
  fd__law_size : FuncData
  f__law_token_bits : Addr
  fd__law_token_bits : FuncData
  f__law_split : Addr
  fd__law_split : FuncData
  f__law_trees : Addr
  fd__law_trees : FuncData
  f_law : Addr
  fd_law : FuncData
  c_LENGTHS : Addr
  t_FIRST_LENGTH : Tok
  c_LENGTH_EXTRAS : Addr
  c_DISTANCES : Addr
  c_DISTANCE_EXTRAS : Addr
structure Txt (K : PySem.W.Frag) (mg : Str → Option Value) (A : Adr) : Prop where
  F_place_in : FunD K "place_in" "place_in" (defArgs s_place_in) (defBody s_place_in) (defScope s_place_in) [] [] A.f_place_in A.fd_place_in
  b_place_in : Binds K A.fd_place_in sP_place_in []
  m_place_in : mg "place_in" = some (.ref A.f_place_in)
  F_length_symbol : FunD K "length_symbol" "length_symbol" (defArgs s_length_symbol) (defBody s_length_symbol) (defScope s_length_symbol) [] [] A.f_length_symbol A.fd_length_symbol
  b_length_symbol : Binds K A.fd_length_symbol sP_length_symbol []
  m_length_symbol : mg "length_symbol" = some (.ref A.f_length_symbol)
  F_distance_symbol : FunD K "distance_symbol" "distance_symbol" (defArgs s_distance_symbol) (defBody s_distance_symbol) (defScope s_distance_symbol) [] [] A.f_distance_symbol A.fd_distance_symbol
  b_distance_symbol : Binds K A.fd_distance_symbol sP_distance_symbol []
  m_distance_symbol : mg "distance_symbol" = some (.ref A.f_distance_symbol)
  F_symbol_bits : FunD K "symbol_bits" "symbol_bits" (defArgs s_symbol_bits) (defBody s_symbol_bits) (defScope s_symbol_bits) [] [] A.f_symbol_bits A.fd_symbol_bits
  b_symbol_bits : Binds K A.fd_symbol_bits sP_symbol_bits []
  m_symbol_bits : mg "symbol_bits" = some (.ref A.f_symbol_bits)
  F_token_bits : FunD K "token_bits" "token_bits" (defArgs s_token_bits) (defBody s_token_bits) (defScope s_token_bits) [] [] A.f_token_bits A.fd_token_bits
  b_token_bits : Binds K A.fd_token_bits sP_token_bits []
  m_token_bits : mg "token_bits" = some (.ref A.f_token_bits)
  F__law_bag : FunD K "_law_bag" "_law_bag" (defArgs s__law_bag) (defBody s__law_bag) (defScope s__law_bag) [] [] A.f__law_bag A.fd__law_bag
  b__law_bag : Binds K A.fd__law_bag sP__law_bag []
  m__law_bag : mg "_law_bag" = some (.ref A.f__law_bag)
  F__law_take : FunD K "_law_take" "_law_take" (defArgs s__law_take) (defBody s__law_take) (defScope s__law_take) [] [] A.f__law_take A.fd__law_take
  b__law_take : Binds K A.fd__law_take sP__law_take []
  m__law_take : mg "_law_take" = some (.ref A.f__law_take)
  F__law_one : FunD K "_law_one" "_law_one" (defArgs s__law_one) (defBody s__law_one) (defScope s__law_one) [] [] A.f__law_one A.fd__law_one
  b__law_one : Binds K A.fd__law_one sP__law_one []
  m__law_one : mg "_law_one" = some (.ref A.f__law_one)
  F__law_whole : FunD K "_law_whole" "_law_whole" (defArgs s__law_whole) (defBody s__law_whole) (defScope s__law_whole) [] [] A.f__law_whole A.fd__law_whole
  b__law_whole : Binds K A.fd__law_whole sP__law_whole []
  m__law_whole : mg "_law_whole" = some (.ref A.f__law_whole)
  F__law_drawn_data : FunD K "_law_drawn_data" "_law_drawn_data" (defArgs s__law_drawn_data) (defBody s__law_drawn_data) (defScope s__law_drawn_data) [] [] A.f__law_drawn_data A.fd__law_drawn_data
  b__law_drawn_data : Binds K A.fd__law_drawn_data sP__law_drawn_data []
  m__law_drawn_data : mg "_law_drawn_data" = some (.ref A.f__law_drawn_data)
  F__law_token : FunD K "_law_token" "_law_token" (defArgs s__law_token) (defBody s__law_token) (defScope s__law_token) [] [] A.f__law_token A.fd__law_token
  b__law_token : Binds K A.fd__law_token sP__law_token []
  m__law_token : mg "_law_token" = some (.ref A.f__law_token)
  F__law_symbol : FunD K "_law_symbol" "_law_symbol" (defArgs s__law_symbol) (defBody s__law_symbol) (defScope s__law_symbol) [] [] A.f__law_symbol A.fd__law_symbol
  b__law_symbol : Binds K A.fd__law_symbol sP__law_symbol []
  m__law_symbol : mg "_law_symbol" = some (.ref A.f__law_symbol)
  F__law_size : FunD K "_law_size" "_law_size" (defArgs s__law_size) (defBody s__law_size) (defScope s__law_size) [] [] A.f__law_size A.fd__law_size
  b__law_size : Binds K A.fd__law_size sP__law_size []
  m__law_size : mg "_law_size" = some (.ref A.f__law_size)
  F__law_token_bits : FunD K "_law_token_bits" "_law_token_bits" (defArgs s__law_token_bits) (defBody s__law_token_bits) (defScope s__law_token_bits) [] [] A.f__law_token_bits A.fd__law_token_bits
  b__law_token_bits : Binds K A.fd__law_token_bits sP__law_token_bits []
  m__law_token_bits : mg "_law_token_bits" = some (.ref A.f__law_token_bits)
  F__law_split : FunD K "_law_split" "_law_split" (defArgs s__law_split) (defBody s__law_split) (defScope s__law_split) [] [] A.f__law_split A.fd__law_split
  b__law_split : Binds K A.fd__law_split sP__law_split []
  m__law_split : mg "_law_split" = some (.ref A.f__law_split)
  F__law_trees : FunD K "_law_trees" "_law_trees" (defArgs s__law_trees) (defBody s__law_trees) (defScope s__law_trees) [] [] A.f__law_trees A.fd__law_trees
  b__law_trees : Binds K A.fd__law_trees sP__law_trees []
  m__law_trees : mg "_law_trees" = some (.ref A.f__law_trees)
  F_law : FunD K "law" "law" (defArgs s_law) (defBody s_law) (defScope s_law) [] [] A.f_law A.fd_law
  b_law : Binds K A.fd_law sP_law []
  m_law : mg "law" = some (.ref A.f_law)
  m_LENGTHS : mg "LENGTHS" = some (.ref A.c_LENGTHS)
  cs_LENGTHS : ∀ H, SqT K H A.c_LENGTHS [.int 3, .int 4, .int 5, .int 6, .int 7, .int 8, .int 9, .int 10, .int 11, .int 13, .int 15, .int 17, .int 19, .int 23, .int 27, .int 31, .int 35, .int 43, .int 51, .int 59, .int 67, .int 83, .int 99, .int 115, .int 131, .int 163, .int 195, .int 227, .int 258]
  m_FIRST_LENGTH : mg "FIRST_LENGTH" = some (.int 257 A.t_FIRST_LENGTH)
  m_LENGTH_EXTRAS : mg "LENGTH_EXTRAS" = some (.ref A.c_LENGTH_EXTRAS)
  cs_LENGTH_EXTRAS : ∀ H, SqT K H A.c_LENGTH_EXTRAS [.int 0, .int 0, .int 0, .int 0, .int 0, .int 0, .int 0, .int 0, .int 1, .int 1, .int 1, .int 1, .int 2, .int 2, .int 2, .int 2, .int 3, .int 3, .int 3, .int 3, .int 4, .int 4, .int 4, .int 4, .int 5, .int 5, .int 5, .int 5, .int 0]
  m_DISTANCES : mg "DISTANCES" = some (.ref A.c_DISTANCES)
  cs_DISTANCES : ∀ H, SqT K H A.c_DISTANCES [.int 1, .int 2, .int 3, .int 4, .int 5, .int 7, .int 9, .int 13, .int 17, .int 25, .int 33, .int 49, .int 65, .int 97, .int 129, .int 193, .int 257, .int 385, .int 513, .int 769, .int 1025, .int 1537, .int 2049, .int 3073, .int 4097, .int 6145, .int 8193, .int 12289, .int 16385, .int 24577]
  m_DISTANCE_EXTRAS : mg "DISTANCE_EXTRAS" = some (.ref A.c_DISTANCE_EXTRAS)
  cs_DISTANCE_EXTRAS : ∀ H, SqT K H A.c_DISTANCE_EXTRAS [.int 0, .int 0, .int 0, .int 0, .int 1, .int 1, .int 2, .int 2, .int 3, .int 3, .int 4, .int 4, .int 5, .int 5, .int 6, .int 6, .int 7, .int 7, .int 8, .int 8, .int 9, .int 9, .int 10, .int 10, .int 11, .int 11, .int 12, .int 12, .int 13, .int 13]
  z_len : mg "len" = none
  z_isinstance : mg "isinstance" = none
  z_int : mg "int" = none
  z_abs : mg "abs" = none
  z_bool : mg "bool" = none
  z_range : mg "range" = none
  z_min : mg "min" = none
  z_sorted : mg "sorted" = none
  z_set : mg "set" = none
  z_max : mg "max" = none
  z_repr : mg "repr" = none
  z_tuple : mg "tuple" = none
section
variable {P : Program} {w : World} {K : PySem.W.Frag} {mg : Str → Option Value} {base : Heap} {A : Adr}
/-! ### draws -/
def BagI : HO → Prop := fun o => ∃ x y z : Int, o = .lst [.int x, .int y, .int z] ∧ 0 ≤ x ∧ 0 ≤ y ∧ y ≤ 2147483600
def sp_take : Sp := fun vs H Q _ => ∃ G W b m, Wd G W H ∧ (b, BagI) ∈ W ∧ vs = [.ref b, .int m] ∧ 0 < m ∧ m < 1073741824 ∧ ∀ r H', 0 ≤ r → r < m → Wd G W H' → Q (.int r) H'
theorem ok__law_take (T : Txt K mg A) : FnOk P w K mg base CX0 1 A.f__law_take A.fd__law_take sP__law_take sp_take := by
  refine okD T.F__law_take sc__law_take (fun vs H Q E h => ?_) (fun cdv Ar outer s H vs Q E hr h => ⟨_, (pss_cons (ps_if (pt_cmpR op_gt (pe_ix ix_list (pv 0) (pe_int) (fun _ _ => rfl)) (pe_int) (nomark _)) (pss_cons (ps_set (i := 2) sc__law_take.nd rfl (Or.inl rfl) (pe_op op_mod (pe_ix ix_list (pv 0) (pe_int) (fun _ _ => rfl)) (pv 1)))
      (pss_cons (ps_asg (pe_op op_fdiv (pe_ix ix_list (pv 0) (pe_int) (fun _ _ => rfl)) (pv 1)) (pg_sub (pv 0) (pe_int) set_list))
      (pss_one (ps_ret (pv 2))))) pss_nil)
      (pss_cons (ps_asg (pe_op op_add (pe_ix ix_list (pv 0) (pe_int) (fun _ _ => rfl)) (pe_int)) (pg_sub (pv 0) (pe_int) set_list))
      (pss_cons (ps_asg (pe_op op_add (pe_op op_mod (pe_op op_add (pe_op op_mul (pe_ix ix_list (pv 0) (pe_int) (fun _ _ => rfl)) (pe_int)) (pe_op op_mul (pe_int) (pe_ix ix_list (pv 0) (pe_int) (fun _ _ => rfl)))) (pe_int)) (pe_int)) (pg_sub (pv 0) (pe_int) set_list))
      (pss_one (ps_ret (pe_op op_mod (pe_op op_fdiv (pe_op op_mod (pe_op op_mul (pe_ix ix_list (pv 0) (pe_int) (fun _ _ => rfl)) (pe_op op_add (pe_op op_fdiv (pe_ix ix_list (pv 0) (pe_int) (fun _ _ => rfl)) (pe_int)) (pe_int))) (pe_int)) (pe_int)) (pv 1))))))), ?_⟩)
  · obtain ⟨G, W, b, m, _, _, rfl, _⟩ := h
    rfl
  · obtain ⟨G, W, b, m, w, hm, rfl, h0, h1, k⟩ := h
    obtain ⟨o, hb, x, y, z, rfl, hx, hy, hy2⟩ := w.get hm
    walk_at "zz"
    refine st_ixL (SqL.of hb) rfl ?_
    walk_at "zz"
    by_cases hx0 : 0 < x
    · rw [decide_eq_true hx0]
      refine iteT ?_
      walk_at "zz"
      refine st_ixL (SqL.of hb) rfl ?_
      walk_at "zz"
      refine st_ixL (SqL.of hb) rfl ?_
      walk_at "zz"
      refine st_setL hb rfl ?_
      walk_at "zz"
      refine k _ _ (Int.emod_nonneg _ (by omega)) (Int.emod_lt_of_pos _ h0) (w.put' hm ⟨_, _, _, rfl, Int.ediv_nonneg hx (by omega), hy, hy2⟩)
    · rw [decide_eq_false hx0]
      refine iteF ?_
      walk_at "zz"
      refine st_ixL (SqL.of hb) rfl ?_
      walk_at "zz"
      refine st_setL hb rfl ?_
      walk_at "zz"
      refine st_ixL (SqL.of upd_same) rfl ?_
      walk_at "zz"
      refine st_ixL (SqL.of upd_same) rfl ?_
      walk_at "zz"
      refine st_setL upd_same rfl ?_
      walk_at "zz"
      refine st_ixL (SqL.of upd_same) rfl ?_
      walk_at "zz"
      refine st_ixL (SqL.of upd_same) rfl ?_
      walk_at "zz"
      refine k _ _ (Int.emod_nonneg _ (by omega)) (Int.emod_lt_of_pos _ h0) ((w.put' hm ⟨_, _, _, rfl, hx, hy, hy2⟩).put' hm ⟨_, _, _, rfl, hx, ?_, ?_⟩) <;> omega
def sp_bag (K : PySem.W.Frag) : Sp := fun vs H Q _ => ∃ (G : Hp) (W : Wl) (a : Addr) (ns : List Int) (i : Int), Wd G W H ∧ vs = [.ref a, .int i] ∧ SqL K G a (ns.map V.int) ∧ 0 ≤ i ∧ i < 1000000 ∧ ∀ p H', Wd G ((p, BagI) :: W) H' → Q (.ref p) H'
theorem ok__law_bag (T : Txt K mg A) : FnOk P w K mg base CX0 1 A.f__law_bag A.fd__law_bag sP__law_bag (sp_bag K) := by
  refine okD T.F__law_bag sc__law_bag (fun vs H Q E h => ?_) (fun cdv Ar outer s H vs Q E hr h => ⟨_, (pss_cons (ps_set (i := 2) sc__law_bag.nd rfl (Or.inl rfl) (pe_int))
      (pss_cons (ps_if (pt_cmpR op_lt (pv 1) (pe_callB call_len_seq (by rfl) T.z_len PySem.boot_len (pa_cons (pv 0) pa_nil)) (nomark _)) (pss_one (ps_set (i := 2) sc__law_bag.nd rfl (Or.inl rfl) (pe_ix ix_list (pv 0) (pv 1) (fun _ _ => rfl)))) pss_nil)
      (pss_cons (ps_set (i := 3) sc__law_bag.nd rfl (Or.inl rfl) (pe_op op_mul (pe_callB call_abs (by rfl) T.z_abs (by decide +kernel) (pa_cons (pv 2) pa_nil)) (pe_callTy call_int1 (by rfl) T.z_int (by decide +kernel) (pa_cons (pe_cmpR op_ge (pe_callB call_abs (by rfl) T.z_abs (by decide +kernel) (pa_cons (pv 2) pa_nil)) (pe_op op_powW (pe_int) (pe_int)) (nomark _)) pa_nil))))
      (pss_one (ps_ret (pe_lst (pa_cons (pv 3) (pa_cons (pe_op op_add (pe_op op_mod (pe_op op_add (pe_op op_add (pe_op op_mul (pe_op op_mod (pv 2) (pe_int)) (pe_int)) (pe_op op_mul (pe_int) (pv 1))) (pe_int)) (pe_int)) (pe_int)) (pa_cons (pe_int) pa_nil))))))))), ?_⟩)
  · obtain ⟨G, W, a, ns, i, _, rfl, _⟩ := h
    rfl
  · obtain ⟨G, W, a, ns, i, w, rfl, ha, h0, h1, k⟩ := h
    walk_at "zz"
    refine ⟨_, _, rfl, .inl (by walk_at "up"), ?_⟩
    walk_at "zz"
    by_cases hi : i < ((ns.map V.int).length : Int)
    case' pos =>
      rw [decide_eq_true hi]
      refine iteT ?_
      walk_at "zz"
      obtain ⟨n, hn⟩ : ∃ n, ns[i.toNat]? = some n := ⟨_, List.getElem?_eq_getElem (by rw [List.length_map] at hi; omega)⟩
      refine st_ixL (v := .int n) (by walk_at "up") (by rw [show i = (i.toNat : Int) by omega]; exact atI_nat (by rw [List.getElem?_map, hn]; rfl)) ?_
    case' neg =>
      rw [decide_eq_false hi]
      refine iteF ?_
    all_goals
      walk_at "zz"
      refine ⟨_, rfl, ?_⟩
      walk_at "zz"
      refine ⟨_, rfl, ?_⟩
      walk_at "zz"
      refine .inr ⟨_, rfl, ?_⟩
      refine st_i (.inr (by split <;> omega)) ?_
      walk_at "zz"
      refine ⟨small (by simp), fun p hp => k p _ (w.newM hp ⟨_, _, _, rfl, ?_, ?_, ?_⟩)⟩
      · refine Int.mul_nonneg ?_ ?_
        · split <;> omega
        · split <;> omega
      all_goals omega

/-! ### what a token is -/
def sp_one (K : PySem.W.Frag) : Sp := fun vs H Q _ => ∃ (G : Hp) (W : Wl) (b a : Addr) (xs : List V), Wd G W H ∧ (b, BagI) ∈ W ∧ vs = [.ref b, .ref a] ∧ SqL K G a xs ∧ 0 < xs.length ∧ xs.length < 1000 ∧ ∀ v H', v ∈ xs → Wd G W H' → Q v H'
theorem ok__law_one (T : Txt K mg A) : FnOk P w K mg base CX0 2 A.f__law_one A.fd__law_one sP__law_one (sp_one K) := by
  refine okD T.F__law_one sc__law_one (fun vs H Q E h => ?_) (fun cdv Ar outer s H vs Q E hr h => ⟨_, (pss_one (ps_ret (pe_ix ix_list (pv 1) (pe_call (ok__law_take T) (hr.mono (by decide)) rfl T.m__law_take T.F__law_take.kp T.b__law_take .nil pass0 (pa_cons (pv 0) (pa_cons (pe_callB call_len_seq (by rfl) T.z_len PySem.boot_len (pa_cons (pv 1) pa_nil)) pa_nil))) (fun _ _ => rfl)))), ?_⟩)
  · obtain ⟨G, W, b, a, xs, _, _, rfl, _⟩ := h
    rfl
  · obtain ⟨G, W, b, a, xs, w, hm, rfl, ha, h0, h1, k⟩ := h
    walk_at "zz"
    refine ⟨_, _, rfl, .inl (by walk_at "up"), ?_⟩
    walk_at "zz"
    refine ⟨G, W, b, _, w, hm, rfl, by omega, by omega, fun r H1 hr0 hr1 w1 => ?_⟩
    obtain ⟨v, hv⟩ : ∃ v, xs[r.toNat]? = some v := ⟨_, List.getElem?_eq_getElem (by omega)⟩
    refine st_ixL (v := v) (by walk_at "up") (by rw [show r = (r.toNat : Int) by omega]; exact atI_nat hv) ?_
    exact k v H1 (List.mem_of_getElem? hv) w1

def sp_whole (K : PySem.W.Frag) : Sp := fun vs H Q _ => ∃ x, vs = [x] ∧ Knd K H x ∧ Q (.bl (isInt x)) H
theorem ok__law_whole (T : Txt K mg A) : FnOk P w K mg base CX0 1 A.f__law_whole A.fd__law_whole sP__law_whole (sp_whole K) := by
  refine okD T.F__law_whole sc__law_whole (fun vs H Q E h => ?_) (fun cdv Ar outer s H vs Q E hr h => ⟨_, (pss_one (ps_ret ((pe_and (pe_callB call_isi (by rfl) T.z_isinstance (by decide +kernel) (pa_cons (pv 0) (pa_cons (pe_bltn (v := .ty "int") (u := .type "int") (by rfl) T.z_int (by decide +kernel) rfl) pa_nil))) (pe_one (pe_not (pe_callB call_isi (by rfl) T.z_isinstance (by decide +kernel) (pa_cons (pv 0) (pa_cons (pe_bltn (v := .ty "bool") (u := .type "bool") (by rfl) T.z_bool (by decide +kernel) rfl) pa_nil))))))))), ?_⟩)
  · obtain ⟨x, rfl, _⟩ := h
    rfl
  · obtain ⟨x, rfl, hk, k⟩ := h
    obtain ⟨n, b1, b2, ty, e1, e2, e⟩ := hk.ty
    rw [e] at k
    repeat walk_at "z"
    refine ⟨_, _, _, _, b1, rfl, .ty _, ty, kit_ty e1, _, rfl, ?_⟩
    cases b1 with
    | false => 
      walk_at "zz"
      exact k
    | true =>
      walk_at "zz"
      exact ⟨_, _, _, _, b2, rfl, .ty _, ty, kit_ty e2, _, rfl, k⟩

/-- a token that was drawn: as far as m -/
def TokM (m : Int) (d : PyData) : Prop := (∃ i, d = .int i ∧ 0 ≤ i ∧ i ≤ 255) ∨ ∃ s f, d = .tuple [.int s, .int f] ∧ 3 ≤ s ∧ s ≤ 258 ∧ 1 ≤ f ∧ f ≤ m
def sp_token (K : PySem.W.Frag) : Sp := fun vs H Q _ => ∃ (G : Hp) (W : Wl) (b : Addr) (m : Int), Wd G W H ∧ (b, BagI) ∈ W ∧ vs = [.ref b, .int m] ∧ 0 < m ∧ m ≤ 32768 ∧ ∀ v d G' H', Same G G' → Wd G' W H' → Dp K G' v d → TokM m d → Q v H'
theorem ok__law_token (T : Txt K mg A) : FnOk P w K mg base CX0 3 A.f__law_token A.fd__law_token sP__law_token (sp_token K) := by
  refine okD T.F__law_token sc__law_token (fun vs H Q E h => ?_) (fun cdv Ar outer s H vs Q E hr h => ⟨_, (pss_cons (ps_if (pt_cmpR op_eq (pe_call (ok__law_take T) (hr.mono (by decide)) rfl T.m__law_take T.F__law_take.kp T.b__law_take .nil pass0 (pa_cons (pv 0) (pa_cons (pe_int) pa_nil))) (pe_int) (nomark _)) (pss_one (ps_ret (pe_call (ok__law_take T) (hr.mono (by decide)) rfl T.m__law_take T.F__law_take.kp T.b__law_take .nil pass0 (pa_cons (pv 0) (pa_cons (pe_int) pa_nil))))) pss_nil)
      (pss_cons (ps_set (i := 2) sc__law_token.nd rfl (Or.inl rfl) (pe_call (ok__law_one T) (hr.mono (by decide)) rfl T.m__law_one T.F__law_one.kp T.b__law_one .nil pass0 (pa_cons (pv 0) (pa_cons (pe_lst (pa_cons (pe_int) (pa_cons (pe_int) (pa_cons (pe_int) (pa_cons (pe_int) (pa_cons (pe_int) (pa_cons (pe_int) (pa_cons (pe_int) (pa_cons (pe_int) (pa_cons (pe_op op_add (pe_int) (pe_call (ok__law_take T) (hr.mono (by decide)) rfl T.m__law_take T.F__law_take.kp T.b__law_take .nil pass0 (pa_cons (pv 0) (pa_cons (pe_int) pa_nil)))) pa_nil)))))))))) pa_nil))))
      (pss_one (ps_ret (pe_tup (pa_cons (pv 2) (pa_cons (pe_op op_add (pe_int) (pe_call (ok__law_take T) (hr.mono (by decide)) rfl T.m__law_take T.F__law_take.kp T.b__law_take .nil pass0 (pa_cons (pv 0) (pa_cons (pv 1) pa_nil)))) pa_nil))))))), ?_⟩)
  · obtain ⟨G, W, b, m, _, _, rfl, _⟩ := h
    rfl
  · obtain ⟨G, W, b, m, w, hm, rfl, hm0, hm1, k⟩ := h
    walk_at "zz"
    refine ⟨G, W, b, _, w, hm, rfl, by omega, by omega, fun r H1 hr0 hr1 w1 => ?_⟩
    walk_at "zz"
    refine ite2 (fun _ => ?_) (fun _ => ?_)
    · walk_at "zz"
      exact ⟨G, W, b, _, w1, hm, rfl, by omega, by omega, fun r H2 hr0 hr1 w2 => k _ _ G H2 (Same.refl _) w2 (.int r) (.inl ⟨r, rfl, by omega, by omega⟩)⟩
    · walk_at "zz"
      refine ⟨G, W, b, _, w1, hm, rfl, by omega, by omega, fun r2 H2 hr2 hr3 w2 => ?_⟩
      walk_at "zn"
      refine ⟨_, W, b, _, _, by assumption, hm, rfl, SqL.of (by walk_at "up"), by simp, by simp, fun v H3 hv w3 => ?_⟩
      obtain ⟨n, rfl, hn⟩ := (show AllP (fun v : V => ∃ n : Int, v = .int n ∧ 3 ≤ n ∧ n ≤ 258) [.int 3, .int 4, .int 5, .int 10, .int 11, .int 12, .int 258, .int 257, .int (3 + r2)] from ⟨⟨_, rfl, by omega, by omega⟩, ⟨_, rfl, by omega, by omega⟩, ⟨_, rfl, by omega, by omega⟩, ⟨_, rfl, by omega, by omega⟩, ⟨_, rfl, by omega, by omega⟩, ⟨_, rfl, by omega, by omega⟩, ⟨_, rfl, by omega, by omega⟩, ⟨_, rfl, by omega, by omega⟩, ⟨_, rfl, by omega, by omega⟩, trivial⟩).of v hv
      walk_at "zz"
      refine ⟨_, W, b, _, w3, hm, rfl, by omega, by omega, fun r4 H4 hr4 hr5 w4 => ?_⟩
      walk_at "zz"
      refine ⟨small (by simp), NewO.good w4 fun p G5 H5 e5 w5 h5 => k _ _ G5 H5 (by walk_at "sm") w5 (.tup (SqT.of h5) (.cons (.int _) (.cons (.int _) .nil))) (.inr ⟨_, _, rfl, hn.1, hn.2, by omega, by omega⟩)⟩

/-! ### symbols -/
def cnt (ns : List Int) (v : Int) : Int := ((ns.filter fun x => decide (x ≤ v)).length : Int) - 1
theorem flt_succ {ns : List Int} {i : Nat} {n v : Int} (h : ns[i]? = some n) : (ns.take (i + 1)).filter (fun x => decide (x ≤ v)) = if n ≤ v then (ns.take i).filter (fun x => decide (x ≤ v)) ++ [n] else (ns.take i).filter (fun x => decide (x ≤ v)) := by
  rw [List.take_add_one, h, List.filter_append]
  split <;> simp [*]
theorem cnt_lt (ns : List Int) (v : Int) : cnt ns v < ns.length := by
  have := List.length_filter_le (fun x => decide (x ≤ v)) ns
  unfold cnt
  omega
theorem cnt_ge {ns : List Int} {v n : Int} (h : n ∈ ns) (h2 : n ≤ v) : 0 ≤ cnt ns v := by
  have h3 : n ∈ ns.filter fun x => decide (x ≤ v) := List.mem_filter.mpr ⟨h, decide_eq_true h2⟩
  have := List.length_pos_of_mem h3
  unfold cnt
  omega
theorem atI_getD {ns : List Int} {i : Int} (h0 : 0 ≤ i) (h1 : i < ns.length) : atI (ns.map V.int) i = some (.int (ns.getD i.toNat 0)) := by
  obtain ⟨n, h2, _, h3⟩ := atI_map h0 h1
  rw [h2, List.getD_eq_getElem?_getD, h3]
  rfl
def sp_place (K : PySem.W.Frag) : Sp := fun vs H Q _ => ∃ (G : Hp) (W : Wl) (a : Addr) (ns : List Int) (v : Int), Wd G W H ∧ vs = [.ref a, .int v] ∧ SqT K G a (ns.map V.int) ∧ ns.length ≤ 1000 ∧ ∀ G' H', Same G G' → Wd G' W H' → Q (.int (cnt ns v)) H'
theorem ok_place_in (T : Txt K mg A) : FnOk P w K mg base CX0 1 A.f_place_in A.fd_place_in sP_place_in (sp_place K) := by
  refine okD T.F_place_in sc_place_in (fun vs H Q E h => ?_) (fun cdv Ar outer s H vs Q E hr h => ⟨_, (pss_one (ps_ret (pe_op op_sub (pe_callB call_len_seq (by rfl) T.z_len PySem.boot_len (pa_cons (pe_lc (own := [("first", 2)]) (g := gName 2) rfl sc_place_in.nd (pi_tup (pv 0)) (blkOk_by (own := [("first", 2)]) (N := sN_place_in) (sc := defScope s_place_in) (by decide +kernel)) (fun _ _ _ _ _ => pg_name (i := 2) sc_place_in.nd rfl (Or.inl rfl)) (fun _ _ _ _ _ => (pts_one (pt_cmpR op_le (pv 2) (pv 1) (nomark _)))) (fun _ _ _ _ _ => (pv 2))) pa_nil)) (pe_int)))), ?_⟩)
  · obtain ⟨G, W, a, ns, v, _, rfl, _⟩ := h
    rfl
  · obtain ⟨G, W, a, ns, v, w, rfl, ha, hl, k⟩ := h
    walk_at "zz"
    refine lc_t ha (fun i acc _ => acc = ((ns.take i).filter fun x => decide (x ≤ v)).map V.int) w rfl (fun _ => rfl) ?_ ?_
    · rintro i x D G1 H1 acc hx e1 w1 rfl
      obtain ⟨n, hn, rfl⟩ : ∃ n, ns[i]? = some n ∧ V.int n = x := by
        rw [List.getElem?_map] at hx
        cases e : ns[i]? with
        | none => rw [e] at hx; exact nomatch hx
        | some n => rw [e] at hx; exact ⟨n, rfl, Option.some.inj hx⟩
      have hf := List.length_filter_le (fun x => decide (x ≤ v)) (ns.take i)
      rw [List.length_take] at hf
      walk_at "zz"
      by_cases h : n ≤ v
      · rw [decide_eq_true h]
        walk_at "zz"
        refine lc_put w1 e1 (by rw [List.length_map]; omega) ?_
        rw [flt_succ hn, if_pos h, List.map_append]
        rfl
      · rw [decide_eq_false h]
        walk_at "zz"
        exact lc_skip w1 e1 (by rw [flt_succ hn, if_neg h])
    · rintro D G1 H1 acc e1 w1 rfl
      walk_at "zz"
      refine ⟨D, _, rfl, .inl (SqL.of (Wd.is1 w1)), ?_⟩
      walk_at "zz"
      rw [List.length_map, List.length_map, List.take_length]
      exact k G1 H1 e1 (Wd.drop1 w1)
def lsy (v : Int) : Int × Int := (257 + cnt kc_LENGTHS v, kc_LENGTH_EXTRAS.getD (cnt kc_LENGTHS v).toNat 0)
def dsy (v : Int) : Int × Int := (cnt kc_DISTANCES v, kc_DISTANCE_EXTRAS.getD (cnt kc_DISTANCES v).toNat 0)
def sp_lsym : Sp := fun vs H Q _ => ∃ (G : Hp) (W : Wl) (v : Int), Wd G W H ∧ vs = [.int v] ∧ 3 ≤ v ∧ ∀ p f G' H', Same G G' → Wd G' W H' → G' p = some (.tup [.int (lsy v).1, .int (lsy v).2, .int f]) → Q (.ref p) H'
theorem ok_length_symbol (T : Txt K mg A) : FnOk P w K mg base CX0 2 A.f_length_symbol A.fd_length_symbol sP_length_symbol sp_lsym := by
  refine okD T.F_length_symbol sc_length_symbol (fun vs H Q E h => ?_) (fun cdv Ar outer s H vs Q E hr h => ⟨_, (pss_cons (ps_set (i := 1) sc_length_symbol.nd rfl (Or.inl rfl) (pe_call (ok_place_in T) (hr.mono (by decide)) rfl T.m_place_in T.F_place_in.kp T.b_place_in .nil pass0 (pa_cons (pe_glob (v := .ref A.c_LENGTHS) rfl T.m_LENGTHS rfl) (pa_cons (pv 0) pa_nil))))
      (pss_one (ps_ret (pe_tup (pa_cons (pe_op op_add (pe_glob (v := .int 257) rfl T.m_FIRST_LENGTH ⟨_, rfl⟩) (pv 1)) (pa_cons (pe_ix ix_tup (pe_glob (v := .ref A.c_LENGTH_EXTRAS) rfl T.m_LENGTH_EXTRAS rfl) (pv 1) (fun _ _ => rfl)) (pa_cons (pe_op op_sub (pv 0) (pe_ix ix_tup (pe_glob (v := .ref A.c_LENGTHS) rfl T.m_LENGTHS rfl) (pv 1) (fun _ _ => rfl))) pa_nil))))))), ?_⟩)
  · obtain ⟨G, W, v, _, rfl, _⟩ := h
    rfl
  · obtain ⟨G, W, v, w, rfl, h3, k⟩ := h
    have t1 : ∀ H, SqT K H A.c_LENGTHS (kc_LENGTHS.map V.int) := T.cs_LENGTHS
    have t2 : ∀ H, SqT K H A.c_LENGTH_EXTRAS (kc_LENGTH_EXTRAS.map V.int) := T.cs_LENGTH_EXTRAS
    walk_at "zz"
    refine ⟨G, W, _, kc_LENGTHS, v, w, rfl, t1 G, by decide, fun G1 H1 e1 w1 => ?_⟩
    have c0 : 0 ≤ cnt kc_LENGTHS v := cnt_ge (n := 3) (by decide) h3
    have c1 : cnt kc_LENGTHS v < 29 := cnt_lt kc_LENGTHS v
    walk_at "zz"
    refine st_ixT (t2 _) (atI_getD c0 c1) ?_
    walk_at "zz"
    refine st_ixT (t1 _) (atI_getD c0 c1) ?_
    walk_at "zz"
    exact ⟨small (by simp), NewO.good w1 fun p G2 H2 e2 w2 h2 => k p _ G2 H2 (by walk_at "sm") w2 h2⟩
def sp_dsym : Sp := fun vs H Q _ => ∃ (G : Hp) (W : Wl) (v : Int), Wd G W H ∧ vs = [.int v] ∧ 1 ≤ v ∧ ∀ p f G' H', Same G G' → Wd G' W H' → G' p = some (.tup [.int (dsy v).1, .int (dsy v).2, .int f]) → Q (.ref p) H'
theorem ok_distance_symbol (T : Txt K mg A) : FnOk P w K mg base CX0 2 A.f_distance_symbol A.fd_distance_symbol sP_distance_symbol sp_dsym := by
  refine okD T.F_distance_symbol sc_distance_symbol (fun vs H Q E h => ?_) (fun cdv Ar outer s H vs Q E hr h => ⟨_, (pss_cons (ps_set (i := 1) sc_distance_symbol.nd rfl (Or.inl rfl) (pe_call (ok_place_in T) (hr.mono (by decide)) rfl T.m_place_in T.F_place_in.kp T.b_place_in .nil pass0 (pa_cons (pe_glob (v := .ref A.c_DISTANCES) rfl T.m_DISTANCES rfl) (pa_cons (pv 0) pa_nil))))
      (pss_one (ps_ret (pe_tup (pa_cons (pv 1) (pa_cons (pe_ix ix_tup (pe_glob (v := .ref A.c_DISTANCE_EXTRAS) rfl T.m_DISTANCE_EXTRAS rfl) (pv 1) (fun _ _ => rfl)) (pa_cons (pe_op op_sub (pv 0) (pe_ix ix_tup (pe_glob (v := .ref A.c_DISTANCES) rfl T.m_DISTANCES rfl) (pv 1) (fun _ _ => rfl))) pa_nil))))))), ?_⟩)
  · obtain ⟨G, W, v, _, rfl, _⟩ := h
    rfl
  · obtain ⟨G, W, v, w, rfl, h3, k⟩ := h
    have t1 : ∀ H, SqT K H A.c_DISTANCES (kc_DISTANCES.map V.int) := T.cs_DISTANCES
    have t2 : ∀ H, SqT K H A.c_DISTANCE_EXTRAS (kc_DISTANCE_EXTRAS.map V.int) := T.cs_DISTANCE_EXTRAS
    walk_at "zz"
    refine ⟨G, W, _, kc_DISTANCES, v, w, rfl, t1 G, by decide, fun G1 H1 e1 w1 => ?_⟩
    have c0 : 0 ≤ cnt kc_DISTANCES v := cnt_ge (n := 1) (by decide) h3
    have c1 : cnt kc_DISTANCES v < 30 := cnt_lt kc_DISTANCES v
    walk_at "zz"
    refine st_ixT (t2 _) (atI_getD c0 c1) ?_
    walk_at "zz"
    refine st_ixT (t1 _) (atI_getD c0 c1) ?_
    walk_at "zz"
    exact ⟨small (by simp), NewO.good w1 fun p G2 H2 e2 w2 h2 => k p _ G2 H2 (by walk_at "sm") w2 h2⟩
/-! ### bits of symbols -/
def szV (ns : List Int) (s : Int) : V := if s < ns.length ∧ 0 < ns.getD s.toNat 0 then .int (ns.getD s.toNat 0) else .non
def SqA (K : PySem.W.Frag) (H : Hp) (a : Addr) (xs : List V) : Prop := SqL K H a xs ∨ SqT K H a xs
theorem SqA.up {G H : Hp} {a : Addr} {xs : List V} (e : Same G H) (h : SqA K G a xs) : SqA K H a xs := h.imp (fun h => e.seq h) fun h => seqT e h
def sp_sbits (K : PySem.W.Frag) : Sp := fun vs H Q _ => ∃ (a : Addr) (ns : List Int) (s : Int), vs = [.ref a, .int s] ∧ SqA K H a (ns.map V.int) ∧ 0 ≤ s ∧ Q (szV ns s) H
theorem ok_symbol_bits (T : Txt K mg A) : FnOk P w K mg base CX0 1 A.f_symbol_bits A.fd_symbol_bits sP_symbol_bits (sp_sbits K) := by
  refine okD T.F_symbol_bits sc_symbol_bits (fun vs H Q E h => ?_) (fun cdv Ar outer s H vs Q E hr h => ⟨_, (pss_one (ps_ret (pe_ifExp (PW.pt (pw_and (pt_cmpR op_lt (pv 1) (pe_callB call_len_seq (by rfl) T.z_len PySem.boot_len (pa_cons (pv 0) pa_nil)) (nomark _)) (pw_and1 (pt_cmpR op_gt (pe_ix ix_seqA (pv 0) (pv 1) (fun _ _ => rfl)) (pe_int) (nomark _))))) (pe_ix ix_seqA (pv 0) (pv 1) (fun _ _ => rfl)) (pe_non)))), ?_⟩)
  · obtain ⟨a, ns, v, rfl, _⟩ := h
    rfl
  · obtain ⟨a, ns, v, rfl, ha, h0, k⟩ := h
    unfold szV at k
    walk_at "zz"
    walk_at "zi"
    walk_at "zz"
    refine ⟨a, _, rfl, ha, ?_⟩
    walk_at "zz"
    rw [List.length_map]
    by_cases h1 : v < ns.length
    · rw [decide_eq_true h1]
      walk_at "zz"
      refine st_ixA ha (atI_getD h0 h1) ?_
      walk_at "zz"
      by_cases h2 : 0 < ns.getD v.toNat 0
      · rw [decide_eq_true h2]
        walk_at "zz"
        refine st_ixA ha (atI_getD h0 h1) ?_
        rw [if_pos ⟨h1, h2⟩] at k
        exact k
      · rw [decide_eq_false h2]
        walk_at "zz"
        rw [if_neg (fun h => h2 h.2)] at k
        exact k
    · rw [decide_eq_false h1]
      walk_at "zz"
      rw [if_neg (fun h => h1 h.1)] at k
      exact k
def cmb : V → Int → V → Int → V
  | .int x, e, .int y, f => .int (x + e + y + f)
  | _, _, _, _ => .non
def tbV (ns ms : List Int) : PyData → V
  | .int i => szV ns i
  | .tuple [.int l, .int m] => cmb (szV ns (lsy l).1) (lsy l).2 (szV ms (dsy m).1) (dsy m).2
  | _ => .non
theorem szV_or (ns : List Int) (s : Int) : szV ns s = .non ∨ ∃ n, szV ns s = .int n ∧ n ∈ ns := by
  unfold szV
  split
  · rename_i h
    refine .inr ⟨_, rfl, ?_⟩
    rw [List.getD_eq_getElem?_getD] at *
    cases e : ns[s.toNat]? with
    | none => rw [e] at h; exact absurd h.2 (by decide)
    | some n => exact List.mem_of_getElem? e
  · exact .inl rfl
/-- a token in its bounds -/
def TokB (d : PyData) : Prop := (∃ i, d = .int i ∧ 0 ≤ i ∧ i ≤ 255) ∨ ∃ l m, d = .tuple [.int l, .int m] ∧ 3 ≤ l ∧ l ≤ 258 ∧ 1 ≤ m ∧ m ≤ 32768
theorem lsy_ge {v : Int} (h : 3 ≤ v) : 0 ≤ (lsy v).1 := by
  have := cnt_ge (ns := kc_LENGTHS) (n := 3) (by decide) h
  unfold lsy
  dsimp only
  omega
theorem dsy_ge {v : Int} (h : 1 ≤ v) : 0 ≤ (dsy v).1 := cnt_ge (ns := kc_DISTANCES) (n := 1) (by decide) h
theorem two_of {H : Hp} {xs : List V} {ds : List PyData} (h : DpAll K H xs ds) (hl : ds.length = 2) : ∃ x1 x2 d1 d2, xs = [x1, x2] ∧ ds = [d1, d2] ∧ Dp K H x1 d1 ∧ Dp K H x2 d2 := by
  cases h with
  | nil => exact nomatch hl
  | cons a h =>
    cases h with
    | nil => exact nomatch hl
    | cons b h =>
      cases h with
      | nil => exact ⟨_, _, _, _, rfl, rfl, a, b⟩
      | cons c h =>
        rw [List.length_cons, List.length_cons, List.length_cons] at hl
        omega
def sp_tbits (K : PySem.W.Frag) : Sp := fun vs H Q _ => ∃ (G : Hp) (W : Wl) (x : V) (d : PyData) (a b : Addr) (ns ms : List Int), Wd G W H ∧ vs = [x, .ref a, .ref b] ∧ Dp K G x d ∧ TokB d ∧ SqA K G a (ns.map V.int) ∧ SqA K G b (ms.map V.int) ∧ ∀ G' H', Same G G' → Wd G' W H' → Q (tbV ns ms d) H'
theorem ok_token_bits (T : Txt K mg A) : FnOk P w K mg base CX0 3 A.f_token_bits A.fd_token_bits sP_token_bits (sp_tbits K) := by
  refine okD T.F_token_bits sc_token_bits (fun vs H Q E h => ?_) (fun cdv Ar outer s H vs Q E hr h => ⟨_, (pss_cons (ps_if (pt_val (pe_callB call_isi (by rfl) T.z_isinstance (by decide +kernel) (pa_cons (pv 0) (pa_cons (pe_bltn (v := .ty "int") (u := .type "int") (by rfl) T.z_int (by decide +kernel) rfl) pa_nil)))) (pss_one (ps_ret (pe_call (ok_symbol_bits T) (hr.mono (by decide)) rfl T.m_symbol_bits T.F_symbol_bits.kp T.b_symbol_bits .nil pass0 (pa_cons (pv 1) (pa_cons (pv 0) pa_nil))))) pss_nil)
      (pss_cons (ps_asg (pe_call (ok_length_symbol T) (hr.mono (by decide)) rfl T.m_length_symbol T.F_length_symbol.kp T.b_length_symbol .nil pass0 (pa_cons (pe_ix ix_tup (pv 0) (pe_int) (fun _ _ => rfl)) pa_nil)) (pg_tup rfl (pgs_cons (pg_name (i := 3) sc_token_bits.nd rfl (Or.inl rfl)) (pgs_cons (pg_name (i := 4) sc_token_bits.nd rfl (Or.inl rfl)) (pgs_cons (pg_name (i := 5) sc_token_bits.nd rfl (Or.inl rfl)) pgs_nil)))))
      (pss_cons (ps_asg (pe_call (ok_distance_symbol T) (hr.mono (by decide)) rfl T.m_distance_symbol T.F_distance_symbol.kp T.b_distance_symbol .nil pass0 (pa_cons (pe_ix ix_tup (pv 0) (pe_int) (fun _ _ => rfl)) pa_nil)) (pg_tup rfl (pgs_cons (pg_name (i := 6) sc_token_bits.nd rfl (Or.inl rfl)) (pgs_cons (pg_name (i := 7) sc_token_bits.nd rfl (Or.inl rfl)) (pgs_cons (pg_name (i := 5) sc_token_bits.nd rfl (Or.inl rfl)) pgs_nil)))))
      (pss_cons (ps_par (i := 8) (j := 9) (by rfl) sc_token_bits.nd rfl rfl (by decide) rfl rfl (pa_cons (pe_call (ok_symbol_bits T) (hr.mono (by decide)) rfl T.m_symbol_bits T.F_symbol_bits.kp T.b_symbol_bits .nil pass0 (pa_cons (pv 1) (pa_cons (pv 3) pa_nil))) (pa_cons (pe_call (ok_symbol_bits T) (hr.mono (by decide)) rfl T.m_symbol_bits T.F_symbol_bits.kp T.b_symbol_bits .nil pass0 (pa_cons (pv 2) (pa_cons (pv 6) pa_nil))) pa_nil)) (by rfl))
      (pss_one (ps_ret (pe_ifExp (PW.pt (pw_or (pt_cmpR op_isN (pv 8) (pe_non) (nomark _)) (pw_or1 (pt_cmpR op_isN (pv 9) (pe_non) (nomark _))))) (pe_non) (pe_op op_add (pe_op op_add (pe_op op_add (pv 8) (pv 4)) (pv 9)) (pv 7))))))))), ?_⟩)
  · obtain ⟨G, W, x, d, a, b, ns, ms, _, rfl, _⟩ := h
    rfl
  · obtain ⟨G, W, x, d, a, b, ns, ms, w, rfl, hd, ht, ha, hb, k⟩ := h
    walk_at "zz"
    rcases ht with ⟨i, rfl, h0, h1⟩ | ⟨l, m, rfl, hl0, hl1, hm0, hm1⟩
    · cases hd
      refine isiD (.int i) (b := true) (show kitB "int" "int" = some true by decide +kernel) ⟨_, rfl, ?_⟩
      walk_at "zz"
      exact ⟨a, ns, i, rfl, ha.up w.ex, h0, k G H (Same.refl _) w⟩
    · cases hd with
      | tup hs hall =>
        obtain ⟨x1, x2, d1, d2, rfl, e2, y1, y2⟩ := two_of hall rfl
        cases e2
        cases y1
        cases y2
        rename_i t
        refine isiD (.tup (tup_up w hs) (.cons (.int l) (.cons (.int m) .nil))) (b := false) (show kitB "tuple" "int" = some false by decide +kernel) ⟨_, rfl, ?_⟩
        walk_at "zz"
        refine st_ixT (v := .int l) (tup_up w hs) rfl ?_
        walk_at "zz"
        refine ⟨G, W, l, w, rfl, hl0, fun p1 f1 G1 H1 e1 w1 h1 => ?_⟩
        walk_at "zz"
        refine st_gtup (SqT.of (w1.at h1)) rfl ?_
        walk_at "zz"
        refine st_ixT (v := .int m) (tup_up w1 (seqT e1 hs)) rfl ?_
        walk_at "zz"
        refine ⟨G1, W, m, w1, rfl, hm0, fun p2 f2 G2 H2 e2 w2 h2 => ?_⟩
        walk_at "zz"
        refine st_gtup (SqT.of (w2.at h2)) rfl ?_
        have e12 := e1.trans e2
        walk_at "zz"
        refine ⟨a, ns, _, rfl, (ha.up e12).up w2.ex, lsy_ge hl0, ?_⟩
        walk_at "zz"
        refine ⟨b, ms, _, rfl, (hb.up e12).up w2.ex, dsy_ge hm0, ?_⟩
        have k2 : Q (cmb (szV ns (lsy l).1) (lsy l).2 (szV ms (dsy m).1) (dsy m).2) H2 := k G2 H2 e12 w2
        walk_at "zz"
        walk_at "zi"
        walk_at "zz"
        refine ⟨rfl, ?_⟩
        rcases szV_or ns (lsy l).1 with h | ⟨n, h, _⟩
        · rw [h] at k2 ⊢
          rw [decide_eq_true rfl]
          walk_at "zz"
          exact k2
        · rw [h] at k2 ⊢
          rw [decide_eq_false (fun h => nomatch h)]
          walk_at "zz"
          refine ⟨rfl, ?_⟩
          rcases szV_or ms (dsy m).1 with h | ⟨n2, h, _⟩
          · rw [h] at k2 ⊢
            rw [decide_eq_true rfl]
            walk_at "zz"
            exact k2
          · rw [h] at k2 ⊢
            rw [decide_eq_false (fun h => nomatch h)]
            walk_at "zz"
            exact k2

/-! ### the law's symbols -/
def sy : List Nat → Int → Int → Int → Int × Int
  | [], _, s, _ => (s, 0)
  | e :: es, a, s, v => if v < a + 2 ^ e then (s, (e : Int)) else sy es (a + 2 ^ e) (s + 1) v
def syA (f0 f1 p : Int) (es : List Nat) (v : Int) : Int × Int := if v < f0 + p then (f1 + v - f0, 0) else sy es (f0 + p) (f1 + p) v
def esL : List Nat := [1, 1, 1, 1, 2, 2, 2, 2, 3, 3, 3, 3, 4, 4, 4, 4, 5, 5, 5, 5]
def esD : List Nat := [1, 1, 2, 2, 3, 3, 4, 4, 5, 5, 6, 6, 7, 7, 8, 8, 9, 9, 10, 10, 11, 11, 12, 12, 13, 13]
def fs : List Nat → Int → List Int
  | [], _ => []
  | e :: es, a => a :: fs es (a + 2 ^ e)
def fin : List Nat → Int → Int
  | [], a => a
  | e :: es, a => fin es (a + 2 ^ e)
theorem fs_gt : ∀ (es : List Nat) (a v : Int), v < a → (fs es a).filter (fun x => decide (x ≤ v)) = []
  | [], _, _, _ => rfl
  | e :: es, a, v, h => by
    have h2 : (0 : Int) < 2 ^ e := Int.pow_pos (by decide)
    unfold fs
    rw [List.filter_cons, decide_eq_false (by omega)]
    exact fs_gt es _ v (by omega)
theorem sy_cnt : ∀ (es : List Nat) (a s v : Int), a ≤ v → v < fin es a →
    ∃ c : Nat, ((fs es a).filter fun x => decide (x ≤ v)).length = c + 1 ∧ c < es.length ∧ sy es a s v = (s + c, (es.getD c 0 : Int))
  | [], a, s, v, h1, h2 => by
    unfold fin at h2
    omega
  | e :: es, a, s, v, h1, h2 => by
    unfold fs sy
    rw [List.filter_cons, decide_eq_true h1]
    by_cases h : v < a + 2 ^ e
    · rw [if_pos h, fs_gt es _ v h]
      exact ⟨0, rfl, Nat.succ_pos _, by simp⟩
    · rw [if_neg h]
      obtain ⟨c, h3, h5, h4⟩ := sy_cnt es (a + 2 ^ e) (s + 1) v (by omega) h2
      refine ⟨c + 1, ?_, Nat.succ_lt_succ h5, ?_⟩
      · rw [if_pos rfl, List.length_cons, h3]
      · rw [h4]
        simp
        omega
theorem dsy_eq {v : Int} (h0 : 1 ≤ v) (h1 : v ≤ 32768) : syA 1 0 4 esD v = dsy v := by
  unfold syA dsy cnt
  by_cases h : v < 1 + 4
  · rw [if_pos h]
    have : v = 1 ∨ v = 2 ∨ v = 3 ∨ v = 4 := by omega
    rcases this with rfl | rfl | rfl | rfl <;> decide +kernel
  · rw [if_neg h]
    obtain ⟨c, h3, h5, h4⟩ := sy_cnt esD (1 + 4) (0 + 4) v (by omega) (by rw [show fin esD (1 + 4) = 32769 by decide +kernel]; omega)
    have hk : kc_DISTANCES = [1, 2, 3, 4] ++ fs esD (1 + 4) := by decide +kernel
    have hf : ([1, 2, 3, 4] : List Int).filter (fun x => decide (x ≤ v)) = [1, 2, 3, 4] := by
      rw [List.filter_eq_self]
      intro a ha
      simp at ha
      exact decide_eq_true (by omega)
    rw [h4, hk, List.filter_append, hf, List.length_append, h3]
    have hc : (((([1, 2, 3, 4] : List Int).length + (c + 1) : Nat) : Int) - 1).toNat = 4 + c := by
      show (((4 + (c + 1) : Nat) : Int) - 1).toNat = 4 + c
      omega
    rw [hc]
    have h26 : c < 26 := h5
    refine Prod.ext ?_ ?_
    · show (0 : Int) + 4 + (c : Int) = ((4 + (c + 1) : Nat) : Int) - 1
      omega
    · show ((esD.getD c 0 : Nat) : Int) = kc_DISTANCE_EXTRAS.getD (4 + c) 0
      exact (show ∀ c, c < 26 → ((esD.getD c 0 : Nat) : Int) = kc_DISTANCE_EXTRAS.getD (4 + c) 0 by decide +kernel) c h26
theorem lsy_eq {v : Int} (h0 : 3 ≤ v) (h1 : v ≤ 258) : (if v = 258 then (285, 0) else syA 3 257 8 esL v) = lsy v := by
  have h := (show ∀ n : Nat, n < 256 → (if (n : Int) + 3 = 258 then (285, 0) else syA 3 257 8 esL ((n : Int) + 3)) = lsy ((n : Int) + 3) by decide +kernel) (v - 3).toNat (by omega)
  rw [show (((v - 3).toNat : Nat) : Int) + 3 = v by omega] at h
  exact h
theorem drop_at {es : List Nat} {n x : Nat} (h : es[n]? = some x) : es.drop n = x :: es.drop (n + 1) := by
  obtain ⟨h1, h2⟩ := List.getElem?_eq_some_iff.mp h
  rw [List.drop_eq_getElem_cons h1, h2]
def sp_lawsym (K : PySem.W.Frag) : Sp := fun vs H Q _ => ∃ (G : Hp) (W : Wl) (t : Addr) (f0 f1 p : Int) (g e : Nat) (v : Int) (es : List Nat), Wd G W H ∧ vs = [.ref t, .int p, .int (g : Int), .int (e : Int), .int v] ∧ SqT K G t [.int f0, .int f1] ∧ g ≤ 20 ∧ e ≤ 10 ∧
  es.length = g * e ∧ (∀ i, i < g → ∀ j, j < e → es[i * e + j]? = some (i + 1)) ∧ ∀ q G' H', Same G G' → Wd G' W H' → G' q = some (.tup [.int (syA f0 f1 p es v).1, .int (syA f0 f1 p es v).2]) → Q (.ref q) H'
theorem ok__law_symbol (T : Txt K mg A) : FnOk P w K mg base CX0 1 A.f__law_symbol A.fd__law_symbol sP__law_symbol (sp_lawsym K) := by
  refine okD T.F__law_symbol sc__law_symbol (fun vs H Q E h => ?_) (fun cdv Ar outer s H vs Q E hr h => ⟨_, (pss_cons (ps_if (pt_cmpR op_lt (pv 4) (pe_op op_add (pe_ix ix_tup (pv 0) (pe_int) (fun _ _ => rfl)) (pv 1)) (nomark _)) (pss_one (ps_ret (pe_tup (pa_cons (pe_op op_sub (pe_op op_add (pe_ix ix_tup (pv 0) (pe_int) (fun _ _ => rfl)) (pv 4)) (pe_ix ix_tup (pv 0) (pe_int) (fun _ _ => rfl))) (pa_cons (pe_int) pa_nil))))) pss_nil)
      (pss_cons (ps_par (i := 5) (j := 6) (by rfl) sc__law_symbol.nd rfl rfl (by decide) rfl rfl (pa_cons (pe_op op_add (pe_ix ix_tup (pv 0) (pe_int) (fun _ _ => rfl)) (pv 1)) (pa_cons (pe_op op_add (pe_ix ix_tup (pv 0) (pe_int) (fun _ _ => rfl)) (pv 1)) pa_nil)) (by rfl))
      (pss_cons (ps_for PassesOwn.never rfl (pi_range2 (by rfl) T.z_range (pa_cons (pe_int) (pa_cons (pe_op op_add (pv 2) (pe_int)) pa_nil))) (pg_name (i := 7) sc__law_symbol.nd rfl (Or.inl rfl)) (pss_one (ps_for PassesOwn.never rfl (pi_range1 (by rfl) T.z_range (pa_cons (pv 3) pa_nil)) (pg_name (i := 8) sc__law_symbol.nd rfl (Or.inl rfl)) (pss_cons (ps_if (pt_cmpR op_lt (pv 4) (pe_op op_add (pv 5) (pe_op op_shl (pe_int) (pv 7))) (nomark _)) (pss_one (ps_ret (pe_tup (pa_cons (pv 6) (pa_cons (pv 7) pa_nil))))) pss_nil)
      (pss_one (ps_par (i := 5) (j := 6) (by rfl) sc__law_symbol.nd rfl rfl (by decide) rfl rfl (pa_cons (pe_op op_add (pv 5) (pe_op op_shl (pe_int) (pv 7))) (pa_cons (pe_op op_add (pv 6) (pe_int)) pa_nil)) (by rfl)))))))
      (pss_one (ps_ret (pe_tup (pa_cons (pv 6) (pa_cons (pe_int) pa_nil)))))))), ?_⟩)
  · obtain ⟨G, W, t, f0, f1, p, g, e, v, es, _, rfl, _⟩ := h
    rfl
  · obtain ⟨G, W, t, f0, f1, p, g, e, v, es, w, rfl, ht, hg, he, hl, hes, k⟩ := h
    walk_at "zz"
    refine st_ixT (v := .int f0) (tup_up w ht) rfl ?_
    walk_at "zz"
    by_cases h : v < f0 + p
    · rw [decide_eq_true h]
      walk_at "zz"
      refine st_ixT (v := .int f1) (tup_up w ht) rfl ?_
      walk_at "zz"
      refine st_ixT (v := .int f0) (tup_up w ht) rfl ?_
      walk_at "zz"
      unfold syA at k
      rw [if_pos h] at k
      exact ⟨small (by simp), NewO.good w fun p G2 H2 e2 w2 h2 => k p G2 H2 e2 w2 h2⟩
    · rw [decide_eq_false h]
      unfold syA at k
      rw [if_neg h] at k
      walk_at "zz"
      refine st_ixT (v := .int f0) (tup_up w ht) rfl ?_
      walk_at "zz"
      refine st_ixT (v := .int f1) (tup_up w ht) rfl ?_
      walk_at "zz"
      generalize hR : sy es (f0 + p) (f1 + p) v = R at k
      refine for_r2 (by omega) (fun i σ G' W' => W' = W ∧ ∃ a s x7 x8, σ = [some (.ref t), some (.int p), some (.int (g : Int)), some (.int (e : Int)), some (.int v), some (.int a), some (.int s), x7, x8] ∧ sy (es.drop (i * e)) a s v = R) w ⟨rfl, _, _, _, _, rfl, by rw [Nat.zero_mul]; exact hR⟩ ?_ ?_
      · rintro i σ' G1 W1 H1 hi e1 w1 ⟨rfl, a, s1, x7, x8, rfl, hsy⟩
        walk_at "zz"
        refine for_r1 (by omega) (fun j σ G' W' => W' = W1 ∧ ∃ a s x8, σ = [some (.ref t), some (.int p), some (.int (g : Int)), some (.int (e : Int)), some (.int v), some (.int a), some (.int s), some (.int (1 + (i : Int))), x8] ∧ sy (es.drop (i * e + j)) a s v = R) w1 ⟨rfl, _, _, _, rfl, hsy⟩ ?_ ?_
        · rintro j σ' G2 W2 H2 hj e2 w2 ⟨rfl, a, s1, x8, rfl, hsy⟩
          have hx := hes i (by omega) j (by omega)
          rw [drop_at hx] at hsy
          unfold sy at hsy
          have hpow : (1 : Int) * 2 ^ (1 + (i : Int)).toNat = 2 ^ (i + 1) := by
            rw [Int.one_mul, show (1 + (i : Int)).toNat = i + 1 by omega]
          walk_at "zz"
          rw [hpow]
          by_cases hv : v < a + 2 ^ (i + 1)
          · rw [decide_eq_true hv]
            rw [if_pos hv] at hsy
            subst hsy
            walk_at "zz"
            exact ⟨small (by simp), NewO.good w2 fun p G3 H3 e3 w3 h3 => k p G3 H3 (by walk_at "sm") w3 (by rw [h3, show (1 : Int) + (i : Int) = ((i + 1 : Nat) : Int) by omega])⟩
          · rw [decide_eq_false hv]
            rw [if_neg hv] at hsy
            walk_at "zz"
            rw [hpow]
            exact st_btw (by walk_at "sm") w2 ⟨rfl, _, _, _, rfl, hsy⟩
        · rintro σ' G2 W2 H2 e2 w2 ⟨rfl, a, s1, x8, rfl, hsy⟩
          refine st_btw (by walk_at "sm") w2 ⟨rfl, _, _, _, _, rfl, ?_⟩
          rw [← hsy, Nat.succ_mul]
          rfl
      · rintro σ' G1 W1 H1 e1 w1 ⟨rfl, a, s1, x7, x8, rfl, hsy⟩
        rw [show ((g : Int) + 1 - 1).toNat = g by omega, List.drop_eq_nil_of_le (by omega)] at hsy
        unfold sy at hsy
        subst hsy
        walk_at "zz"
        exact ⟨small (by simp), NewO.good w1 fun p G3 H3 e3 w3 h3 => k p G3 H3 (by walk_at "sm") w3 h3⟩
def sp_size (K : PySem.W.Frag) : Sp := fun vs H Q _ => ∃ (a : Addr) (ns : List Int) (s : Int), vs = [.ref a, .int s] ∧ SqL K H a (ns.map V.int) ∧ 0 ≤ s ∧ Q (szV ns s) H
theorem ok__law_size (T : Txt K mg A) : FnOk P w K mg base CX0 1 A.f__law_size A.fd__law_size sP__law_size (sp_size K) := by
  refine okD T.F__law_size sc__law_size (fun vs H Q E h => ?_) (fun cdv Ar outer s H vs Q E hr h => ⟨_, (pss_one (ps_ret (pe_ifExp (PW.pt (pw_and (pt_cmpR op_lt (pv 1) (pe_callB call_len_seq (by rfl) T.z_len PySem.boot_len (pa_cons (pv 0) pa_nil)) (nomark _)) (pw_and1 (pt_cmpR op_gt (pe_ix ix_list (pv 0) (pv 1) (fun _ _ => rfl)) (pe_int) (nomark _))))) (pe_ix ix_list (pv 0) (pv 1) (fun _ _ => rfl)) (pe_non)))), ?_⟩)
  · obtain ⟨a, ns, v, rfl, _⟩ := h
    rfl
  · obtain ⟨a, ns, v, rfl, ha, h0, k⟩ := h
    unfold szV at k
    walk_at "zz"
    walk_at "zi"
    walk_at "zz"
    refine ⟨a, _, rfl, .inl ha, ?_⟩
    walk_at "zz"
    rw [List.length_map]
    by_cases h1 : v < ns.length
    · rw [decide_eq_true h1]
      walk_at "zz"
      refine st_ixL ha (atI_getD h0 h1) ?_
      walk_at "zz"
      by_cases h2 : 0 < ns.getD v.toNat 0
      · rw [decide_eq_true h2]
        walk_at "zz"
        refine st_ixL ha (atI_getD h0 h1) ?_
        rw [if_pos ⟨h1, h2⟩] at k
        exact k
      · rw [decide_eq_false h2]
        walk_at "zz"
        rw [if_neg (fun h => h2 h.2)] at k
        exact k
    · rw [decide_eq_false h1]
      walk_at "zz"
      rw [if_neg (fun h => h1 h.1)] at k
      exact k
def sp_ltbits (K : PySem.W.Frag) : Sp := fun vs H Q _ => ∃ (G : Hp) (W : Wl) (x : V) (d : PyData) (a b : Addr) (ns ms : List Int), Wd G W H ∧ vs = [x, .ref a, .ref b] ∧ Dp K G x d ∧ TokB d ∧ SqL K G a (ns.map V.int) ∧ SqL K G b (ms.map V.int) ∧ ∀ G' H', Same G G' → Wd G' W H' → Q (tbV ns ms d) H'
theorem ok__law_token_bits (T : Txt K mg A) : FnOk P w K mg base CX0 2 A.f__law_token_bits A.fd__law_token_bits sP__law_token_bits (sp_ltbits K) := by
  refine okD T.F__law_token_bits sc__law_token_bits (fun vs H Q E h => ?_) (fun cdv Ar outer s H vs Q E hr h => ⟨_, (pss_cons (ps_if (pt_val (pe_call (ok__law_whole T) (hr.mono (by decide)) rfl T.m__law_whole T.F__law_whole.kp T.b__law_whole .nil pass0 (pa_cons (pv 0) pa_nil))) (pss_one (ps_ret (pe_call (ok__law_size T) (hr.mono (by decide)) rfl T.m__law_size T.F__law_size.kp T.b__law_size .nil pass0 (pa_cons (pv 1) (pa_cons (pv 0) pa_nil))))) pss_nil)
      (C8.pss_cut (ps_set (i := 3) sc__law_token_bits.nd rfl (Or.inl rfl) (pe_ifExp (pt_cmpR op_eq (pe_ix ix_tup (pv 0) (pe_int) (fun _ _ => rfl)) (pe_int) (nomark _)) (pe_tup (pa_cons (pe_int) (pa_cons (pe_int) pa_nil))) (pe_call (ok__law_symbol T) (hr.mono (by decide)) rfl T.m__law_symbol T.F__law_symbol.kp T.b__law_symbol .nil pass0 (pa_cons (pe_tup (pa_cons (pe_int) (pa_cons (pe_int) pa_nil))) (pa_cons (pe_int) (pa_cons (pe_int) (pa_cons (pe_int) (pa_cons (pe_ix ix_tup (pv 0) (pe_int) (fun _ _ => rfl)) pa_nil))))))))
      (pss_cons (ps_set (i := 4) sc__law_token_bits.nd rfl (Or.inl rfl) (pe_call (ok__law_symbol T) (hr.mono (by decide)) rfl T.m__law_symbol T.F__law_symbol.kp T.b__law_symbol .nil pass0 (pa_cons (pe_tup (pa_cons (pe_int) (pa_cons (pe_int) pa_nil))) (pa_cons (pe_int) (pa_cons (pe_int) (pa_cons (pe_int) (pa_cons (pe_ix ix_tup (pv 0) (pe_int) (fun _ _ => rfl)) pa_nil)))))))
      (pss_cons (ps_set (i := 5) sc__law_token_bits.nd rfl (Or.inl rfl) (pe_lst (pa_cons (pe_call (ok__law_size T) (hr.mono (by decide)) rfl T.m__law_size T.F__law_size.kp T.b__law_size .nil pass0 (pa_cons (pv 1) (pa_cons (pe_ix ix_tup (pv 3) (pe_int) (fun _ _ => rfl)) pa_nil))) (pa_cons (pe_call (ok__law_size T) (hr.mono (by decide)) rfl T.m__law_size T.F__law_size.kp T.b__law_size .nil pass0 (pa_cons (pv 2) (pa_cons (pe_ix ix_tup (pv 4) (pe_int) (fun _ _ => rfl)) pa_nil))) pa_nil))))
      (pss_one (ps_ret (pe_ifExp (pt_cmpR op_in_seq (pe_non) (pv 5) rfl) (pe_non) (pe_op op_add (pe_op op_add (pe_op op_add (pe_ix ix_list (pv 5) (pe_int) (fun _ _ => rfl)) (pe_ix ix_tup (pv 3) (pe_int) (fun _ _ => rfl))) (pe_ix ix_list (pv 5) (pe_int) (fun _ _ => rfl))) (pe_ix ix_tup (pv 4) (pe_int) (fun _ _ => rfl)))))))))), ?_⟩)
  · obtain ⟨G, W, x, d, a, b, ns, ms, _, rfl, _⟩ := h
    rfl
  · obtain ⟨G, W, x, d, a, b, ns, ms, w, rfl, hd, ht, ha, hb, k⟩ := h
    walk_at "zz"
    refine ⟨x, rfl, dp_knd (dUp w hd), ?_⟩
    rw [isInt_d (dUp w hd)]
    rcases ht with ⟨i, rfl, h0, h1⟩ | ⟨l, m, rfl, hl0, hl1, hm0, hm1⟩
    · cases hd
      dsimp only [isI]
      walk_at "zz"
      exact ⟨a, ns, i, rfl, seq_up w ha, h0, k G H (Same.refl _) w⟩
    · cases hd with
      | tup hs hall =>
        obtain ⟨x1, x2, d1, d2, rfl, e2, y1, y2⟩ := two_of hall rfl
        cases e2
        cases y1
        cases y2
        rename_i t
        dsimp only [isI]
        walk_at "zz"
        refine st_cut (fun σ H => ∃ G' p, Same G G' ∧ Wd G' W H ∧ G' p = some (.tup [.int (lsy l).1, .int (lsy l).2]) ∧ σ = [some (.ref t), some (.ref a), some (.ref b), some (.ref p), none, none]) ?_ ?_
        · have hq := lsy_eq hl0 hl1
          walk_at "zz"
          walk_at "zi"
          walk_at "zz"
          refine st_ixT (v := .int l) (tup_up w hs) rfl ?_
          walk_at "zz"
          by_cases h258 : l = 258
          · rw [decide_eq_true (show V.int l = V.int 258 by rw [h258])]
            rw [if_pos h258] at hq
            walk_at "zz"
            exact ⟨by decide, NewO.good w fun p1 G1 H1 e1 w1 h1 => ⟨G1, p1, e1, w1, by rw [h1, ← hq], rfl⟩⟩
          · rw [decide_eq_false (show ¬ V.int l = V.int 258 from fun h => h258 (by injection h))]
            rw [if_neg h258] at hq
            walk_at "zz"
            refine ⟨by decide, NewO.good w fun p1 G1 H1 e1 w1 h1 => ?_⟩
            walk_at "zz"
            refine st_ixT (v := .int l) (tup_up w1 (seqT e1 hs)) rfl ?_
            walk_at "zz"
            exact ⟨G1, W, p1, 3, 257, 8, 5, 4, l, esL, w1, rfl, SqT.of h1, by decide, by decide, by decide, by decide, fun q G2 H2 e2 w2 h2 => ⟨G2, q, e1.trans e2, w2, by rw [h2, ← hq], rfl⟩⟩
        · rintro σ1 H1 ⟨G1, p1, e1, w1, h1, rfl⟩
          have hq := dsy_eq hm0 hm1
          walk_at "zz"
          refine ⟨by decide, NewO.good w1 fun p2 G2 H2 e2 w2 h2 => ?_⟩
          walk_at "zz"
          refine st_ixT (v := .int m) (tup_up w2 (seqT (e1.trans e2) hs)) rfl ?_
          walk_at "zz"
          refine ⟨G2, W, p2, 1, 0, 4, 13, 2, m, esD, w2, rfl, SqT.of h2, by decide, by decide, by decide, by decide, fun q G3 H3 e3 w3 h3 => ?_⟩
          rw [hq] at h3
          have e13 := (e1.trans e2).trans e3
          have h13 := e3 _ _ (e2 _ _ h1)
          walk_at "zz"
          refine st_ixT (v := .int (lsy l).1) (SqT.of (w3.at h13)) rfl ?_
          walk_at "zz"
          refine ⟨a, ns, _, rfl, seq_up w3 (e13.seq ha), lsy_ge hl0, ?_⟩
          walk_at "zz"
          refine st_ixT (v := .int (dsy m).1) (SqT.of (w3.at h3)) rfl ?_
          walk_at "zz"
          refine ⟨b, ms, _, rfl, seq_up w3 (e13.seq hb), dsy_ge hm0, ?_⟩
          walk_at "zz"
          refine ⟨small (by simp), NewO.good w3 fun p4 G4 H4 e4 w4 h4 => ?_⟩
          have k2 : Q (cmb (szV ns (lsy l).1) (lsy l).2 (szV ms (dsy m).1) (dsy m).2) H4 := k G4 H4 (by walk_at "sm") w4
          walk_at "zz"
          walk_at "zi"
          walk_at "zz"
          rcases szV_or ns (lsy l).1 with h | ⟨n, h, _⟩
          · rw [h] at k2 h4
            rcases szV_or ms (dsy m).1 with h | ⟨n2, h, _⟩
            · rw [h] at k2 h4
              refine ⟨p4, _, rfl, .inl (SqL.of (w4.at h4)), rfl, rfl, ?_⟩
              walk_at "zz"
              exact k2
            · rw [h] at k2 h4
              refine ⟨p4, _, rfl, .inl (SqL.of (w4.at h4)), rfl, rfl, ?_⟩
              walk_at "zz"
              exact k2
          · rw [h] at k2 h4
            rcases szV_or ms (dsy m).1 with h | ⟨n2, h, _⟩
            · rw [h] at k2 h4
              refine ⟨p4, _, rfl, .inl (SqL.of (w4.at h4)), rfl, rfl, ?_⟩
              walk_at "zz"
              exact k2
            · rw [h] at k2 h4
              refine ⟨p4, _, rfl, .inl (SqL.of (w4.at h4)), rfl, rfl, ?_⟩
              walk_at "zz"
              refine iteBF rfl ?_
              walk_at "zz"
              refine st_ixL (v := .int n) (SqL.of (w4.at h4)) rfl ?_
              walk_at "zz"
              refine st_ixT (v := .int (lsy l).2) (SqT.of (w4.at (e4 _ _ h13))) rfl ?_
              walk_at "zz"
              refine st_ixL (v := .int n2) (SqL.of (w4.at h4)) rfl ?_
              walk_at "zz"
              refine st_ixT (v := .int (dsy m).2) (SqT.of (w4.at (e4 _ _ h3))) rfl ?_
              walk_at "zz"
              exact k2

/-! ### data and trees that are drawn -/
theorem cut_two {ns : List Int} {i j : Int} (h0 : 0 ≤ i) (h1 : i < ns.length) (h2 : i < j) : ∃ ms : List Int, cutV (ns.map V.int) (some i) (some j) = ms.map V.int ∧ (∀ m ∈ ms, m ∈ ns) ∧ 0 < ms.length ∧ (ms.length : Int) ≤ j - i := by
  refine ⟨(ns.drop (min i.toNat ns.length)).take (min j.toNat ns.length - min i.toNat ns.length), ?_, ?_, ?_, ?_⟩
  · unfold cutV
    simp only [HT.sIx, if_neg (show ¬ i < 0 by omega), if_neg (show ¬ j < 0 by omega), List.length_map]
    rw [List.map_take, List.map_drop]
  · exact fun m hm => List.mem_of_mem_drop (List.mem_of_mem_take hm)
  · rw [List.length_take, List.length_drop]
    omega
  · rw [List.length_take, List.length_drop]
    omega
def Byt (ns : List Int) : Prop := ∀ n ∈ ns, 0 ≤ n ∧ n ≤ 255
theorem Byt.app {ns ms : List Int} (h : Byt ns) (h2 : Byt ms) : Byt (ns ++ ms) := fun n hn => (List.mem_append.mp hn).elim (h n) (h2 n)
def Pool (G : Hp) (v : V) : Prop := ∃ a ms, v = .ref a ∧ HL G a ms ∧ Byt ms ∧ 0 < ms.length ∧ ms.length ≤ 12
def sp_drawn (K : PySem.W.Frag) : Sp := fun vs H Q _ => ∃ (G : Hp) (W : Wl) (b : Addr) (m : Int), Wd G W H ∧ (b, BagI) ∈ W ∧ vs = [.ref b, .int m] ∧ 0 ≤ m ∧ m ≤ 1000 ∧ ∀ p ns G' H', Same G G' → Wd G' W H' → HL G' p ns → Byt ns → (ns.length : Int) ≤ m → Q (.ref p) H'
theorem ok__law_drawn_data (T : Txt K mg A) : FnOk P w K mg base CX0 3 A.f__law_drawn_data A.fd__law_drawn_data sP__law_drawn_data (sp_drawn K) := by
  refine okD T.F__law_drawn_data sc__law_drawn_data (fun vs H Q E h => ?_) (fun cdv Ar outer s H vs Q E hr h => ⟨_, (pss_cons (ps_set (i := 2) sc__law_drawn_data.nd rfl (Or.inl rfl) (pe_lst (pa_cons (pe_lst (pa_cons (pe_int) pa_nil)) (pa_cons (pe_lst (pa_cons (pe_int) (pa_cons (pe_int) pa_nil))) (pa_cons (pe_lst (pa_cons (pe_int) (pa_cons (pe_int) (pa_cons (pe_int) (pa_cons (pe_int) pa_nil))))) (pa_cons (pe_lst (pa_cons (pe_int) (pa_cons (pe_int) (pa_cons (pe_int) pa_nil)))) (pa_cons (pe_lc (own := [("_law_turn", 3)]) (g := gName 3) (tt := tYes) rfl sc__law_drawn_data.nd (pi_range1 (by rfl) T.z_range (pa_cons (pe_int) pa_nil)) (blkOk_by (own := [("_law_turn", 3)]) (N := sN__law_drawn_data) (sc := defScope s__law_drawn_data) (by decide +kernel)) (fun _ _ _ _ _ => pg_name (i := 3) sc__law_drawn_data.nd rfl (Or.inl rfl)) (fun _ _ _ _ _ => pts_nil) (fun _ _ _ _ _ => (pe_call (ok__law_take T) (hr.mono (by decide)) rfl T.m__law_take T.F__law_take.kp T.b__law_take .nil pass0 (pa_cons (pv 0) (pa_cons (pe_int) pa_nil))))) pa_nil)))))))
      (pss_cons (ps_par (i := 4) (j := 5) (by rfl) sc__law_drawn_data.nd rfl rfl (by decide) rfl rfl (pa_cons (pe_call (ok__law_one T) (hr.mono (by decide)) rfl T.m__law_one T.F__law_one.kp T.b__law_one .nil pass0 (pa_cons (pv 0) (pa_cons (pv 2) pa_nil))) (pa_cons (pe_lst pa_nil) pa_nil)) (by rfl))
      (pss_cons (ps_set (i := 6) sc__law_drawn_data.nd rfl (Or.inl rfl) (pe_call (ok__law_take T) (hr.mono (by decide)) rfl T.m__law_take T.F__law_take.kp T.b__law_take .nil pass0 (pa_cons (pv 0) (pa_cons (pe_op op_add (pv 1) (pe_int)) pa_nil))))
      (pss_cons (ps_while PassesOwn.never (pt_cmpR op_lt (pe_callB call_len_seq (by rfl) T.z_len PySem.boot_len (pa_cons (pv 5) pa_nil)) (pv 6) (nomark _)) (pss_one (ps_if (PW.pt (pw_and (pt_cmpR op_gt (pe_callB call_len_seq (by rfl) T.z_len PySem.boot_len (pa_cons (pv 5) pa_nil)) (pe_int) (nomark _)) (pw_and1 (pt_cmpR op_eq (pe_call (ok__law_take T) (hr.mono (by decide)) rfl T.m__law_take T.F__law_take.kp T.b__law_take .nil pass0 (pa_cons (pv 0) (pa_cons (pe_int) pa_nil))) (pe_int) (nomark _))))) (pss_cons (ps_set (i := 7) sc__law_drawn_data.nd rfl (Or.inl rfl) (pe_call (ok__law_take T) (hr.mono (by decide)) rfl T.m__law_take T.F__law_take.kp T.b__law_take .nil pass0 (pa_cons (pv 0) (pa_cons (pe_callB call_len_seq (by rfl) T.z_len PySem.boot_len (pa_cons (pv 5) pa_nil)) pa_nil))))
      (pss_one (ps_set (i := 5) sc__law_drawn_data.nd rfl (Or.inl rfl) (pe_op op_cat (pv 5) (pe_slice sl_list (pv 5) (po_some (pv 7)) (po_some (pe_op op_add (pe_op op_add (pv 7) (pe_int)) (pe_call (ok__law_take T) (hr.mono (by decide)) rfl T.m__law_take T.F__law_take.kp T.b__law_take .nil pass0 (pa_cons (pv 0) (pa_cons (pe_int) pa_nil)))))))))) (pss_one (ps_set (i := 5) sc__law_drawn_data.nd rfl (Or.inl rfl) (pe_op op_cat (pv 5) (pe_op op_rep (pe_lst (pa_cons (pe_call (ok__law_one T) (hr.mono (by decide)) rfl T.m__law_one T.F__law_one.kp T.b__law_one .nil pass0 (pa_cons (pv 0) (pa_cons (pv 4) pa_nil))) pa_nil)) (pe_op op_add (pe_int) (pe_call (ok__law_take T) (hr.mono (by decide)) rfl T.m__law_take T.F__law_take.kp T.b__law_take .nil pass0 (pa_cons (pv 0) (pa_cons (pe_int) pa_nil)))))))))))
      (pss_one (ps_ret (pe_slice sl_list (pv 5) po_none (po_some (pv 6))))))))), ?_⟩)
  · obtain ⟨G, W, b, m, _, _, rfl, _⟩ := h
    rfl
  · obtain ⟨G, W, b, m, w, hm, rfl, h0, h1, k⟩ := h
    walk_at "zz"
    refine ⟨by decide, NewO.good w fun p1 G1 H1 e1 w1 q1 => ?_⟩
    walk_at "zz"
    refine ⟨by decide, NewO.good w1 fun p2 G2 H2 e2 w2 q2 => ?_⟩
    walk_at "zz"
    refine ⟨by decide, NewO.good w2 fun p3 G3 H3 e3 w3 q3 => ?_⟩
    walk_at "zz"
    refine ⟨by decide, NewO.good w3 fun p4 G4 H4 e4 w4 q4 => ?_⟩
    walk_at "zz"
    refine lc_r1 (by omega) (fun i acc _ => ∃ ns : List Int, acc = ns.map V.int ∧ Byt ns ∧ ns.length = i) w4 ⟨[], rfl, (fun _ h => nomatch h), rfl⟩ (fun _ => rfl) ?_ ?_
    · rintro i D G' H' acc hi e w' ⟨ns, rfl, hL, hl⟩
      walk_at "zz"
      refine ⟨G', _, b, _, w', by simp [hm], rfl, by omega, by omega, fun r4 H4 hr4 hr5 w4 => ?_⟩
      refine lc_put w4 (by walk_at "sm") (by rw [List.length_map]; omega) ⟨ns ++ [r4], by simp, hL.app fun n hn => ?_, by simp [hl]⟩
      rw [List.mem_singleton.mp hn]
      omega
    rintro p5 G5 H5 acc e5 w5 ⟨l5, rfl, hB5, hl5⟩
    obtain ⟨o, rfl, ho, e6, w6⟩ := w5.freeze1
    have q5 : HL (upd G5 p5 (.lst (l5.map V.int))) p5 l5 := upd_same
    generalize upd G5 p5 (.lst (l5.map V.int)) = G6 at e6 w6 q5
    walk_at "zz"
    refine ⟨small (by simp), NewO.good w6 fun p7 G7 H7 e7 w7 q7 => ?_⟩
    have f45 : Same G4 G7 := (e5.trans e6).trans e7
    have hall : AllP (Pool G7) [.ref p1, .ref p2, .ref p3, .ref p4, .ref p5] :=
      ⟨⟨p1, [97], rfl, f45 _ _ (e4 _ _ (e3 _ _ (e2 _ _ q1))), (show ∀ n ∈ [(97 : Int)], 0 ≤ n ∧ n ≤ 255 by decide), by decide, by decide⟩,
       ⟨p2, [97, 98], rfl, f45 _ _ (e4 _ _ (e3 _ _ q2)), (show ∀ n ∈ [(97 : Int), 98], 0 ≤ n ∧ n ≤ 255 by decide), by decide, by decide⟩,
       ⟨p3, [0, 255, 143, 144], rfl, f45 _ _ (e4 _ _ q3), (show ∀ n ∈ [(0 : Int), 255, 143, 144], 0 ≤ n ∧ n ≤ 255 by decide), by decide, by decide⟩,
       ⟨p4, [7, 7, 200], rfl, f45 _ _ q4, (show ∀ n ∈ [(7 : Int), 7, 200], 0 ≤ n ∧ n ≤ 255 by decide), by decide, by decide⟩,
       ⟨p5, l5, rfl, e7 _ _ q5, hB5, by omega, by omega⟩, trivial⟩
    have f7 : Same G G7 := (((e1.trans e2).trans e3).trans e4).trans f45
    clear q1 q2 q3 q4 w1 w2 w3 w4 w5 w6 e1 e2 e3 e4 e5 e6 e7 f45
    walk_at "zz"
    refine ⟨G7, _, b, p7, _, w7, hm, rfl, SqL.of q7, by simp, by simp, fun v H8 hv w8 => ?_⟩
    obtain ⟨ps, ms, rfl, hps, hBm, hm0, hm1⟩ := hall.of v hv
    walk_at "zz"
    refine ⟨by decide, NewO.good w8 fun pr G9 H9 e9 w9 q9 => ?_⟩
    walk_at "zz"
    refine ⟨G9, _, b, _, w9, hm, rfl, by omega, by omega, fun z H10 hz0 hz1 w10 => ?_⟩
    walk_at "zz"
    refine while_m (fun n σ G' W' => ∃ pr ns x3 x7, W' = W ∧ HL G' pr ns ∧ Byt ns ∧ (ns.length : Int) ≤ z + 14 ∧ n = (z - ns.length).toNat ∧ σ = [some (.ref b), some (.int m), some (.ref p7), x3, some (.ref ps), some (.ref pr), some (.int z), x7]) _ w10 ⟨pr, [], _, _, rfl, q9, (fun _ h => nomatch h), by simp; omega, rfl, rfl⟩ ?_
    rintro n σ' G11 W11 H11 e11 w11 ⟨pq, ns, x3, x7, rfl, hq, hBn, hnl, rfl, rfl⟩
    walk_at "zz"
    refine ⟨pq, _, rfl, .inl (seq_up w11 hq.seq), ?_⟩
    walk_at "zz"
    rw [List.length_map]
    refine ite2 (fun hlt => ?_) (fun hge => ?_)
    · have hlt := of_decide_eq_true hlt
      refine wt_go ?_
      walk_at "zz"
      refine ⟨pq, _, rfl, .inl (seq_up w11 hq.seq), ?_⟩
      walk_at "zz"
      rw [List.length_map]
      by_cases h2 : (2 : Int) < ns.length
      · rw [decide_eq_true h2]
        walk_at "zz"
        refine ⟨G11, _, b, _, w11, hm, rfl, by decide, by decide, fun r H12 hr0 hr1 w12 => ?_⟩
        walk_at "zz"
        refine ite2 (fun _ => ?_) (fun _ => ?_)
        · walk_at "zz"
          refine ⟨pq, _, rfl, .inl (seq_up w12 hq.seq), ?_⟩
          walk_at "zz"
          rw [List.length_map]
          refine ⟨G11, _, b, _, w12, hm, rfl, by omega, by omega, fun r13 H13 hr2 hr3 w13 => ?_⟩
          walk_at "zz"
          refine ⟨_, rfl, ?_⟩
          walk_at "zz"
          refine ⟨G11, _, b, _, w13, hm, rfl, by decide, by decide, fun r14 H14 hr4 hr5 w14 => ?_⟩
          walk_at "zz"
          refine ⟨_, rfl, ?_⟩
          refine st_slL (seq_up w14 hq.seq) w14 fun p15 G15 H15 e15 w15 h15 => ?_
          obtain ⟨ms2, hms, hmem, hl0, hl1⟩ := cut_two (ns := ns) (i := r13) (j := r13 + 2 + r14) hr2 hr3 (by omega)
          rw [hms] at h15
          walk_at "zz"
          refine st_catI (hUp w15 (hq.up e15)) (hUp w15 h15) (by omega) w15 fun p16 G16 H16 e16 w16 h16 => ?_
          exact st_wbt (m2 := (z - (ns ++ ms2).length).toNat) (by rw [List.length_append]; omega) (by walk_at "sm") w16 ⟨p16, ns ++ ms2, _, _, rfl, h16, hBn.app fun n hn => hBn n (hmem n hn), by rw [List.length_append]; omega, rfl, rfl⟩
        · walk_at "zz"
          refine ⟨G11, _, b, ps, _, w12, hm, rfl, (hps.up (e9.trans e11)).seq, by rw [List.length_map]; omega, by rw [List.length_map]; omega, fun v H13 hv w13 => ?_⟩
          obtain ⟨x, hx, rfl⟩ := List.mem_map.mp hv
          walk_at "zz"
          refine ⟨small (by simp), NewO.good w13 fun p14 G14 H14 e14 w14 h14 => ?_⟩
          walk_at "zz"
          refine ⟨G14, _, b, _, w14, hm, rfl, by decide, by decide, fun r15 H15 hr0 hr1 w15 => ?_⟩
          walk_at "zz"
          refine st_repI (hUp w15 h14) (by omega) (by omega) w15 fun p16 G16 H16 e16 w16 h16 => ?_
          walk_at "zz"
          refine st_catI (hUp w16 (hq.up (e14.trans e16))) (hUp w16 h16) (by rw [List.length_replicate]; omega) w16 fun p17 G17 H17 e17 w17 h17 => ?_
          exact st_wbt (m2 := (z - (ns ++ List.replicate (1 + r15).toNat x).length).toNat) (by rw [List.length_append, List.length_replicate]; omega) (by walk_at "sm") w17 ⟨p17, _, _, _, rfl, h17, hBn.app fun n hn => by rw [(List.mem_replicate.mp hn).2]; exact hBm x hx, by rw [List.length_append, List.length_replicate]; omega, rfl, rfl⟩
      · rw [decide_eq_false h2]
        walk_at "zz"
        refine ⟨G11, _, b, ps, _, w11, hm, rfl, (hps.up (e9.trans e11)).seq, by rw [List.length_map]; omega, by rw [List.length_map]; omega, fun v H13 hv w13 => ?_⟩
        obtain ⟨x, hx, rfl⟩ := List.mem_map.mp hv
        walk_at "zz"
        refine ⟨small (by simp), NewO.good w13 fun p14 G14 H14 e14 w14 h14 => ?_⟩
        walk_at "zz"
        refine ⟨G14, _, b, _, w14, hm, rfl, by decide, by decide, fun r15 H15 hr0 hr1 w15 => ?_⟩
        walk_at "zz"
        refine st_repI (hUp w15 h14) (by omega) (by omega) w15 fun p16 G16 H16 e16 w16 h16 => ?_
        walk_at "zz"
        refine st_catI (hUp w16 (hq.up (e14.trans e16))) (hUp w16 h16) (by rw [List.length_replicate]; omega) w16 fun p17 G17 H17 e17 w17 h17 => ?_
        exact st_wbt (m2 := (z - (ns ++ List.replicate (1 + r15).toNat x).length).toNat) (by rw [List.length_append, List.length_replicate]; omega) (by walk_at "sm") w17 ⟨p17, _, _, _, rfl, h17, hBn.app fun n hn => by rw [(List.mem_replicate.mp hn).2]; exact hBm x hx, by rw [List.length_append, List.length_replicate]; omega, rfl, rfl⟩
    · have hge := of_decide_eq_false (Bool.eq_false_iff.mpr hge)
      walk_at "zz"
      refine ⟨_, rfl, ?_⟩
      refine st_slL (seq_up w11 hq.seq) w11 fun p15 G15 H15 e15 w15 h15 => ?_
      rw [cut_lo hz0 (by rw [List.length_map]; omega)] at h15
      exact k p15 (ns.take z.toNat) G15 H15 (by walk_at "sm") w15 (by unfold HL; rw [h15, List.map_take]) (fun n hn => hBn n (List.mem_of_mem_take hn)) (by rw [List.length_take]; omega)

/-! ### lengths that are split -/
def Bnd (ns : List Int) : Prop := ∀ n ∈ ns, 0 ≤ n ∧ n < ns.length
def Bd (B : Int) (ns : List Int) : Prop := ∀ n ∈ ns, 0 ≤ n ∧ n ≤ B
theorem eqI_dec {xs ys : List Int} : PyData.eqv (dI xs) (dI ys) = decide (xs = ys) := eqv_dI xs ys
theorem st_repO {G H : Hp} {W : Wl} {Q : VK} {a : Addr} {x k : Int} (ha : H a = some (.lst [.int x])) (h0 : 0 ≤ k) (h1 : k ≤ 1000000) (w : Wd G W H) (q : ∀ p H', Wd G ((p, Is (.lst ((List.replicate k.toNat x).map V.int))) :: W) H' → Q (.ref p) H') : rRep (.ref a) (.int k) H Q := by
  refine ⟨a, k, _, rfl, rfl, ha, by omega, by omega, small (by simp; omega), fun p hp => ?_⟩
  rw [flat_rep, ← List.map_replicate]
  exact q p _ (w.newM hp rfl)
def sp_split (K : PySem.W.Frag) : Sp := fun vs H Q _ => ∃ (G : Hp) (W : Wl) (b u : Addr) (us : List Int) (n : Int), Wd G W H ∧ (b, BagI) ∈ W ∧ vs = [.ref b, .ref u, .int n] ∧ SqL K G u (us.map V.int) ∧ (∀ x ∈ us, 0 ≤ x ∧ x < n) ∧ us.length ≤ 60 ∧ 0 ≤ n ∧ n ≤ 1000 ∧
  ∀ p gs G' H', Same G G' → Wd G' W H' → HL G' p gs → Bd 61 gs → Q (.ref p) H'
theorem ok__law_split (T : Txt K mg A) : FnOk P w K mg base CX0 2 A.f__law_split A.fd__law_split sP__law_split (sp_split K) := by
  refine okD T.F__law_split sc__law_split (fun vs H Q E h => ?_) (fun cdv Ar outer s H vs Q E hr h => ⟨_, (pss_cons (ps_set (i := 3) sc__law_split.nd rfl (Or.inl rfl) (pe_lst (pa_cons (pe_int) pa_nil)))
      (pss_cons (ps_while PassesOwn.never (pt_cmpR op_lt (pe_callB call_len_seq (by rfl) T.z_len PySem.boot_len (pa_cons (pv 3) pa_nil)) (pe_callB call_len_seq (by rfl) T.z_len PySem.boot_len (pa_cons (pv 1) pa_nil)) (nomark _)) (pss_cons (ps_set (i := 4) sc__law_split.nd rfl (Or.inl rfl) (pe_call (ok__law_take T) (hr.mono (by decide)) rfl T.m__law_take T.F__law_take.kp T.b__law_take .nil pass0 (pa_cons (pv 0) (pa_cons (pe_callB call_len_seq (by rfl) T.z_len PySem.boot_len (pa_cons (pv 3) pa_nil)) pa_nil))))
      (C8.pss_cut (ps_if (pt_cmpR op_eq (pe_ix ix_list (pv 3) (pv 4) (fun _ _ => rfl)) (pe_int) (nomark _)) (pss_one (ps_set (i := 4) sc__law_split.nd rfl (Or.inl rfl) (pe_bm PySem.F.plainAttrs_list PySem.F.slot_list_index PySem.F.type_list_index mt_index (pv 3) (pa_cons (pe_callB (cr_min rfl) (by rfl) T.z_min (by decide +kernel) (pa_cons (pv 3) pa_nil)) pa_nil)))) pss_nil)
      (pss_cons (ps_asg (pe_op op_add (pe_ix ix_list (pv 3) (pv 4) (fun _ _ => rfl)) (pe_int)) (pg_sub (pv 3) (pv 4) set_list))
      (pss_one (ps_expr (pe_bm PySem.F.plainAttrs_list PySem.F.slot_list_insert PySem.F.type_list_insert mt_insert (pv 3) (pa_cons (pe_call (ok__law_take T) (hr.mono (by decide)) rfl T.m__law_take T.F__law_take.kp T.b__law_take .nil pass0 (pa_cons (pv 0) (pa_cons (pe_op op_add (pe_callB call_len_seq (by rfl) T.z_len PySem.boot_len (pa_cons (pv 3) pa_nil)) (pe_int)) pa_nil))) (pa_cons (pe_ix ix_list (pv 3) (pv 4) (fun _ _ => rfl)) pa_nil)))))))))
      (C8.pss_cut (ps_if (pt_cmpR (op_eqD hr.units) (pv 3) (pe_lst (pa_cons (pe_int) pa_nil)) (nomark _)) (pss_one (ps_set (i := 3) sc__law_split.nd rfl (Or.inl rfl) (pe_lst (pa_cons (pe_int) pa_nil)))) pss_nil)
      (pss_cons (ps_set (i := 5) sc__law_split.nd rfl (Or.inl rfl) (pe_op op_rep (pe_lst (pa_cons (pe_int) pa_nil)) (pv 2)))
      (pss_cons (ps_for PassesOwn.never rfl (pi_range1 (by rfl) T.z_range (pa_cons (pe_callB call_len_seq (by rfl) T.z_len PySem.boot_len (pa_cons (pv 1) pa_nil)) pa_nil)) (pg_name (i := 6) sc__law_split.nd rfl (Or.inl rfl)) (pss_one (ps_asg (pe_ix ix_list (pv 3) (pv 6) (fun _ _ => rfl)) (pg_sub (pv 5) (pe_ix ix_list (pv 1) (pv 6) (fun _ _ => rfl)) set_list))))
      (pss_one (ps_ret (pv 5)))))))), ?_⟩)
  · obtain ⟨G, W, b, u, us, n, _, _, rfl, _⟩ := h
    rfl
  · obtain ⟨G, W, b, u, us, n, w, hm, rfl, hu, hus, hul, hn0, hn1, k⟩ := h
    walk_at "zz"
    refine ⟨by decide, NewO.own w fun l H1 w1 => ?_⟩
    walk_at "zz"
    refine while_m (fun m σ G' W' => ∃ ns x4, W' = (l, Is (.lst (ns.map V.int))) :: W ∧ Bnd ns ∧ 0 < ns.length ∧ ns.length ≤ us.length + 1 ∧ m = us.length - ns.length ∧ σ = [some (.ref b), some (.ref u), some (.int n), some (.ref l), x4, none, none]) _ w1 ⟨[0], _, rfl, (fun n hn => by rw [List.mem_singleton.mp hn]; decide), by decide, by simp, rfl, rfl⟩ ?_
    rintro m σ' G2 W2 H2 e2 w2 ⟨ns, x4, rfl, hB, hl0, hl1, rfl, rfl⟩
    walk_at "zz"
    refine ⟨l, _, rfl, .inl (SqL.of (Wd.is1 w2)), ?_⟩
    walk_at "zz"
    refine ⟨u, _, rfl, .inl (seq_up w2 (e2.seq hu)), ?_⟩
    walk_at "zz"
    rw [List.length_map, List.length_map]
    have hm2 : (b, BagI) ∈ ((l, Is (.lst (ns.map V.int))) :: W) := List.mem_cons_of_mem _ hm
    refine ite2 (fun hlt => ?_) (fun hge => ?_)
    · have hlt := of_decide_eq_true hlt
      refine wt_go ?_
      walk_at "zz"
      refine ⟨l, _, rfl, .inl (SqL.of (Wd.is1 w2)), ?_⟩
      walk_at "zz"
      rw [List.length_map]
      refine ⟨G2, _, b, _, w2, hm2, rfl, by omega, by omega, fun r H3 hr0 hr1 w3 => ?_⟩
      walk_at "zz"
      refine st_cut (fun σ H => ∃ r : Int, 0 ≤ r ∧ r < ns.length ∧ Wd G2 ((l, Is (.lst (ns.map V.int))) :: W) H ∧ σ = [some (.ref b), some (.ref u), some (.int n), some (.ref l), some (.int r), none, none]) ?_ ?_
      · obtain ⟨q, hq, hmem, _⟩ := atI_map (ns := ns) hr0 hr1
        walk_at "zz"
        refine st_ixL (SqL.of (Wd.is1 w3)) hq ?_
        walk_at "zz"
        refine ite2 (fun _ => ?_) (fun _ => ?_)
        · walk_at "zz"
          refine ⟨tyL' (Wd.is1 w3), ?_⟩
          walk_at "zz"
          refine ⟨l, ns, rfl, SqL.of (Wd.is1 w3), hl0, fun mn hmn _ => ?_⟩
          walk_at "zz"
          refine st_indexI (SqL.of (Wd.is1 w3)) hmn fun j hj _ => ?_
          walk_at "zz"
          exact ⟨(j : Int), by omega, by omega, w3, rfl⟩
        · walk_at "zz"
          exact ⟨r, hr0, hr1, w3, rfl⟩
      · clear hr0 hr1 w3
        rintro σ3 H3 ⟨r, hr0, hr1, w3, rfl⟩
        obtain ⟨q, hq, hmem, _⟩ := atI_map (ns := ns) hr0 hr1
        walk_at "zz"
        refine st_ixL (SqL.of (Wd.is1 w3)) hq ?_
        walk_at "zz"
        refine st_setL (Wd.is1 w3) (ixN_of hr0 (by rw [List.length_map]; exact hr1)) ?_
        rw [map_set']
        have w4 := Wd.put1 (o := .lst ((ns.set r.toNat (q + 1)).map V.int)) w3
        walk_at "zz"
        refine ⟨tyL' upd_same, ?_⟩
        walk_at "zz"
        refine ⟨_, _, rfl, .inl (SqL.of upd_same), ?_⟩
        walk_at "zz"
        rw [List.length_map, List.length_set]
        refine ⟨G2, _, b, _, w4, List.mem_cons_of_mem _ hm, rfl, by omega, by omega, fun r5 H5 hr2 hr3 w5 => ?_⟩
        obtain ⟨q2, hq2, hmem2, _⟩ := atI_map (ns := ns.set r.toNat (q + 1)) hr0 (by rw [List.length_set]; exact hr1)
        walk_at "zz"
        refine st_ixL (SqL.of (Wd.is1 w5)) hq2 ?_
        walk_at "zz"
        refine ⟨l, _, _, _, rfl, rfl, Wd.is1 w5, small' (by rw [List.length_map, List.length_set]; omega), hr2, by omega, ?_⟩
        rw [map_ins]
        have hq' := hB q hmem
        have hset : ∀ x ∈ ns.set r.toNat (q + 1), 0 ≤ x ∧ x < (ns.length : Int) + 1 := fun x hx => by
          rcases List.mem_or_eq_of_mem_set hx with h | h
          · have := hB x h
            omega
          · omega
        have hlen : ((ns.set r.toNat (q + 1)).take r5.toNat ++ [q2] ++ (ns.set r.toNat (q + 1)).drop r5.toNat).length = ns.length + 1 := by
          simp
          omega
        refine st_wbt (m2 := us.length - ((ns.set r.toNat (q + 1)).take r5.toNat ++ [q2] ++ (ns.set r.toNat (q + 1)).drop r5.toNat).length) (by rw [hlen]; omega) (by walk_at "sm") w5.put1 ⟨_, _, rfl, fun x hx => ?_, by rw [hlen]; omega, by rw [hlen]; omega, rfl, rfl⟩
        rw [hlen]
        have hx2 : x ∈ ns.set r.toNat (q + 1) := by
          rcases List.mem_append.mp hx with h | h
          · rcases List.mem_append.mp h with h | h
            · exact List.mem_of_mem_take h
            · rw [List.mem_singleton.mp h]
              exact hmem2
          · exact List.mem_of_mem_drop h
        have := hset x hx2
        omega
    · have hge := of_decide_eq_false (Bool.eq_false_iff.mpr hge)
      refine st_cut (fun σ H => ∃ G' l ns x4, Same G G' ∧ Wd G' ((l, Is (.lst (ns.map V.int))) :: W) H ∧ Bd 61 ns ∧ us.length ≤ ns.length ∧ σ = [some (.ref b), some (.ref u), some (.int n), some (.ref l), x4, none, none]) ?_ ?_
      · walk_at "zz"
        refine ⟨by decide, NewO.good w2 fun p3 G3 H3 e3 w3 h3 => ?_⟩
        walk_at "zz"
        refine st_eqI (xs := ns) (ys := [0]) (SqL.of (Wd.is1 w3)) (SqL.of (w3.at h3)) ?_
        walk_at "zz"
        refine ite2 (fun heq => ?_) (fun _ => ?_)
        · have heq := of_decide_eq_true heq
          walk_at "zz"
          refine ⟨by decide, NewO.own (Wd.drop1 w3) fun l2 H4 w4 => ?_⟩
          walk_at "zz"
          refine ⟨G3, l2, [1], x4, by walk_at "sm", w4, (fun x hx => by rw [List.mem_singleton.mp hx]; decide), ?_, rfl⟩
          rw [heq] at hge
          simp at hge ⊢
          omega
        · walk_at "zz"
          exact ⟨G3, l, ns, x4, by walk_at "sm", w3, (fun x hx => by have := hB x hx; omega), by omega, rfl⟩
      · clear w2 w1 hB hl0 hl1 hge hm2 e2
        rintro σ3 H3 ⟨G3, l3, ns, x4, e3, w3, hB, hle, rfl⟩
        walk_at "zz"
        refine ⟨by decide, NewO.good w3 fun p4 G4 H4 e4 w4 h4 => ?_⟩
        walk_at "zz"
        refine st_repO (hUp w4 h4) hn0 (by omega) w4 fun g H5 w5 => ?_
        walk_at "zz"
        refine ⟨u, _, rfl, .inl (seq_up w5 ((e3.trans e4).seq hu)), ?_⟩
        walk_at "zz"
        rw [List.length_map]
        refine for_r1 (by omega) (fun i σ G' W' => ∃ gs x6, W' = (g, Is (.lst (gs.map V.int))) :: (l3, Is (.lst (ns.map V.int))) :: W ∧ gs.length = n.toNat ∧ Bd 61 gs ∧ σ = [some (.ref b), some (.ref u), some (.int n), some (.ref l3), x4, some (.ref g), x6]) w5 ⟨_, _, rfl, by rw [List.length_replicate], (fun x hx => by rw [(List.mem_replicate.mp hx).2]; decide), rfl⟩ ?_ ?_
        · rintro i σ' G6 W6 H6 hi e6 w6 ⟨gs, x6, rfl, hgl, hgB, rfl⟩
          obtain ⟨o, hl3, rfl⟩ := w6.get (List.mem_cons_of_mem _ List.mem_cons_self)
          obtain ⟨q, hq, hmem, _⟩ := atI_map (ns := ns) (i := (i : Int)) (by omega) (by omega)
          obtain ⟨y, hy, hymem, _⟩ := atI_map (ns := us) (i := (i : Int)) (by omega) (by omega)
          have hy2 := hus y hymem
          walk_at "zz"
          refine st_ixL (SqL.of hl3) hq ?_
          walk_at "zz"
          refine st_ixL (seq_up w6 (((e3.trans e4).trans e6).seq hu)) hy ?_
          walk_at "zz"
          refine st_setL (Wd.is1 w6) (ixN_of hy2.1 (by rw [List.length_map, hgl]; omega)) ?_
          rw [map_set']
          exact st_btw e6 w6.put1 ⟨_, _, rfl, by rw [List.length_set]; exact hgl, fun x hx => by
            rcases List.mem_or_eq_of_mem_set hx with h | h
            · exact hgB x h
            · rw [h]
              exact hB q hmem, rfl⟩
        · rintro σ' G6 W6 H6 e6 w6 ⟨gs, x6, rfl, hgl, hgB, rfl⟩
          obtain ⟨o, rfl, ho, e7, w7⟩ := w6.freeze1
          walk_at "zz"
          exact k g gs _ H6 (by walk_at "sm") (Wd.drop1 w7) upd_same hgB
/-! ### trees that are drawn -/
def sp_trees (K : PySem.W.Frag) : Sp := fun vs H Q _ => ∃ (G : Hp) (W : Wl) (b u : Addr) (us : List Int), Wd G W H ∧ (b, BagI) ∈ W ∧ vs = [.ref b, .ref u] ∧ HL G u us ∧ Byt us ∧ 0 < us.length ∧ us.length ≤ 31 ∧
  ∀ t p q gs hs G' H', Same G G' → Wd G' W H' → G' t = some (.tup [.ref p, .ref q]) → HL G' p gs → HL G' q hs → Bd 61 gs → Bd 61 hs → Q (.ref t) H'
theorem ok__law_trees (T : Txt K mg A) : FnOk P w K mg base CX0 3 A.f__law_trees A.fd__law_trees sP__law_trees (sp_trees K) := by
  refine okD T.F__law_trees sc__law_trees (fun vs H Q E h => ?_) (fun cdv Ar outer s H vs Q E hr h => ⟨_, (pss_cons (ps_set (i := 2) sc__law_trees.nd rfl (Or.inl rfl) (pe_callB (cr_sortedSet rfl) (by rfl) T.z_sorted (by decide +kernel) (pa_cons (pe_callTy (cr_setL rfl) (by rfl) T.z_set (by decide +kernel) (pa_cons (pe_op op_cat (pe_op op_cat (pv 1) (pe_lst (pa_cons (pe_int) pa_nil))) (pe_lc (own := [("_law_turn", 3)]) (g := gName 3) (tt := tYes) rfl sc__law_trees.nd (pi_range1 (by rfl) T.z_range (pa_cons (pe_call (ok__law_take T) (hr.mono (by decide)) rfl T.m__law_take T.F__law_take.kp T.b__law_take .nil pass0 (pa_cons (pv 0) (pa_cons (pe_int) pa_nil))) pa_nil)) (blkOk_by (own := [("_law_turn", 3)]) (N := sN__law_trees) (sc := defScope s__law_trees) (by decide +kernel)) (fun _ _ _ _ _ => pg_name (i := 3) sc__law_trees.nd rfl (Or.inl rfl)) (fun _ _ _ _ _ => pts_nil) (fun _ _ _ _ _ => (pe_op op_add (pe_int) (pe_call (ok__law_take T) (hr.mono (by decide)) rfl T.m__law_take T.F__law_take.kp T.b__law_take .nil pass0 (pa_cons (pv 0) (pa_cons (pe_int) pa_nil))))))) pa_nil)) pa_nil)))
      (C8.pss_cut (ps_if (PW.pt (pw_and (pt_cmpR op_gt (pe_callB call_len_seq (by rfl) T.z_len PySem.boot_len (pa_cons (pv 2) pa_nil)) (pe_int) (nomark _)) (pw_and1 (pt_cmpR op_eq (pe_call (ok__law_take T) (hr.mono (by decide)) rfl T.m__law_take T.F__law_take.kp T.b__law_take .nil pass0 (pa_cons (pv 0) (pa_cons (pe_int) pa_nil))) (pe_int) (nomark _))))) (pss_one (ps_setLc (i := 2) (own := [("_law_symbol_here", 4)]) (g := gName 4) rfl sc__law_trees.nd rfl rfl (sw_true rfl rfl rfl (by decide +kernel)) (pi_list (pv 2)) (blkOk_by (own := [("_law_symbol_here", 4)]) (N := sN__law_trees) (sc := defScope s__law_trees) (by decide +kernel)) (fun _ _ _ _ _ => pg_name (i := 4) sc__law_trees.nd rfl (Or.inl rfl)) (fun _ _ _ _ _ => (pts_one (pt_cmpR op_ne (pv 4) (pe_ix (show IxR _ (rIxL K) from ix_list) (pv 1) (pe_int) (fun _ _ => rfl)) (nomark _)))) (fun _ _ _ _ _ => (pv 4)))) pss_nil)
      (pss_cons (ps_set (i := 5) sc__law_trees.nd rfl (Or.inl rfl) (pe_callB (cr_sortedSet rfl) (by rfl) T.z_sorted (by decide +kernel) (pa_cons (pe_callTy (cr_setL rfl) (by rfl) T.z_set (by decide +kernel) (pa_cons (pe_lc (own := [("_law_turn", 3)]) (g := gName 3) (tt := tYes) rfl sc__law_trees.nd (pi_range1 (by rfl) T.z_range (pa_cons (pe_call (ok__law_take T) (hr.mono (by decide)) rfl T.m__law_take T.F__law_take.kp T.b__law_take .nil pass0 (pa_cons (pv 0) (pa_cons (pe_int) pa_nil))) pa_nil)) (blkOk_by (own := [("_law_turn", 3)]) (N := sN__law_trees) (sc := defScope s__law_trees) (by decide +kernel)) (fun _ _ _ _ _ => pg_name (i := 3) sc__law_trees.nd rfl (Or.inl rfl)) (fun _ _ _ _ _ => pts_nil) (fun _ _ _ _ _ => (pe_call (ok__law_take T) (hr.mono (by decide)) rfl T.m__law_take T.F__law_take.kp T.b__law_take .nil pass0 (pa_cons (pv 0) (pa_cons (pe_int) pa_nil))))) pa_nil)) pa_nil)))
      (pss_cons (ps_set (i := 6) sc__law_trees.nd rfl (Or.inl rfl) (pe_call (ok__law_split T) (hr.mono (by decide)) rfl T.m__law_split T.F__law_split.kp T.b__law_split .nil pass0 (pa_cons (pv 0) (pa_cons (pv 2) (pa_cons (pe_op op_add (pe_int) (pe_call (ok__law_take T) (hr.mono (by decide)) rfl T.m__law_take T.F__law_take.kp T.b__law_take .nil pass0 (pa_cons (pv 0) (pa_cons (pe_int) pa_nil)))) pa_nil)))))
      (pss_one (ps_ret (pe_tup (pa_cons (pv 6) (pa_cons (pe_ifExp (pt_cmpR (op_neD hr.units) (pv 5) (pe_lst pa_nil) (nomark _)) (pe_call (ok__law_split T) (hr.mono (by decide)) rfl T.m__law_split T.F__law_split.kp T.b__law_split .nil pass0 (pa_cons (pv 0) (pa_cons (pv 5) (pa_cons (pe_int) pa_nil)))) (pe_op op_rep (pe_lst (pa_cons (pe_int) pa_nil)) (pe_op op_add (pe_int) (pe_call (ok__law_take T) (hr.mono (by decide)) rfl T.m__law_take T.F__law_take.kp T.b__law_take .nil pass0 (pa_cons (pv 0) (pa_cons (pe_int) pa_nil)))))) pa_nil))))))))), ?_⟩)
  · obtain ⟨G, W, b, u, us, _, _, rfl, _⟩ := h
    rfl
  · obtain ⟨G, W, b, u, us, w, hm, rfl, hu, hB, hu0, hu1, k⟩ := h
    walk_at "zz"
    refine ⟨by decide, NewO.good w fun p1 G1 H1 e1 w1 h1 => ?_⟩
    walk_at "zz"
    refine st_catI (ys := [256]) (hUp w1 (hu.up e1)) (hUp w1 h1) (by simp; omega) w1 fun p2 G2 H2 e2 w2 h2 => ?_
    walk_at "zz"
    refine ⟨G2, _, b, _, w2, hm, rfl, by decide, by decide, fun r H3 hr0 hr1 w3 => ?_⟩
    refine lc_r1 (by omega) (fun i acc _ => ∃ ns : List Int, acc = ns.map V.int ∧ (∀ n ∈ ns, 257 ≤ n ∧ n ≤ 285) ∧ ns.length = i) w3 ⟨[], rfl, (fun _ h => nomatch h), rfl⟩ (fun _ => rfl) ?_ ?_
    · rintro i D G' H' acc hi e w' ⟨ns, rfl, hL, hl⟩
      walk_at "zz"
      refine ⟨G', _, b, _, w', by simp [hm], rfl, by omega, by omega, fun r4 H4 hr4 hr5 w4 => ?_⟩
      walk_at "zz"
      refine lc_put w4 (by walk_at "sm") (by rw [List.length_map]; omega) ⟨ns ++ [257 + r4], by simp, fun n hn => ?_, by simp [hl]⟩
      rcases List.mem_append.mp hn with hn | hn
      · exact hL n hn
      · rw [List.mem_singleton.mp hn]
        omega
    rintro p5 G5 H5 acc e5 w5 ⟨l5, rfl, hB5, hl5⟩
    obtain ⟨o, rfl, ho, e6, w6⟩ := w5.freeze1
    have q5 : HL (upd G5 p5 (.lst (l5.map V.int))) p5 l5 := upd_same
    generalize upd G5 p5 (.lst (l5.map V.int)) = G6 at e6 w6 q5
    walk_at "zz"
    refine st_catI (hUp w6 (h2.up (e5.trans e6))) (hUp w6 q5) (by simp; omega) w6 fun p7 G7 H7 e7 w7 h7 => ?_
    walk_at "zz"
    refine st_setOf (seq_up w7 h7.seq) (by simp; omega) w7 fun p8 n8 G8 H8 e8 w8 hn8 h8 => ?_
    walk_at "zz"
    refine st_sortedSet h8 (by simp at hn8; omega) w8 fun p9 vs9 G9 H9 e9 w9 h9 hpw hin hlen => ?_
    have hus : ∀ x ∈ vs9, 0 ≤ x ∧ x < 286 := fun x hx => by
      have h := of_decide_eq_true ((hin x).mp hx)
      rcases List.mem_append.mp h with h | h
      · rcases List.mem_append.mp h with h | h
        · have := hB x h
          omega
        · rw [List.mem_singleton.mp h]
          decide
      · have := hB5 x h
        omega
    have hlv : vs9.length ≤ 45 := by simp at hn8; omega
    have e19 : Same G G9 := ((((e1.trans e2).trans (e5.trans e6)).trans e7).trans e8).trans e9
    clear h1 h2 h7 h8 q5 hin hpw hn8 hlen w1 w2 w3 w5 w6 w7 w8 e1 e2 e5 e6 e7 e8 e9
    walk_at "zz"
    refine st_cut (fun σ H => ∃ G' p vs x4, Same G G' ∧ Wd G' W H ∧ HL G' p vs ∧ (∀ x ∈ vs, 0 ≤ x ∧ x < 286) ∧ vs.length ≤ 45 ∧ σ = [some (.ref b), some (.ref u), some (.ref p), none, x4, none, none]) ?_ ?_
    · walk_at "zz"
      refine ⟨p9, _, rfl, .inl (seq_up w9 h9.seq), ?_⟩
      walk_at "zz"
      rw [List.length_map]
      refine ite2 (fun _ => ?_) (fun _ => ?_)
      · walk_at "zz"
        refine ⟨G9, _, b, _, w9, hm, rfl, by decide, by decide, fun r10 H10 hr2 hr3 w10 => ?_⟩
        walk_at "zz"
        refine ite2 (fun _ => ?_) (fun _ => ?_)
        · obtain ⟨q0, hq0, _, _⟩ := atI_map (ns := us) (i := 0) (by decide) (by omega)
          walk_at "zz"
          refine lc_l h9.seq (fun i acc _ => ∃ ns : List Int, acc = ns.map V.int ∧ (∀ n ∈ ns, n ∈ vs9) ∧ ns.length ≤ i) w10 ⟨[], rfl, (fun _ h => nomatch h), Nat.le_refl _⟩ (fun _ => rfl) ?_ ?_
          · rintro i x D G11 H11 acc hx e11 w11 ⟨ns, rfl, hn, hl⟩
            obtain ⟨y, hy, rfl⟩ : ∃ y, vs9[i]? = some y ∧ V.int y = x := by
              rw [List.getElem?_map] at hx
              cases e : vs9[i]? with
              | none => rw [e] at hx; exact nomatch hx
              | some n => rw [e] at hx; exact ⟨n, rfl, Option.some.inj hx⟩
            have hi : i < vs9.length := (List.getElem?_eq_some_iff.mp hy).1
            walk_at "zz"
            refine st_ixL (seq_up w11 ((e19.trans e11).seq hu.seq)) hq0 ?_
            walk_at "zz"
            refine ite2 (fun _ => ?_) (fun _ => ?_)
            · walk_at "zz"
              refine lc_put w11 e11 (by rw [List.length_map]; omega) ⟨ns ++ [y], by simp, fun n h => ?_, by rw [List.length_append]; exact Nat.succ_le_succ hl⟩
              rcases List.mem_append.mp h with h | h
              · exact hn n h
              · rw [List.mem_singleton.mp h]
                exact List.mem_of_getElem? hy
            · exact lc_skip w11 e11 ⟨ns, rfl, hn, by omega⟩
          · rintro D G11 H11 acc e11 w11 ⟨ns, rfl, hn, hl⟩
            obtain ⟨o, rfl, ho, e12, w12⟩ := w11.freeze1
            walk_at "zz"
            rw [List.length_map] at hl
            exact ⟨_, D, ns, _, (e19.trans e11).trans e12, w12, upd_same, fun x h => hus x (hn x h), by omega, rfl⟩
        · walk_at "zz"
          exact ⟨G9, p9, vs9, _, e19, w10, h9, hus, hlv, rfl⟩
      · walk_at "zz"
        exact ⟨G9, p9, vs9, _, e19, w9, h9, hus, hlv, rfl⟩
    · clear w9 h9 hus hlv e19
      rintro σ1 H1 ⟨G1, p1, vs1, x4, e1, w1, h1, hus, hlv, rfl⟩
      walk_at "zz"
      refine ⟨G1, _, b, _, w1, hm, rfl, by decide, by decide, fun r2 H2 hr0 hr1 w2 => ?_⟩
      refine lc_r1 (by omega) (fun i acc _ => ∃ ns : List Int, acc = ns.map V.int ∧ (∀ n ∈ ns, 0 ≤ n ∧ n < 12) ∧ ns.length = i) w2 ⟨[], rfl, (fun _ h => nomatch h), rfl⟩ (fun _ => rfl) ?_ ?_
      · rintro i D G' H' acc hi e w' ⟨ns, rfl, hL, hl⟩
        walk_at "zz"
        refine ⟨G', _, b, _, w', by simp [hm], rfl, by omega, by omega, fun r4 H4 hr4 hr5 w4 => ?_⟩
        refine lc_put w4 (by walk_at "sm") (by rw [List.length_map]; omega) ⟨ns ++ [r4], by simp, fun n hn => ?_, by simp [hl]⟩
        rcases List.mem_append.mp hn with hn | hn
        · exact hL n hn
        · rw [List.mem_singleton.mp hn]
          omega
      rintro p5 G5 H5 acc e5 w5 ⟨l5, rfl, hB5, hl5⟩
      obtain ⟨o, rfl, ho, e6, w6⟩ := w5.freeze1
      have q5 : HL (upd G5 p5 (.lst (l5.map V.int))) p5 l5 := upd_same
      generalize upd G5 p5 (.lst (l5.map V.int)) = G6 at e6 w6 q5
      walk_at "zz"
      refine st_setOf (seq_up w6 q5.seq) (by omega) w6 fun p8 n8 G8 H8 e8 w8 hn8 h8 => ?_
      walk_at "zz"
      refine st_sortedSet h8 (by omega) w8 fun p9 vs9 G9 H9 e9 w9 h9 hpw hin hlen => ?_
      have hus9 : ∀ x ∈ vs9, 0 ≤ x ∧ x < 30 := fun x hx => by
        have := hB5 x (of_decide_eq_true ((hin x).mp hx))
        omega
      have e19 := ((e5.trans e6).trans e8).trans e9
      walk_at "zz"
      refine ⟨G9, _, b, _, w9, hm, rfl, by decide, by decide, fun r10 H10 hr2 hr3 w10 => ?_⟩
      walk_at "zz"
      refine ⟨G9, _, b, p1, vs1, _, w10, hm, rfl, (h1.up e19).seq, (fun x h => by have := hus x h; omega), by omega, by omega, by omega, fun p11 gs G11 H11 e11 w11 h11 hg11 => ?_⟩
      walk_at "zz"
      walk_at "zi"
      walk_at "zz"
      refine ⟨by decide, NewO.good w11 fun p12 G12 H12 e12 w12 h12 => ?_⟩
      walk_at "zz"
      refine st_neI (xs := vs9) (ys := []) (seq_up w12 (h9.up (e11.trans e12)).seq) (SqL.of (w12.at h12)) ?_
      walk_at "zz"
      refine ite2 (fun _ => ?_) (fun _ => ?_)
      · walk_at "zz"
        refine ⟨G12, _, b, p9, vs9, _, w12, hm, rfl, (h9.up (e11.trans e12)).seq, hus9, by omega, by decide, by decide, fun p13 hs G13 H13 e13 w13 h13 hg13 => ?_⟩
        walk_at "zz"
        refine ⟨small (by simp), NewO.good w13 fun p14 G14 H14 e14 w14 h14 => ?_⟩
        exact k p14 p11 p13 gs hs G14 H14 ((e1.trans e19).trans (((e11.trans e12).trans e13).trans e14)) w14 h14 (h11.up ((e12.trans e13).trans e14)) (h13.up e14) hg11 hg13
      · walk_at "zz"
        refine ⟨by decide, NewO.good w12 fun p13 G13 H13 e13 w13 h13 => ?_⟩
        walk_at "zz"
        refine ⟨G13, _, b, _, w13, hm, rfl, by decide, by decide, fun r14 H14 hr4 hr5 w14 => ?_⟩
        walk_at "zz"
        refine st_repI (hUp w14 h13) (by omega) (by omega) w14 fun p15 G15 H15 e15 w15 h15 => ?_
        walk_at "zz"
        refine ⟨small (by simp), NewO.good w15 fun p16 G16 H16 e16 w16 h16 => ?_⟩
        exact k p16 p11 p15 gs _ G16 H16 ((e1.trans e19).trans (((e11.trans e12).trans e13).trans (e15.trans e16))) w16 h16 (h11.up ((e12.trans e13).trans (e15.trans e16))) (h15.up e16) hg11 (fun x hx => by rw [(List.mem_replicate.mp hx).2]; decide)

/-! ### the law -/
theorem cut_lo2 {ns : List Int} {j : Int} (h : 0 ≤ j) : cutV (ns.map V.int) none (some j) = (ns.take j.toNat).map V.int := by
  unfold cutV
  simp only [HT.sIx, if_neg (show ¬ j < 0 by omega), List.length_map]
  rw [List.drop_zero, Nat.sub_zero, List.map_take]
  rcases Nat.le_total j.toNat ns.length with h | h
  · rw [Nat.min_eq_left h]
  · rw [Nat.min_eq_right h, List.take_of_length_le (by rw [List.length_map]; omega), List.take_of_length_le (by rw [List.length_map]; omega)]
theorem getD_bd {B : Int} {ns : List Int} (h : Bd B ns) (hB : 0 ≤ B) (i : Nat) : 0 ≤ ns.getD i 0 ∧ ns.getD i 0 ≤ B := by
  rw [List.getD_eq_getElem?_getD]
  cases e : ns[i]? with
  | none => exact ⟨Int.le_refl _, hB⟩
  | some n => exact h n (List.mem_of_getElem? e)
theorem szV_bd {B : Int} {ns : List Int} (h : Bd B ns) (s : Int) : szV ns s = .non ∨ ∃ n, szV ns s = .int n ∧ 0 ≤ n ∧ n ≤ B := by
  rcases szV_or ns s with h1 | ⟨n, h1, h2⟩
  · exact .inl h1
  · exact .inr ⟨n, h1, h n h2⟩
theorem tb_or {gs hs : List Int} {d : PyData} (hg : Bd 61 gs) (hh : Bd 61 hs) (ht : TokB d) : tbV gs hs d = .non ∨ ∃ n, tbV gs hs d = .int n ∧ 0 ≤ n ∧ n ≤ 1000 := by
  rcases ht with ⟨i, rfl, h0, h1⟩ | ⟨l, m, rfl, _⟩
  · rcases szV_bd hg i with h | ⟨n, h, h2, h3⟩
    · exact .inl h
    · exact .inr ⟨n, h, h2, by omega⟩
  · show cmb (szV gs (lsy l).1) (lsy l).2 (szV hs (dsy m).1) (dsy m).2 = .non ∨ ∃ n, cmb (szV gs (lsy l).1) (lsy l).2 (szV hs (dsy m).1) (dsy m).2 = .int n ∧ 0 ≤ n ∧ n ≤ 1000
    rcases szV_bd hg (lsy l).1 with h | ⟨n, h, h2, h3⟩
    · rw [h]
      exact .inl rfl
    · rw [h]
      rcases szV_bd hh (dsy m).1 with h | ⟨n2, h, h4, h5⟩
      · rw [h]
        exact .inl rfl
      · rw [h]
        have hx : 0 ≤ (lsy l).2 ∧ (lsy l).2 ≤ 5 := getD_bd (show Bd 5 kc_LENGTH_EXTRAS from (show ∀ n ∈ kc_LENGTH_EXTRAS, 0 ≤ n ∧ n ≤ 5 by decide +kernel)) (by decide) _
        have hy : 0 ≤ (dsy m).2 ∧ (dsy m).2 ≤ 13 := getD_bd (show Bd 13 kc_DISTANCE_EXTRAS from (show ∀ n ∈ kc_DISTANCE_EXTRAS, 0 ≤ n ∧ n ≤ 13 by decide +kernel)) (by decide) _
        refine .inr ⟨_, rfl, by omega, by omega⟩
def TokP (K : PySem.W.Frag) (G : Hp) (v : V) : Prop := ∃ d, Dp K G v d ∧ TokB d
theorem TokP.up {G G' : Hp} {v : V} (e : Same G G') (h : TokP K G v) : TokP K G' v := let ⟨d, h1, h2⟩ := h; ⟨d, dmono e h1, h2⟩
theorem allTok {G G' : Hp} {xs : List V} (e : Same G G') (h : AllP (TokP K G) xs) : AllP (TokP K G') xs := AllP.mk fun x hx => (AllP.of h x hx).up e
def fixedL : List Int := List.replicate 144 8 ++ List.replicate 112 9 ++ List.replicate 24 7 ++ List.replicate 8 8
def five : List Int := List.replicate 32 5
theorem fixedB : Bd 61 fixedL := (show ∀ n ∈ fixedL, 0 ≤ n ∧ n ≤ 61 by decide +kernel)
theorem fiveB : Bd 61 five := (show ∀ n ∈ five, 0 ≤ n ∧ n ≤ 61 by decide +kernel)
theorem tokm_b {m : Int} {d : PyData} (hm : m ≤ 32768) (h : TokM m d) : TokB d := by
  rcases h with ⟨i, rfl, h0, h1⟩ | ⟨s, f, rfl, h0, h1, h2, h3⟩
  · exact .inl ⟨i, rfl, h0, h1⟩
  · exact .inr ⟨s, f, rfl, h0, h1, h2, by omega⟩
theorem non_od : Od 0 .none := by decide
def spLaw (K : PySem.W.Frag) : Sp := fun vs H Q _ => ∃ (a : Addr) (ns : List Int), vs = [.ref a] ∧ SqL K H a (ns.map V.int) ∧ ns.length ≤ 63 ∧ ∀ H', Q (.bl true) H'
theorem ok_law (T : Txt K mg A) : FnG P w K mg base 6 A.f_law A.fd_law sP_law (spLaw K) := by
  refine okG T.F_law sc_law (fun vs H Q E h => ?_) (fun cdv Ar outer s H vs Q E hgd hr h => ⟨_, (pss_cons (ps_set (i := 1) sc_law.nd rfl (Or.inr rfl) (pe_op op_cat (pe_op op_cat (pe_op op_cat (pe_op op_rep (pe_lst (pa_cons (pe_int) pa_nil)) (pe_int)) (pe_op op_rep (pe_lst (pa_cons (pe_int) pa_nil)) (pe_int))) (pe_op op_rep (pe_lst (pa_cons (pe_int) pa_nil)) (pe_int))) (pe_op op_rep (pe_lst (pa_cons (pe_int) pa_nil)) (pe_int))))
      (pss_cons (ps_for PassesOwn.never rfl (pi_range1 (by rfl) T.z_range (pa_cons (pe_callB (call_max2 rfl) (by rfl) T.z_max (by decide +kernel) (pa_cons (pe_int) (pa_cons (pe_callB (call_min2 rfl) (by rfl) T.z_min (by decide +kernel) (pa_cons (pe_int) (pa_cons (pe_callB call_len_seq (by rfl) T.z_len PySem.boot_len (pa_cons (pv 0) pa_nil)) pa_nil))) pa_nil))) pa_nil)) (pg_name (i := 2) sc_law.nd rfl (Or.inl rfl)) (pss_cons (ps_set (i := 3) sc_law.nd rfl (Or.inr rfl) (pe_call (ok__law_bag T) (hr.mono (by decide)) rfl T.m__law_bag T.F__law_bag.kp T.b__law_bag .nil pass0 (pa_cons (pv 0) (pa_cons (pv 2) pa_nil))))
      (pss_one (ps_for PassesOwn.never rfl (pi_range1 (by rfl) T.z_range (pa_cons (pe_int) pa_nil)) (pg_name (i := 4) sc_law.nd rfl (Or.inl rfl)) (pss_cons (ps_set (i := 5) sc_law.nd rfl (Or.inl rfl) (pe_op op_cat (pe_call (ok__law_drawn_data T) (hr.mono (by decide)) rfl T.m__law_drawn_data T.F__law_drawn_data.kp T.b__law_drawn_data .nil pass0 (pa_cons (pv 3) (pa_cons (pe_int) pa_nil))) (pe_lst (pa_cons (pe_call (ok__law_take T) (hr.mono (by decide)) rfl T.m__law_take T.F__law_take.kp T.b__law_take .nil pass0 (pa_cons (pv 3) (pa_cons (pe_int) pa_nil))) pa_nil))))
      (pss_cons (ps_asg (pe_call (ok__law_trees T) (hr.mono (by decide)) rfl T.m__law_trees T.F__law_trees.kp T.b__law_trees .nil pass0 (pa_cons (pv 3) (pa_cons (pv 5) pa_nil))) (pg_tup rfl (pgs_cons (pg_name (i := 7) sc_law.nd rfl (Or.inl rfl)) (pgs_cons (pg_name (i := 8) sc_law.nd rfl (Or.inl rfl)) pgs_nil))))
      (pss_one (ps_for PassesOwn.never rfl (pi_list (pe_op op_cat (pe_op op_cat (pe_slice sl_list (pv 5) po_none (po_some (pe_int))) (pe_lc (own := [("_law_turn", 4)]) (g := gName 4) (tt := tYes) rfl sc_law.nd (pi_range1 (by rfl) T.z_range (pa_cons (pe_int) pa_nil)) (blkOk_by (own := [("_law_turn", 4)]) (N := sN_law) (sc := defScope s_law) (by decide +kernel)) (fun _ _ _ _ _ => pg_name (i := 4) sc_law.nd rfl (Or.inl rfl)) (fun _ _ _ _ _ => pts_nil) (fun _ _ _ _ _ => (pe_call (ok__law_token T) (hr.mono (by decide)) rfl T.m__law_token T.F__law_token.kp T.b__law_token .nil pass0 (pa_cons (pv 3) (pa_cons (pe_int) pa_nil)))))) (pe_lst (pa_cons (pe_tup (pa_cons (pe_int) (pa_cons (pe_int) pa_nil))) (pa_cons (pe_tup (pa_cons (pe_int) (pa_cons (pe_int) pa_nil))) (pa_cons (pe_tup (pa_cons (pe_int) (pa_cons (pe_int) pa_nil))) pa_nil)))))) (pg_name (i := 6) sc_law.nd rfl (Or.inl rfl)) (pss_cons (ps_set (i := 9) sc_law.nd rfl (Or.inl rfl) (pe_call (ok__law_token_bits T) (hr.mono (by decide)) rfl T.m__law_token_bits T.F__law_token_bits.kp T.b__law_token_bits .nil pass0 (pa_cons (pv 6) (pa_cons (pv 7) (pa_cons (pv 8) pa_nil)))))
      (pss_cons (ps_if (pt_cmpR op_ne (pe_callB (call_reprD hgd hr.units) (by rfl) T.z_repr (by decide +kernel) (pa_cons (pe_call (ok_token_bits T) (hr.mono (by decide)) rfl T.m_token_bits T.F_token_bits.kp T.b_token_bits .nil pass0 (pa_cons (pv 6) (pa_cons (pv 7) (pa_cons (pv 8) pa_nil)))) pa_nil)) (pe_callB (call_reprD hgd hr.units) (by rfl) T.z_repr (by decide +kernel) (pa_cons (pv 9) pa_nil)) (nomark _)) (pss_one (ps_ret (pe_bl))) pss_nil)
      (pss_cons (ps_if (pt_cmpR op_ne (pe_call (ok_token_bits T) (hr.mono (by decide)) rfl T.m_token_bits T.F_token_bits.kp T.b_token_bits .nil pass0 (pa_cons (pv 6) (pa_cons (pv 1) (pa_cons (pe_op op_rep (pe_lst (pa_cons (pe_int) pa_nil)) (pe_int)) pa_nil)))) (pe_call (ok__law_token_bits T) (hr.mono (by decide)) rfl T.m__law_token_bits T.F__law_token_bits.kp T.b__law_token_bits .nil pass0 (pa_cons (pv 6) (pa_cons (pv 1) (pa_cons (pe_op op_rep (pe_lst (pa_cons (pe_int) pa_nil)) (pe_int)) pa_nil)))) (nomark _)) (pss_one (ps_ret (pe_bl))) pss_nil)
      (pss_one (ps_if (pt_cmpR op_ne (pe_callB (call_reprD hgd hr.units) (by rfl) T.z_repr (by decide +kernel) (pa_cons (pe_call (ok_token_bits T) (hr.mono (by decide)) rfl T.m_token_bits T.F_token_bits.kp T.b_token_bits .nil pass0 (pa_cons (pv 6) (pa_cons (pe_callTy call_tuple_of (by rfl) T.z_tuple (by decide +kernel) (pa_cons (pv 7) pa_nil)) (pa_cons (pe_callTy call_tuple_of (by rfl) T.z_tuple (by decide +kernel) (pa_cons (pv 8) pa_nil)) pa_nil)))) pa_nil)) (pe_callB (call_reprD hgd hr.units) (by rfl) T.z_repr (by decide +kernel) (pa_cons (pv 9) pa_nil)) (nomark _)) (pss_one (ps_ret (pe_bl))) pss_nil)))))))))))))
      (pss_cons (ps_if (PW.pt (pw_or (pt_cmpR op_ne (pe_call (ok_token_bits T) (hr.mono (by decide)) rfl T.m_token_bits T.F_token_bits.kp T.b_token_bits .nil pass0 (pa_cons (pe_int) (pa_cons (pv 1) (pa_cons (pe_lst pa_nil) pa_nil)))) (pe_int) (nomark _)) (pw_or (pt_cmpR op_ne (pe_call (ok_token_bits T) (hr.mono (by decide)) rfl T.m_token_bits T.F_token_bits.kp T.b_token_bits .nil pass0 (pa_cons (pe_int) (pa_cons (pv 1) (pa_cons (pe_lst pa_nil) pa_nil)))) (pe_int) (nomark _)) (pw_or1 (pt_cmpR op_notN (pe_call (ok_token_bits T) (hr.mono (by decide)) rfl T.m_token_bits T.F_token_bits.kp T.b_token_bits .nil pass0 (pa_cons (pe_tup (pa_cons (pe_int) (pa_cons (pe_int) pa_nil))) (pa_cons (pv 1) (pa_cons (pe_lst pa_nil) pa_nil)))) (pe_non) (nomark _)))))) (pss_one (ps_ret (pe_bl))) pss_nil)
      (pss_one (ps_ret (pe_cmpR (op_eqD hr.units) (pe_lc (own := [("_law_token_here", 6)]) (g := gName 6) (tt := tYes) rfl sc_law.nd (pi_list (pe_lst (pa_cons (pe_tup (pa_cons (pe_int) (pa_cons (pe_int) pa_nil))) (pa_cons (pe_tup (pa_cons (pe_int) (pa_cons (pe_int) pa_nil))) (pa_cons (pe_tup (pa_cons (pe_int) (pa_cons (pe_int) pa_nil))) pa_nil))))) (blkOk_by (own := [("_law_token_here", 6)]) (N := sN_law) (sc := defScope s_law) (by decide +kernel)) (fun _ _ _ _ _ => pg_name (i := 6) sc_law.nd rfl (Or.inl rfl)) (fun _ _ _ _ _ => pts_nil) (fun _ _ _ _ _ => (pe_call (ok_token_bits T) (hr.mono (by decide)) rfl T.m_token_bits T.F_token_bits.kp T.b_token_bits .nil pass0 (pa_cons (pv 6) (pa_cons (pv 1) (pa_cons (pe_op op_rep (pe_lst (pa_cons (pe_int) pa_nil)) (pe_int)) pa_nil)))))) (pe_lst (pa_cons (pe_int) (pa_cons (pe_int) (pa_cons (pe_int) pa_nil)))) (nomark _))))))), ?_⟩)
  · obtain ⟨a, ns, rfl, _⟩ := h
    rfl
  · obtain ⟨a, ns, rfl, hS, hn, k⟩ := h
    have w0 : Wd H [] H := ⟨Same.refl _, (fun _ h => nomatch h), List.nodup_nil⟩
    walk_at "zz"
    refine ⟨by decide, NewO.good w0 fun p1 G1 H1 e1 w1 h1 => ?_⟩
    walk_at "zz"
    refine st_repI (hUp w1 h1) (by decide) (by decide) w1 fun p2 G2 H2 e2 w2 h2 => ?_
    walk_at "zz"
    refine ⟨by decide, NewO.good w2 fun p3 G3 H3 e3 w3 h3 => ?_⟩
    walk_at "zz"
    refine st_repI (hUp w3 h3) (by decide) (by decide) w3 fun p4 G4 H4 e4 w4 h4 => ?_
    walk_at "zz"
    refine st_catI (hUp w4 (h2.up (e3.trans e4))) (hUp w4 h4) (by simp) w4 fun p5 G5 H5 e5 w5 h5 => ?_
    walk_at "zz"
    refine ⟨by decide, NewO.good w5 fun p6 G6 H6 e6 w6 h6 => ?_⟩
    walk_at "zz"
    refine st_repI (hUp w6 h6) (by decide) (by decide) w6 fun p7 G7 H7 e7 w7 h7 => ?_
    walk_at "zz"
    refine st_catI (hUp w7 (h5.up (e6.trans e7))) (hUp w7 h7) (by simp) w7 fun p8 G8 H8 e8 w8 h8 => ?_
    walk_at "zz"
    refine ⟨by decide, NewO.good w8 fun p9 G9 H9 e9 w9 h9 => ?_⟩
    walk_at "zz"
    refine st_repI (hUp w9 h9) (by decide) (by decide) w9 fun p10 G10 H10 e10 w10 h10 => ?_
    walk_at "zz"
    refine st_catI (hUp w10 (h8.up (e9.trans e10))) (hUp w10 h10) (by simp) w10 fun f G0 H0 e11 wf hf => ?_
    have hf : HL G0 f fixedL := by
      rw [show (144 : Int).toNat = 144 from rfl, show (112 : Int).toNat = 112 from rfl, show (24 : Int).toNat = 24 from rfl, show (8 : Int).toNat = 8 from rfl] at hf
      exact hf
    have e0 : Same H G0 := ((((((((((e1.trans e2).trans e3).trans e4).trans e5).trans e6).trans e7).trans e8).trans e9).trans e10)).trans e11
    clear h1 h2 h3 h4 h5 h6 h7 h8 h9 h10 w0 w1 w2 w3 w4 w5 w6 w7 w8 w9 w10 e1 e2 e3 e4 e5 e6 e7 e8 e9 e10 e11
    walk_at "zz"
    refine ⟨a, _, rfl, .inl (seq_up wf (e0.seq hS)), ?_⟩
    walk_at "zz"
    rw [List.length_map]
    refine ⟨_, _, rfl, ?_⟩
    walk_at "zz"
    refine ⟨_, _, rfl, ?_⟩
    walk_at "zz"
    refine for_r1 (by split <;> split <;> omega) (fun i σ G' W' => W' = [] ∧ ∃ x2 x3 x4 x5 x6 x7 x8 x9, σ = [some (.ref a), some (.ref f), x2, x3, x4, x5, x6, x7, x8, x9]) wf ⟨rfl, _, _, _, _, _, _, _, _, rfl⟩ ?_ ?_
    · rintro i σ' G1 W1 H1 hi e1 w1 ⟨rfl, x2, x3, x4, x5, x6, x7, x8, x9, rfl⟩
      have hi6 : (i : Int) < 6 := by split at hi <;> split at hi <;> omega
      walk_at "zz"
      refine ⟨G1, [], a, ns, _, w1, rfl, (e0.trans e1).seq hS, by omega, by omega, fun b H2 w2 => ?_⟩
      have hm : (b, BagI) ∈ [(b, BagI)] := List.mem_cons_self
      walk_at "zz"
      refine for_r1 (by omega) (fun i2 σ G' W' => W' = [(b, BagI)] ∧ ∃ x4 x5 x6 x7 x8 x9, σ = [some (.ref a), some (.ref f), some (.int i), some (.ref b), x4, x5, x6, x7, x8, x9]) w2 ⟨rfl, _, _, _, _, _, _, rfl⟩ ?_ ?_
      · rintro i2 σ' G3 W3 H3 hi2 e3 w3 ⟨rfl, y4, y5, y6, y7, y8, y9, rfl⟩
        walk_at "zz"
        refine ⟨G3, _, b, _, w3, hm, rfl, by decide, by decide, fun p4 row0 G4 H4 e4 w4 h4 hB4 hl4 => ?_⟩
        walk_at "zz"
        refine ⟨G4, _, b, _, w4, hm, rfl, by decide, by decide, fun r5 H5 hr0 hr1 w5 => ?_⟩
        walk_at "zz"
        refine ⟨small (by simp), NewO.good w5 fun p6 G6 H6 e6 w6 h6 => ?_⟩
        walk_at "zz"
        refine st_catI (ys := [r5]) (hUp w6 (h4.up e6)) (hUp w6 h6) (by simp; omega) w6 fun u G7 H7 e7 w7 hu => ?_
        have hBu : Byt (row0 ++ [r5]) := hB4.app fun n hn => by rw [List.mem_singleton.mp hn]; omega
        have hul : (row0 ++ [r5]).length = row0.length + 1 := by simp
        generalize row0 ++ [r5] = row at hu hBu hul
        have e37 := (e4.trans e6).trans e7
        clear h4 h6 w4 w5 w6 e4 e6 e7
        walk_at "zz"
        refine ⟨G7, _, b, u, row, w7, hm, rfl, hu, hBu, by omega, by omega, fun t p q gs hs G8 H8 e8 w8 ht hp hq hg hh => ?_⟩
        walk_at "zz"
        refine st_gtup (SqT.of (w8.at ht)) rfl ?_
        walk_at "zz"
        refine ⟨_, rfl, ?_⟩
        refine st_slL (seq_up w8 (hu.up e8).seq) w8 fun p9 G9 H9 e9 w9 h9 => ?_
        rw [cut_lo2 (by decide), show (5 : Int).toNat = 5 from rfl] at h9
        walk_at "zz"
        refine lc_r1 (by decide) (fun i acc G' => AllP (TokP K G') acc ∧ acc.length = i) w9 ⟨trivial, rfl⟩ (fun _ => rfl) ?_ ?_
        · rintro i D G' H' acc hi e w' ⟨hA, hl⟩
          walk_at "zz"
          refine ⟨G', _, b, _, w', by simp, rfl, by decide, by decide, fun v d G10 H10 e10 w10 hd hT => ?_⟩
          refine lc_put w10 (by walk_at "sm") (by omega) ⟨AllP.app (allTok e10 hA) ⟨⟨d, hd, tokm_b (Int.le_refl _) hT⟩, trivial⟩, by simp [hl]⟩
        rintro p10 G10 H10 acc e10 w10 ⟨hA, hl⟩
        obtain ⟨o, rfl, ho, e11, w11⟩ := w10.freeze1
        have hA11 := allTok e11 hA
        have h11 : (upd G10 p10 (.lst acc)) p10 = some (.lst acc) := upd_same
        generalize upd G10 p10 (.lst acc) = G11 at e11 w11 h11 hA11
        have hA9 : AllP (TokP K G11) ((row.take 5).map V.int) := AllP.mk fun x hx => by
          obtain ⟨n, hn, rfl⟩ := List.mem_map.mp hx
          exact ⟨_, .int n, .inl ⟨n, rfl, hBu n (List.mem_of_mem_take hn)⟩⟩
        have hl9 : (row.take 5).length ≤ 5 := List.length_take_le 5 row
        walk_at "zz"
        refine st_catV (hUp w11 ((e10.trans e11) _ _ h9)) (hUp w11 h11) (by rw [List.length_map]; simp at hl; omega) w11 fun p12 G12 H12 e12 w12 h12 => ?_
        walk_at "zz"
        refine ⟨by decide, NewO.good w12 fun q1 G13 H13 e13 w13 h13 => ?_⟩
        walk_at "zz"
        refine ⟨by decide, NewO.good w13 fun q2 G14 H14 e14 w14 h14 => ?_⟩
        walk_at "zz"
        refine ⟨by decide, NewO.good w14 fun q3 G15 H15 e15 w15 h15 => ?_⟩
        walk_at "zz"
        refine ⟨small (by simp), NewO.good w15 fun q4 G16 H16 e16 w16 h16 => ?_⟩
        walk_at "zz"
        refine st_catV (hUp w16 (((e13.trans e14).trans (e15.trans e16)) _ _ h12)) (w16.at h16) (by rw [List.length_append, List.length_map]; simp at hl; simp; omega) w16 fun p17 G17 H17 e17 w17 h17 => ?_
        have hall : AllP (TokP K G17) (((row.take 5).map V.int ++ acc) ++ [.ref q1, .ref q2, .ref q3]) := by
          have f := (e12.trans ((e13.trans e14).trans (e15.trans e16))).trans e17
          refine AllP.app (AllP.app (allTok f hA9) (allTok f hA11)) ⟨⟨_, .tup (SqT.of ((((e14.trans e15).trans e16).trans e17) _ _ h13)) (.cons (.int 258) (.cons (.int 1) .nil)), .inr ⟨_, _, rfl, by decide, by decide, by decide, by decide⟩⟩, ⟨_, .tup (SqT.of (((e15.trans e16).trans e17) _ _ h14)) (.cons (.int 257) (.cons (.int 5) .nil)), .inr ⟨_, _, rfl, by decide, by decide, by decide, by decide⟩⟩, ⟨_, .tup (SqT.of ((e16.trans e17) _ _ h15)) (.cons (.int 3) (.cons (.int 4) .nil)), .inr ⟨_, _, rfl, by decide, by decide, by decide, by decide⟩⟩, trivial⟩
        have f8 : Same G8 G17 := ((e9.trans (e10.trans e11)).trans (e12.trans ((e13.trans e14).trans (e15.trans e16)))).trans e17
        generalize ((row.take 5).map V.int ++ acc) ++ [.ref q1, .ref q2, .ref q3] = toks at h17 hall
        have hp := hp.up f8
        have hq := hq.up f8
        have hf17 := hf.up (((e1.trans e3).trans (e37.trans e8)).trans f8)
        have e317 : Same G3 G17 := (e37.trans e8).trans f8
        clear h9 h11 hA9 h12 h13 h14 h15 h16 w7 w8 w9 w10 w11 w12 w13 w14 w15 w16 hA hA11 ht hu
        refine for_l (SqL.of h17) (fun _ σ G' W' => W' = [(b, BagI)] ∧ ∃ x4 x5 x6 x9, σ = [some (.ref a), some (.ref f), some (.int i), some (.ref b), x4, x5, x6, some (.ref p), some (.ref q), x9]) w17 ⟨rfl, _, _, _, _, rfl⟩ ?_ ?_
        · rintro i3 x σ' G18 W18 H18 hx e18 w18 ⟨rfl, z4, z5, z6, z9, rfl⟩
          obtain ⟨d, hd, htb⟩ := hall.of x (List.mem_of_getElem? hx)
          have hd := dmono e18 hd
          walk_at "zz"
          refine ⟨G18, _, x, d, p, q, gs, hs, w18, rfl, hd, htb, (hp.up e18).seq, (hq.up e18).seq, fun G19 H19 e19 w19 => ?_⟩
          walk_at "zz"
          refine ⟨G19, _, x, d, p, q, gs, hs, w19, rfl, dmono e19 hd, htb, .inl (hp.up (e18.trans e19)).seq, .inl (hq.up (e18.trans e19)).seq, fun G20 H20 e20 w20 => ?_⟩
          walk_at "zz"
          have hv : ∃ d', (∀ H, Dp K H (tbV gs hs d) d') ∧ Od 0 d' := by
            rcases tb_or hg hh htb with h | ⟨n, h, h2, h3⟩
            · rw [h]
              exact ⟨_, fun _ => .non, non_od⟩
            · rw [h]
              exact ⟨_, fun _ => .int n, Od.int (by omega)⟩
          obtain ⟨d', hd', ho'⟩ := hv
          generalize hvv : tbV gs hs d = v at hd'
          refine st_repr (hd' _) ho' (by decide) ?_
          walk_at "zz"
          refine st_repr (hd' _) ho' (by decide) ?_
          walk_at "zz"
          rw [ne_self]
          walk_at "zz"
          refine ⟨by decide, NewO.good w20 fun r1 G21 H21 e21 w21 h21 => ?_⟩
          walk_at "zz"
          refine st_repI (hUp w21 h21) (by decide) (by decide) w21 fun r2 G22 H22 e22 w22 h22 => ?_
          have h22 : HL G22 r2 five := by
            rw [show (32 : Int).toNat = 32 from rfl] at h22
            exact h22
          have f22 := (e19.trans e20).trans (e21.trans e22)
          walk_at "zz"
          refine ⟨G22, _, x, d, f, r2, fixedL, five, w22, rfl, dmono f22 hd, htb, .inl (hf17.up (e18.trans f22)).seq, .inl h22.seq, fun G23 H23 e23 w23 => ?_⟩
          walk_at "zz"
          refine ⟨by decide, NewO.good w23 fun r3 G24 H24 e24 w24 h24 => ?_⟩
          walk_at "zz"
          refine st_repI (hUp w24 h24) (by decide) (by decide) w24 fun r4 G25 H25 e25 w25 h25 => ?_
          have h25 : HL G25 r4 five := by
            rw [show (32 : Int).toNat = 32 from rfl] at h25
            exact h25
          have f25 := f22.trans (e23.trans (e24.trans e25))
          walk_at "zz"
          refine ⟨G25, _, x, d, f, r4, fixedL, five, w25, rfl, dmono f25 hd, htb, (hf17.up (e18.trans f25)).seq, h25.seq, fun G26 H26 e26 w26 => ?_⟩
          have hsc : scal (tbV fixedL five d) (tbV fixedL five d) = true := by rcases tb_or fixedB fiveB htb with h | ⟨n, h, _⟩ <;> rw [h] <;> rfl
          refine st_ne hsc ?_
          rw [ne_self]
          have f26 := f25.trans e26
          clear h21 h22 h24 h25 w19 w20 w21 w22 w23 w24 w25
          walk_at "zz"
          refine ⟨p, _, rfl, .inl ⟨seq_up w26 (hp.up (e18.trans f26)).seq, fun t ht => ?_⟩⟩
          have e27 : Same G26 (upd G26 t (.tup (gs.map V.int))) := same_upd (w26.free ht)
          have w27 : Wd _ _ (upd H26 t (.tup (gs.map V.int))) := w26.new ht
          have ht27 : SqT K (upd G26 t (.tup (gs.map V.int))) t (gs.map V.int) := SqT.of upd_same
          generalize upd G26 t (.tup (gs.map V.int)) = G27 at e27 w27 ht27
          generalize upd H26 t (.tup (gs.map V.int)) = H27 at w27
          walk_at "zz"
          refine ⟨q, _, rfl, .inl ⟨seq_up w27 (hq.up ((e18.trans f26).trans e27)).seq, fun t2 ht2 => ?_⟩⟩
          have e28 : Same G27 (upd G27 t2 (.tup (hs.map V.int))) := same_upd (w27.free ht2)
          have w28 : Wd _ _ (upd H27 t2 (.tup (hs.map V.int))) := w27.new ht2
          have ht28 : SqT K (upd G27 t2 (.tup (hs.map V.int))) t2 (hs.map V.int) := SqT.of upd_same
          generalize upd G27 t2 (.tup (hs.map V.int)) = G28 at e28 w28 ht28
          generalize upd H27 t2 (.tup (hs.map V.int)) = H28 at w28
          walk_at "zz"
          refine ⟨G28, _, x, d, t, t2, gs, hs, w28, rfl, dmono ((f26.trans e27).trans e28) hd, htb, .inr (seqT e28 ht27), .inr ht28, fun G29 H29 e29 w29 => ?_⟩
          rw [hvv]
          walk_at "zz"
          refine st_repr (hd' _) ho' (by decide) ?_
          walk_at "zz"
          refine st_repr (hd' _) ho' (by decide) ?_
          walk_at "zz"
          rw [ne_self]
          walk_at "zz"
          exact st_btw (by walk_at "sm") w29 ⟨rfl, _, _, _, _, rfl⟩
        · rintro σ' G18 W18 H18 e18 w18 ⟨rfl, z4, z5, z6, z9, rfl⟩
          exact st_btw (by walk_at "sm") w18 ⟨rfl, _, _, _, _, _, _, rfl⟩
      · rintro σ' G7 W7 H7 e7 w7 ⟨rfl, y4, y5, y6, y7, y8, y9, rfl⟩
        exact st_btw (by walk_at "sm") w7.drop1 ⟨rfl, _, _, _, _, _, _, _, _, rfl⟩
    · rintro σ' G5 W5 H5 e5 w5 ⟨rfl, x2, x3, x4, x5, x6, x7, x8, x9, rfl⟩
      clear wf
      have hf5 := hf.up e5
      walk_at "zz"
      refine ⟨by decide, NewO.good w5 fun p1 G6 H6 e6 w6 h6 => ?_⟩
      walk_at "zz"
      refine ⟨G6, _, .int 143, .int 143, f, p1, fixedL, [], w6, rfl, .int 143, .inl ⟨143, rfl, by decide, by decide⟩, .inl (hf5.up e6).seq, .inl (SqL.of h6), fun G7 H7 e7 w7 => ?_⟩
      rw [show tbV fixedL [] (.int 143) = .int 8 by decide +kernel]
      walk_at "zz"
      rw [ne_self]
      walk_at "zz"
      refine ⟨by decide, NewO.good w7 fun p2 G8 H8 e8 w8 h8 => ?_⟩
      walk_at "zz"
      refine ⟨G8, _, .int 144, .int 144, f, p2, fixedL, [], w8, rfl, .int 144, .inl ⟨144, rfl, by decide, by decide⟩, .inl (hf5.up ((e6.trans e7).trans e8)).seq, .inl (SqL.of h8), fun G9 H9 e9 w9 => ?_⟩
      rw [show tbV fixedL [] (.int 144) = .int 9 by decide +kernel]
      walk_at "zz"
      rw [ne_self]
      walk_at "zz"
      refine ⟨by decide, NewO.good w9 fun p3 G10 H10 e10 w10 h10 => ?_⟩
      walk_at "zz"
      refine ⟨by decide, NewO.good w10 fun p4 G11 H11 e11 w11 h11 => ?_⟩
      walk_at "zz"
      have f11 := ((e6.trans e7).trans e8).trans ((e9.trans e10).trans e11)
      refine ⟨G11, _, .ref p3, .tuple [.int 3, .int 1], f, p4, fixedL, [], w11, rfl, .tup (SqT.of (e11 _ _ h10)) (.cons (.int 3) (.cons (.int 1) .nil)), .inr ⟨3, 1, rfl, by decide, by decide, by decide, by decide⟩, .inl (hf5.up f11).seq, .inl (SqL.of h11), fun G12 H12 e12 w12 => ?_⟩
      rw [show tbV fixedL [] (.tuple [.int 3, .int 1]) = .non by decide +kernel]
      walk_at "zz"
      refine ⟨rfl, ?_⟩
      rw [ne_self]
      walk_at "zz"
      have hf12 := hf5.up (f11.trans e12)
      clear h6 h8 h10 h11 w5 w6 w7 w8 w9 w10 w11
      refine ⟨by decide, NewO.good w12 fun q1 G13 H13 e13 w13 h13 => ?_⟩
      walk_at "zz"
      refine ⟨by decide, NewO.good w13 fun q2 G14 H14 e14 w14 h14 => ?_⟩
      walk_at "zz"
      refine ⟨by decide, NewO.good w14 fun q3 G15 H15 e15 w15 h15 => ?_⟩
      walk_at "zz"
      refine ⟨small (by simp), NewO.good w15 fun q4 G16 H16 e16 w16 h16 => ?_⟩
      have hq1 : ∀ i x, ([V.ref q1, .ref q2, .ref q3] : List V)[i]? = some x → ∃ d, Dp K G16 x d ∧ TokB d ∧ tbV fixedL five d = .int (([12, 26, 14] : List Int).getD i 0) ∧ i < 3 := fun i x hx => by
        match i, hx with
        | 0, h =>
          cases h
          exact ⟨_, .tup (SqT.of (((e14.trans e15).trans e16) _ _ h13)) (.cons (.int 3) (.cons (.int 1) .nil)), .inr ⟨_, _, rfl, by decide, by decide, by decide, by decide⟩, by decide +kernel, by decide⟩
        | 1, h =>
          cases h
          exact ⟨_, .tup (SqT.of ((e15.trans e16) _ _ h14)) (.cons (.int 258) (.cons (.int 32768) .nil)), .inr ⟨_, _, rfl, by decide, by decide, by decide, by decide⟩, by decide +kernel, by decide⟩
        | 2, h =>
          cases h
          exact ⟨_, .tup (SqT.of (e16 _ _ h15)) (.cons (.int 11) (.cons (.int 5) .nil)), .inr ⟨_, _, rfl, by decide, by decide, by decide, by decide⟩, by decide +kernel, by decide⟩
        | _ + 3, h => exact nomatch h
      have hf16 := hf12.up ((e13.trans e14).trans (e15.trans e16))
      clear h13 h14 h15 w12 w13 w14 w15
      walk_at "zz"
      refine lc_l (SqL.of h16) (fun i acc _ => acc = (([12, 26, 14] : List Int).take i).map V.int) w16 rfl (fun _ => rfl) ?_ ?_
      · rintro i x D G17 H17 acc hx e17 w17 rfl
        obtain ⟨d, hd, htb, htv, hi⟩ := hq1 i x hx
        walk_at "zz"
        refine ⟨by decide, NewO.good w17 fun r1 G18 H18 e18 w18 h18 => ?_⟩
        walk_at "zz"
        refine st_repI (hUp w18 h18) (by decide) (by decide) w18 fun r2 G19 H19 e19 w19 h19 => ?_
        have h19 : HL G19 r2 five := by
          rw [show (32 : Int).toNat = 32 from rfl] at h19
          exact h19
        have f19 := e17.trans (e18.trans e19)
        walk_at "zz"
        refine ⟨G19, _, x, d, f, r2, fixedL, five, w19, rfl, dmono f19 hd, htb, .inl (hf16.up f19).seq, .inl h19.seq, fun G20 H20 e20 w20 => ?_⟩
        rw [htv]
        refine lc_put w20 (by walk_at "sm") (by rw [List.length_map, List.length_take]; simp; omega) ?_
        rw [List.take_add_one, List.map_append]
        match i, hi with
        | 0, _ => rfl
        | 1, _ => rfl
        | 2, _ => rfl
      · rintro D G17 H17 acc e17 w17 rfl
        obtain ⟨o, rfl, ho, e18, w18⟩ := w17.freeze1
        have hD : HL (upd G17 D (.lst (([12, 26, 14] : List Int).map V.int))) D [12, 26, 14] := upd_same
        have w18 : Wd (upd G17 D (.lst (([12, 26, 14] : List Int).map V.int))) [] H17 := w18
        generalize upd G17 D (.lst (([12, 26, 14] : List Int).map V.int)) = G18 at w18 hD
        clear w17 e18
        walk_at "zz"
        refine ⟨by decide, NewO.good w18 fun r1 G19 H19 e19 w19 h19 => ?_⟩
        walk_at "zz"
        refine st_eqI (xs := [12, 26, 14]) (ys := [12, 26, 14]) (seq_up w19 (hD.up e19).seq) (SqL.of (w19.at h19)) ?_
        rw [decide_eq_true rfl]
        exact k H19

end
theorem all_mk {l : PySem.W.OpenLaw} {w : World} {K : PySem.W.Frag} {h : Heap} {mg : Str → Option Value} {fa : Addr} (X : K.In h) (G : h.Ns mainGlobals mg) (hfa : mg "law" = some (.ref fa))
    {A0 : Addr} {od0 an0 : Option Addr} {sl0 : Array (Option Value)} {oc0 kV0 dc0 pm0 cd0 ct0 : Value}
    {A1 : Addr} {od1 an1 : Option Addr} {sl1 : Array (Option Value)} {oc1 kV1 dc1 pm1 cd1 ct1 : Value}
    {A2 : Addr} {od2 an2 : Option Addr} {sl2 : Array (Option Value)} {oc2 kV2 dc2 pm2 cd2 ct2 : Value}
    {A3 : Addr} {od3 an3 : Option Addr} {sl3 : Array (Option Value)} {oc3 kV3 dc3 pm3 cd3 ct3 : Value}
    {A4 : Addr} {od4 an4 : Option Addr} {sl4 : Array (Option Value)} {oc4 kV4 dc4 pm4 cd4 ct4 : Value}
    {A5 : Addr} {od5 an5 : Option Addr} {sl5 : Array (Option Value)} {oc5 kV5 dc5 pm5 cd5 ct5 : Value}
    {A6 : Addr} {od6 an6 : Option Addr} {sl6 : Array (Option Value)} {oc6 kV6 dc6 pm6 cd6 ct6 : Value}
    {A7 : Addr} {od7 an7 : Option Addr} {sl7 : Array (Option Value)} {oc7 kV7 dc7 pm7 cd7 ct7 : Value}
    {A8 : Addr} {od8 an8 : Option Addr} {sl8 : Array (Option Value)} {oc8 kV8 dc8 pm8 cd8 ct8 : Value}
    {A9 : Addr} {od9 an9 : Option Addr} {sl9 : Array (Option Value)} {oc9 kV9 dc9 pm9 cd9 ct9 : Value}
    {A10 : Addr} {od10 an10 : Option Addr} {sl10 : Array (Option Value)} {oc10 kV10 dc10 pm10 cd10 ct10 : Value}
    {A11 : Addr} {od11 an11 : Option Addr} {sl11 : Array (Option Value)} {oc11 kV11 dc11 pm11 cd11 ct11 : Value}
    {A12 : Addr} {od12 an12 : Option Addr} {sl12 : Array (Option Value)} {oc12 kV12 dc12 pm12 cd12 ct12 : Value}
    {A13 : Addr} {od13 an13 : Option Addr} {sl13 : Array (Option Value)} {oc13 kV13 dc13 pm13 cd13 ct13 : Value}
    {A14 : Addr} {od14 an14 : Option Addr} {sl14 : Array (Option Value)} {oc14 kV14 dc14 pm14 cd14 ct14 : Value}
    {A15 : Addr} {od15 an15 : Option Addr} {sl15 : Array (Option Value)} {oc15 kV15 dc15 pm15 cd15 ct15 : Value}
    {A16 : Addr} {od16 an16 : Option Addr} {sl16 : Array (Option Value)} {oc16 kV16 dc16 pm16 cd16 ct16 : Value}
    {KC0 : Addr} {kcn0 : Nat} {kcs0 : Array (Option Value)} {kcd0 : Option Addr} {kt0_0 kt0_1 kt0_2 kt0_3 kt0_4 kt0_5 kt0_6 kt0_7 kt0_8 kt0_9 kt0_10 kt0_11 kt0_12 kt0_13 kt0_14 kt0_15 kt0_16 kt0_17 kt0_18 kt0_19 kt0_20 kt0_21 kt0_22 kt0_23 kt0_24 kt0_25 kt0_26 kt0_27 kt0_28 : Tok}
    {tc1 : Tok}
    {KC2 : Addr} {kcn2 : Nat} {kcs2 : Array (Option Value)} {kcd2 : Option Addr} {kt2_0 kt2_1 kt2_2 kt2_3 kt2_4 kt2_5 kt2_6 kt2_7 kt2_8 kt2_9 kt2_10 kt2_11 kt2_12 kt2_13 kt2_14 kt2_15 kt2_16 kt2_17 kt2_18 kt2_19 kt2_20 kt2_21 kt2_22 kt2_23 kt2_24 kt2_25 kt2_26 kt2_27 kt2_28 : Tok}
    {KC3 : Addr} {kcn3 : Nat} {kcs3 : Array (Option Value)} {kcd3 : Option Addr} {kt3_0 kt3_1 kt3_2 kt3_3 kt3_4 kt3_5 kt3_6 kt3_7 kt3_8 kt3_9 kt3_10 kt3_11 kt3_12 kt3_13 kt3_14 kt3_15 kt3_16 kt3_17 kt3_18 kt3_19 kt3_20 kt3_21 kt3_22 kt3_23 kt3_24 kt3_25 kt3_26 kt3_27 kt3_28 kt3_29 : Tok}
    {KC4 : Addr} {kcn4 : Nat} {kcs4 : Array (Option Value)} {kcd4 : Option Addr} {kt4_0 kt4_1 kt4_2 kt4_3 kt4_4 kt4_5 kt4_6 kt4_7 kt4_8 kt4_9 kt4_10 kt4_11 kt4_12 kt4_13 kt4_14 kt4_15 kt4_16 kt4_17 kt4_18 kt4_19 kt4_20 kt4_21 kt4_22 kt4_23 kt4_24 kt4_25 kt4_26 kt4_27 kt4_28 kt4_29 : Tok}
    (a0 : PySem.W.nsIn K mainGlobals "place_in" = some (some (.ref A0)))
    (l0 : K.lookup A0 = some ⟨oc0, od0, .func (PySem.W.fnOf "place_in" "place_in" (defArgs s_place_in) (defBody s_place_in) (defScope s_place_in) .none kV0 dc0 pm0 an0 cd0 ct0), sl0⟩)
    (c0 : PySem.W.codeIn K cd0 "place_in" = true) (k0 : PySem.W.keepIn K (.ref A0) = true)
    (a1 : PySem.W.nsIn K mainGlobals "length_symbol" = some (some (.ref A1)))
    (l1 : K.lookup A1 = some ⟨oc1, od1, .func (PySem.W.fnOf "length_symbol" "length_symbol" (defArgs s_length_symbol) (defBody s_length_symbol) (defScope s_length_symbol) .none kV1 dc1 pm1 an1 cd1 ct1), sl1⟩)
    (c1 : PySem.W.codeIn K cd1 "length_symbol" = true) (k1 : PySem.W.keepIn K (.ref A1) = true)
    (a2 : PySem.W.nsIn K mainGlobals "distance_symbol" = some (some (.ref A2)))
    (l2 : K.lookup A2 = some ⟨oc2, od2, .func (PySem.W.fnOf "distance_symbol" "distance_symbol" (defArgs s_distance_symbol) (defBody s_distance_symbol) (defScope s_distance_symbol) .none kV2 dc2 pm2 an2 cd2 ct2), sl2⟩)
    (c2 : PySem.W.codeIn K cd2 "distance_symbol" = true) (k2 : PySem.W.keepIn K (.ref A2) = true)
    (a3 : PySem.W.nsIn K mainGlobals "symbol_bits" = some (some (.ref A3)))
    (l3 : K.lookup A3 = some ⟨oc3, od3, .func (PySem.W.fnOf "symbol_bits" "symbol_bits" (defArgs s_symbol_bits) (defBody s_symbol_bits) (defScope s_symbol_bits) .none kV3 dc3 pm3 an3 cd3 ct3), sl3⟩)
    (c3 : PySem.W.codeIn K cd3 "symbol_bits" = true) (k3 : PySem.W.keepIn K (.ref A3) = true)
    (a4 : PySem.W.nsIn K mainGlobals "token_bits" = some (some (.ref A4)))
    (l4 : K.lookup A4 = some ⟨oc4, od4, .func (PySem.W.fnOf "token_bits" "token_bits" (defArgs s_token_bits) (defBody s_token_bits) (defScope s_token_bits) .none kV4 dc4 pm4 an4 cd4 ct4), sl4⟩)
    (c4 : PySem.W.codeIn K cd4 "token_bits" = true) (k4 : PySem.W.keepIn K (.ref A4) = true)
    (a5 : PySem.W.nsIn K mainGlobals "_law_bag" = some (some (.ref A5)))
    (l5 : K.lookup A5 = some ⟨oc5, od5, .func (PySem.W.fnOf "_law_bag" "_law_bag" (defArgs s__law_bag) (defBody s__law_bag) (defScope s__law_bag) .none kV5 dc5 pm5 an5 cd5 ct5), sl5⟩)
    (c5 : PySem.W.codeIn K cd5 "_law_bag" = true) (k5 : PySem.W.keepIn K (.ref A5) = true)
    (a6 : PySem.W.nsIn K mainGlobals "_law_take" = some (some (.ref A6)))
    (l6 : K.lookup A6 = some ⟨oc6, od6, .func (PySem.W.fnOf "_law_take" "_law_take" (defArgs s__law_take) (defBody s__law_take) (defScope s__law_take) .none kV6 dc6 pm6 an6 cd6 ct6), sl6⟩)
    (c6 : PySem.W.codeIn K cd6 "_law_take" = true) (k6 : PySem.W.keepIn K (.ref A6) = true)
    (a7 : PySem.W.nsIn K mainGlobals "_law_one" = some (some (.ref A7)))
    (l7 : K.lookup A7 = some ⟨oc7, od7, .func (PySem.W.fnOf "_law_one" "_law_one" (defArgs s__law_one) (defBody s__law_one) (defScope s__law_one) .none kV7 dc7 pm7 an7 cd7 ct7), sl7⟩)
    (c7 : PySem.W.codeIn K cd7 "_law_one" = true) (k7 : PySem.W.keepIn K (.ref A7) = true)
    (a8 : PySem.W.nsIn K mainGlobals "_law_whole" = some (some (.ref A8)))
    (l8 : K.lookup A8 = some ⟨oc8, od8, .func (PySem.W.fnOf "_law_whole" "_law_whole" (defArgs s__law_whole) (defBody s__law_whole) (defScope s__law_whole) .none kV8 dc8 pm8 an8 cd8 ct8), sl8⟩)
    (c8 : PySem.W.codeIn K cd8 "_law_whole" = true) (k8 : PySem.W.keepIn K (.ref A8) = true)
    (a9 : PySem.W.nsIn K mainGlobals "_law_drawn_data" = some (some (.ref A9)))
    (l9 : K.lookup A9 = some ⟨oc9, od9, .func (PySem.W.fnOf "_law_drawn_data" "_law_drawn_data" (defArgs s__law_drawn_data) (defBody s__law_drawn_data) (defScope s__law_drawn_data) .none kV9 dc9 pm9 an9 cd9 ct9), sl9⟩)
    (c9 : PySem.W.codeIn K cd9 "_law_drawn_data" = true) (k9 : PySem.W.keepIn K (.ref A9) = true)
    (a10 : PySem.W.nsIn K mainGlobals "_law_token" = some (some (.ref A10)))
    (l10 : K.lookup A10 = some ⟨oc10, od10, .func (PySem.W.fnOf "_law_token" "_law_token" (defArgs s__law_token) (defBody s__law_token) (defScope s__law_token) .none kV10 dc10 pm10 an10 cd10 ct10), sl10⟩)
    (c10 : PySem.W.codeIn K cd10 "_law_token" = true) (k10 : PySem.W.keepIn K (.ref A10) = true)
    (a11 : PySem.W.nsIn K mainGlobals "_law_symbol" = some (some (.ref A11)))
    (l11 : K.lookup A11 = some ⟨oc11, od11, .func (PySem.W.fnOf "_law_symbol" "_law_symbol" (defArgs s__law_symbol) (defBody s__law_symbol) (defScope s__law_symbol) .none kV11 dc11 pm11 an11 cd11 ct11), sl11⟩)
    (c11 : PySem.W.codeIn K cd11 "_law_symbol" = true) (k11 : PySem.W.keepIn K (.ref A11) = true)
    (a12 : PySem.W.nsIn K mainGlobals "_law_size" = some (some (.ref A12)))
    (l12 : K.lookup A12 = some ⟨oc12, od12, .func (PySem.W.fnOf "_law_size" "_law_size" (defArgs s__law_size) (defBody s__law_size) (defScope s__law_size) .none kV12 dc12 pm12 an12 cd12 ct12), sl12⟩)
    (c12 : PySem.W.codeIn K cd12 "_law_size" = true) (k12 : PySem.W.keepIn K (.ref A12) = true)
    (a13 : PySem.W.nsIn K mainGlobals "_law_token_bits" = some (some (.ref A13)))
    (l13 : K.lookup A13 = some ⟨oc13, od13, .func (PySem.W.fnOf "_law_token_bits" "_law_token_bits" (defArgs s__law_token_bits) (defBody s__law_token_bits) (defScope s__law_token_bits) .none kV13 dc13 pm13 an13 cd13 ct13), sl13⟩)
    (c13 : PySem.W.codeIn K cd13 "_law_token_bits" = true) (k13 : PySem.W.keepIn K (.ref A13) = true)
    (a14 : PySem.W.nsIn K mainGlobals "_law_split" = some (some (.ref A14)))
    (l14 : K.lookup A14 = some ⟨oc14, od14, .func (PySem.W.fnOf "_law_split" "_law_split" (defArgs s__law_split) (defBody s__law_split) (defScope s__law_split) .none kV14 dc14 pm14 an14 cd14 ct14), sl14⟩)
    (c14 : PySem.W.codeIn K cd14 "_law_split" = true) (k14 : PySem.W.keepIn K (.ref A14) = true)
    (a15 : PySem.W.nsIn K mainGlobals "_law_trees" = some (some (.ref A15)))
    (l15 : K.lookup A15 = some ⟨oc15, od15, .func (PySem.W.fnOf "_law_trees" "_law_trees" (defArgs s__law_trees) (defBody s__law_trees) (defScope s__law_trees) .none kV15 dc15 pm15 an15 cd15 ct15), sl15⟩)
    (c15 : PySem.W.codeIn K cd15 "_law_trees" = true) (k15 : PySem.W.keepIn K (.ref A15) = true)
    (a16 : PySem.W.nsIn K mainGlobals "law" = some (some (.ref A16)))
    (l16 : K.lookup A16 = some ⟨oc16, od16, .func (PySem.W.fnOf "law" "law" (defArgs s_law) (defBody s_law) (defScope s_law) .none kV16 dc16 pm16 an16 cd16 ct16), sl16⟩)
    (c16 : PySem.W.codeIn K cd16 "law" = true) (k16 : PySem.W.keepIn K (.ref A16) = true)
    (co0 : PySem.W.nsIn K mainGlobals "LENGTHS" = some (some (.ref KC0))) (cl0 : K.lookup KC0 = some ⟨.type "tuple", kcd0, .seq #[.int 3 kt0_0, .int 4 kt0_1, .int 5 kt0_2, .int 6 kt0_3, .int 7 kt0_4, .int 8 kt0_5, .int 9 kt0_6, .int 10 kt0_7, .int 11 kt0_8, .int 13 kt0_9, .int 15 kt0_10, .int 17 kt0_11, .int 19 kt0_12, .int 23 kt0_13, .int 27 kt0_14, .int 31 kt0_15, .int 35 kt0_16, .int 43 kt0_17, .int 51 kt0_18, .int 59 kt0_19, .int 67 kt0_20, .int 83 kt0_21, .int 99 kt0_22, .int 115 kt0_23, .int 131 kt0_24, .int 163 kt0_25, .int 195 kt0_26, .int 227 kt0_27, .int 258 kt0_28] kcn0, kcs0⟩)
    (co1 : PySem.W.nsIn K mainGlobals "FIRST_LENGTH" = some (some (.int 257 tc1)))
    (co2 : PySem.W.nsIn K mainGlobals "LENGTH_EXTRAS" = some (some (.ref KC2))) (cl2 : K.lookup KC2 = some ⟨.type "tuple", kcd2, .seq #[.int 0 kt2_0, .int 0 kt2_1, .int 0 kt2_2, .int 0 kt2_3, .int 0 kt2_4, .int 0 kt2_5, .int 0 kt2_6, .int 0 kt2_7, .int 1 kt2_8, .int 1 kt2_9, .int 1 kt2_10, .int 1 kt2_11, .int 2 kt2_12, .int 2 kt2_13, .int 2 kt2_14, .int 2 kt2_15, .int 3 kt2_16, .int 3 kt2_17, .int 3 kt2_18, .int 3 kt2_19, .int 4 kt2_20, .int 4 kt2_21, .int 4 kt2_22, .int 4 kt2_23, .int 5 kt2_24, .int 5 kt2_25, .int 5 kt2_26, .int 5 kt2_27, .int 0 kt2_28] kcn2, kcs2⟩)
    (co3 : PySem.W.nsIn K mainGlobals "DISTANCES" = some (some (.ref KC3))) (cl3 : K.lookup KC3 = some ⟨.type "tuple", kcd3, .seq #[.int 1 kt3_0, .int 2 kt3_1, .int 3 kt3_2, .int 4 kt3_3, .int 5 kt3_4, .int 7 kt3_5, .int 9 kt3_6, .int 13 kt3_7, .int 17 kt3_8, .int 25 kt3_9, .int 33 kt3_10, .int 49 kt3_11, .int 65 kt3_12, .int 97 kt3_13, .int 129 kt3_14, .int 193 kt3_15, .int 257 kt3_16, .int 385 kt3_17, .int 513 kt3_18, .int 769 kt3_19, .int 1025 kt3_20, .int 1537 kt3_21, .int 2049 kt3_22, .int 3073 kt3_23, .int 4097 kt3_24, .int 6145 kt3_25, .int 8193 kt3_26, .int 12289 kt3_27, .int 16385 kt3_28, .int 24577 kt3_29] kcn3, kcs3⟩)
    (co4 : PySem.W.nsIn K mainGlobals "DISTANCE_EXTRAS" = some (some (.ref KC4))) (cl4 : K.lookup KC4 = some ⟨.type "tuple", kcd4, .seq #[.int 0 kt4_0, .int 0 kt4_1, .int 0 kt4_2, .int 0 kt4_3, .int 1 kt4_4, .int 1 kt4_5, .int 2 kt4_6, .int 2 kt4_7, .int 3 kt4_8, .int 3 kt4_9, .int 4 kt4_10, .int 4 kt4_11, .int 5 kt4_12, .int 5 kt4_13, .int 6 kt4_14, .int 6 kt4_15, .int 7 kt4_16, .int 7 kt4_17, .int 8 kt4_18, .int 8 kt4_19, .int 9 kt4_20, .int 9 kt4_21, .int 10 kt4_22, .int 10 kt4_23, .int 11 kt4_24, .int 11 kt4_25, .int 12 kt4_26, .int 12 kt4_27, .int 13 kt4_28, .int 13 kt4_29] kcn4, kcs4⟩)
    (z_len : PySem.W.nsIn K mainGlobals "len" = some none)
    (z_isinstance : PySem.W.nsIn K mainGlobals "isinstance" = some none)
    (z_int : PySem.W.nsIn K mainGlobals "int" = some none)
    (z_abs : PySem.W.nsIn K mainGlobals "abs" = some none)
    (z_bool : PySem.W.nsIn K mainGlobals "bool" = some none)
    (z_range : PySem.W.nsIn K mainGlobals "range" = some none)
    (z_min : PySem.W.nsIn K mainGlobals "min" = some none)
    (z_sorted : PySem.W.nsIn K mainGlobals "sorted" = some none)
    (z_set : PySem.W.nsIn K mainGlobals "set" = some none)
    (z_max : PySem.W.nsIn K mainGlobals "max" = some none)
    (z_repr : PySem.W.nsIn K mainGlobals "repr" = some none)
    (z_tuple : PySem.W.nsIn K mainGlobals "tuple" = some none) :
    ∃ fd : FuncData, (∀ (s : Shared) (v : Value), BindsTo s fd ⟨[v], []⟩ [("_law_script", v)]) ∧ ∀ base : Heap, K.In base → base.Ns mainGlobals mg → FnG l.prog w K mg base 6 fa fd ["_law_script"] (spLaw K) := by
  have e := hfa.symm.trans (PySem.W.mg_of X G a16)
  cases e
  have F0 : FunD K "place_in" "place_in" (defArgs s_place_in) (defBody s_place_in) (defScope s_place_in) [] [] A0 (PySem.W.fnOf "place_in" "place_in" (defArgs s_place_in) (defBody s_place_in) (defScope s_place_in) .none kV0 dc0 pm0 an0 cd0 ct0) :=
    ⟨⟨oc0, od0, .none, kV0, dc0, pm0, an0, cd0, ct0, sl0, rfl, l0, c0, (.inl ⟨rfl, rfl⟩), .inl rfl⟩, k0⟩
  have F1 : FunD K "length_symbol" "length_symbol" (defArgs s_length_symbol) (defBody s_length_symbol) (defScope s_length_symbol) [] [] A1 (PySem.W.fnOf "length_symbol" "length_symbol" (defArgs s_length_symbol) (defBody s_length_symbol) (defScope s_length_symbol) .none kV1 dc1 pm1 an1 cd1 ct1) :=
    ⟨⟨oc1, od1, .none, kV1, dc1, pm1, an1, cd1, ct1, sl1, rfl, l1, c1, (.inl ⟨rfl, rfl⟩), .inl rfl⟩, k1⟩
  have F2 : FunD K "distance_symbol" "distance_symbol" (defArgs s_distance_symbol) (defBody s_distance_symbol) (defScope s_distance_symbol) [] [] A2 (PySem.W.fnOf "distance_symbol" "distance_symbol" (defArgs s_distance_symbol) (defBody s_distance_symbol) (defScope s_distance_symbol) .none kV2 dc2 pm2 an2 cd2 ct2) :=
    ⟨⟨oc2, od2, .none, kV2, dc2, pm2, an2, cd2, ct2, sl2, rfl, l2, c2, (.inl ⟨rfl, rfl⟩), .inl rfl⟩, k2⟩
  have F3 : FunD K "symbol_bits" "symbol_bits" (defArgs s_symbol_bits) (defBody s_symbol_bits) (defScope s_symbol_bits) [] [] A3 (PySem.W.fnOf "symbol_bits" "symbol_bits" (defArgs s_symbol_bits) (defBody s_symbol_bits) (defScope s_symbol_bits) .none kV3 dc3 pm3 an3 cd3 ct3) :=
    ⟨⟨oc3, od3, .none, kV3, dc3, pm3, an3, cd3, ct3, sl3, rfl, l3, c3, (.inl ⟨rfl, rfl⟩), .inl rfl⟩, k3⟩
  have F4 : FunD K "token_bits" "token_bits" (defArgs s_token_bits) (defBody s_token_bits) (defScope s_token_bits) [] [] A4 (PySem.W.fnOf "token_bits" "token_bits" (defArgs s_token_bits) (defBody s_token_bits) (defScope s_token_bits) .none kV4 dc4 pm4 an4 cd4 ct4) :=
    ⟨⟨oc4, od4, .none, kV4, dc4, pm4, an4, cd4, ct4, sl4, rfl, l4, c4, (.inl ⟨rfl, rfl⟩), .inl rfl⟩, k4⟩
  have F5 : FunD K "_law_bag" "_law_bag" (defArgs s__law_bag) (defBody s__law_bag) (defScope s__law_bag) [] [] A5 (PySem.W.fnOf "_law_bag" "_law_bag" (defArgs s__law_bag) (defBody s__law_bag) (defScope s__law_bag) .none kV5 dc5 pm5 an5 cd5 ct5) :=
    ⟨⟨oc5, od5, .none, kV5, dc5, pm5, an5, cd5, ct5, sl5, rfl, l5, c5, (.inl ⟨rfl, rfl⟩), .inl rfl⟩, k5⟩
  have F6 : FunD K "_law_take" "_law_take" (defArgs s__law_take) (defBody s__law_take) (defScope s__law_take) [] [] A6 (PySem.W.fnOf "_law_take" "_law_take" (defArgs s__law_take) (defBody s__law_take) (defScope s__law_take) .none kV6 dc6 pm6 an6 cd6 ct6) :=
    ⟨⟨oc6, od6, .none, kV6, dc6, pm6, an6, cd6, ct6, sl6, rfl, l6, c6, (.inl ⟨rfl, rfl⟩), .inl rfl⟩, k6⟩
  have F7 : FunD K "_law_one" "_law_one" (defArgs s__law_one) (defBody s__law_one) (defScope s__law_one) [] [] A7 (PySem.W.fnOf "_law_one" "_law_one" (defArgs s__law_one) (defBody s__law_one) (defScope s__law_one) .none kV7 dc7 pm7 an7 cd7 ct7) :=
    ⟨⟨oc7, od7, .none, kV7, dc7, pm7, an7, cd7, ct7, sl7, rfl, l7, c7, (.inl ⟨rfl, rfl⟩), .inl rfl⟩, k7⟩
  have F8 : FunD K "_law_whole" "_law_whole" (defArgs s__law_whole) (defBody s__law_whole) (defScope s__law_whole) [] [] A8 (PySem.W.fnOf "_law_whole" "_law_whole" (defArgs s__law_whole) (defBody s__law_whole) (defScope s__law_whole) .none kV8 dc8 pm8 an8 cd8 ct8) :=
    ⟨⟨oc8, od8, .none, kV8, dc8, pm8, an8, cd8, ct8, sl8, rfl, l8, c8, (.inl ⟨rfl, rfl⟩), .inl rfl⟩, k8⟩
  have F9 : FunD K "_law_drawn_data" "_law_drawn_data" (defArgs s__law_drawn_data) (defBody s__law_drawn_data) (defScope s__law_drawn_data) [] [] A9 (PySem.W.fnOf "_law_drawn_data" "_law_drawn_data" (defArgs s__law_drawn_data) (defBody s__law_drawn_data) (defScope s__law_drawn_data) .none kV9 dc9 pm9 an9 cd9 ct9) :=
    ⟨⟨oc9, od9, .none, kV9, dc9, pm9, an9, cd9, ct9, sl9, rfl, l9, c9, (.inl ⟨rfl, rfl⟩), .inl rfl⟩, k9⟩
  have F10 : FunD K "_law_token" "_law_token" (defArgs s__law_token) (defBody s__law_token) (defScope s__law_token) [] [] A10 (PySem.W.fnOf "_law_token" "_law_token" (defArgs s__law_token) (defBody s__law_token) (defScope s__law_token) .none kV10 dc10 pm10 an10 cd10 ct10) :=
    ⟨⟨oc10, od10, .none, kV10, dc10, pm10, an10, cd10, ct10, sl10, rfl, l10, c10, (.inl ⟨rfl, rfl⟩), .inl rfl⟩, k10⟩
  have F11 : FunD K "_law_symbol" "_law_symbol" (defArgs s__law_symbol) (defBody s__law_symbol) (defScope s__law_symbol) [] [] A11 (PySem.W.fnOf "_law_symbol" "_law_symbol" (defArgs s__law_symbol) (defBody s__law_symbol) (defScope s__law_symbol) .none kV11 dc11 pm11 an11 cd11 ct11) :=
    ⟨⟨oc11, od11, .none, kV11, dc11, pm11, an11, cd11, ct11, sl11, rfl, l11, c11, (.inl ⟨rfl, rfl⟩), .inl rfl⟩, k11⟩
  have F12 : FunD K "_law_size" "_law_size" (defArgs s__law_size) (defBody s__law_size) (defScope s__law_size) [] [] A12 (PySem.W.fnOf "_law_size" "_law_size" (defArgs s__law_size) (defBody s__law_size) (defScope s__law_size) .none kV12 dc12 pm12 an12 cd12 ct12) :=
    ⟨⟨oc12, od12, .none, kV12, dc12, pm12, an12, cd12, ct12, sl12, rfl, l12, c12, (.inl ⟨rfl, rfl⟩), .inl rfl⟩, k12⟩
  have F13 : FunD K "_law_token_bits" "_law_token_bits" (defArgs s__law_token_bits) (defBody s__law_token_bits) (defScope s__law_token_bits) [] [] A13 (PySem.W.fnOf "_law_token_bits" "_law_token_bits" (defArgs s__law_token_bits) (defBody s__law_token_bits) (defScope s__law_token_bits) .none kV13 dc13 pm13 an13 cd13 ct13) :=
    ⟨⟨oc13, od13, .none, kV13, dc13, pm13, an13, cd13, ct13, sl13, rfl, l13, c13, (.inl ⟨rfl, rfl⟩), .inl rfl⟩, k13⟩
  have F14 : FunD K "_law_split" "_law_split" (defArgs s__law_split) (defBody s__law_split) (defScope s__law_split) [] [] A14 (PySem.W.fnOf "_law_split" "_law_split" (defArgs s__law_split) (defBody s__law_split) (defScope s__law_split) .none kV14 dc14 pm14 an14 cd14 ct14) :=
    ⟨⟨oc14, od14, .none, kV14, dc14, pm14, an14, cd14, ct14, sl14, rfl, l14, c14, (.inl ⟨rfl, rfl⟩), .inl rfl⟩, k14⟩
  have F15 : FunD K "_law_trees" "_law_trees" (defArgs s__law_trees) (defBody s__law_trees) (defScope s__law_trees) [] [] A15 (PySem.W.fnOf "_law_trees" "_law_trees" (defArgs s__law_trees) (defBody s__law_trees) (defScope s__law_trees) .none kV15 dc15 pm15 an15 cd15 ct15) :=
    ⟨⟨oc15, od15, .none, kV15, dc15, pm15, an15, cd15, ct15, sl15, rfl, l15, c15, (.inl ⟨rfl, rfl⟩), .inl rfl⟩, k15⟩
  have F16 : FunD K "law" "law" (defArgs s_law) (defBody s_law) (defScope s_law) [] [] fa (PySem.W.fnOf "law" "law" (defArgs s_law) (defBody s_law) (defScope s_law) .none kV16 dc16 pm16 an16 cd16 ct16) :=
    ⟨⟨oc16, od16, .none, kV16, dc16, pm16, an16, cd16, ct16, sl16, rfl, l16, c16, (.inl ⟨rfl, rfl⟩), .inl rfl⟩, k16⟩
  have T : Txt K mg ⟨A0, (PySem.W.fnOf "place_in" "place_in" (defArgs s_place_in) (defBody s_place_in) (defScope s_place_in) .none kV0 dc0 pm0 an0 cd0 ct0),
      A1, (PySem.W.fnOf "length_symbol" "length_symbol" (defArgs s_length_symbol) (defBody s_length_symbol) (defScope s_length_symbol) .none kV1 dc1 pm1 an1 cd1 ct1),
      A2, (PySem.W.fnOf "distance_symbol" "distance_symbol" (defArgs s_distance_symbol) (defBody s_distance_symbol) (defScope s_distance_symbol) .none kV2 dc2 pm2 an2 cd2 ct2),
      A3, (PySem.W.fnOf "symbol_bits" "symbol_bits" (defArgs s_symbol_bits) (defBody s_symbol_bits) (defScope s_symbol_bits) .none kV3 dc3 pm3 an3 cd3 ct3),
      A4, (PySem.W.fnOf "token_bits" "token_bits" (defArgs s_token_bits) (defBody s_token_bits) (defScope s_token_bits) .none kV4 dc4 pm4 an4 cd4 ct4),
      A5, (PySem.W.fnOf "_law_bag" "_law_bag" (defArgs s__law_bag) (defBody s__law_bag) (defScope s__law_bag) .none kV5 dc5 pm5 an5 cd5 ct5),
      A6, (PySem.W.fnOf "_law_take" "_law_take" (defArgs s__law_take) (defBody s__law_take) (defScope s__law_take) .none kV6 dc6 pm6 an6 cd6 ct6),
      A7, (PySem.W.fnOf "_law_one" "_law_one" (defArgs s__law_one) (defBody s__law_one) (defScope s__law_one) .none kV7 dc7 pm7 an7 cd7 ct7),
      A8, (PySem.W.fnOf "_law_whole" "_law_whole" (defArgs s__law_whole) (defBody s__law_whole) (defScope s__law_whole) .none kV8 dc8 pm8 an8 cd8 ct8),
      A9, (PySem.W.fnOf "_law_drawn_data" "_law_drawn_data" (defArgs s__law_drawn_data) (defBody s__law_drawn_data) (defScope s__law_drawn_data) .none kV9 dc9 pm9 an9 cd9 ct9),
      A10, (PySem.W.fnOf "_law_token" "_law_token" (defArgs s__law_token) (defBody s__law_token) (defScope s__law_token) .none kV10 dc10 pm10 an10 cd10 ct10),
      A11, (PySem.W.fnOf "_law_symbol" "_law_symbol" (defArgs s__law_symbol) (defBody s__law_symbol) (defScope s__law_symbol) .none kV11 dc11 pm11 an11 cd11 ct11),
      A12, (PySem.W.fnOf "_law_size" "_law_size" (defArgs s__law_size) (defBody s__law_size) (defScope s__law_size) .none kV12 dc12 pm12 an12 cd12 ct12),
      A13, (PySem.W.fnOf "_law_token_bits" "_law_token_bits" (defArgs s__law_token_bits) (defBody s__law_token_bits) (defScope s__law_token_bits) .none kV13 dc13 pm13 an13 cd13 ct13),
      A14, (PySem.W.fnOf "_law_split" "_law_split" (defArgs s__law_split) (defBody s__law_split) (defScope s__law_split) .none kV14 dc14 pm14 an14 cd14 ct14),
      A15, (PySem.W.fnOf "_law_trees" "_law_trees" (defArgs s__law_trees) (defBody s__law_trees) (defScope s__law_trees) .none kV15 dc15 pm15 an15 cd15 ct15),
      fa, (PySem.W.fnOf "law" "law" (defArgs s_law) (defBody s_law) (defScope s_law) .none kV16 dc16 pm16 an16 cd16 ct16),
      KC0,
      tc1,
      KC2,
      KC3,
      KC4⟩ :=
   ⟨F0,
    F0.bindsN fun _ _ _ _ _ _ us hl => match us, hl with | [_, _], _ => rfl,
    PySem.W.mg_of X G a0,
    F1,
    F1.bindsN fun _ _ _ _ _ _ us hl => match us, hl with | [_], _ => rfl,
    PySem.W.mg_of X G a1,
    F2,
    F2.bindsN fun _ _ _ _ _ _ us hl => match us, hl with | [_], _ => rfl,
    PySem.W.mg_of X G a2,
    F3,
    F3.bindsN fun _ _ _ _ _ _ us hl => match us, hl with | [_, _], _ => rfl,
    PySem.W.mg_of X G a3,
    F4,
    F4.bindsN fun _ _ _ _ _ _ us hl => match us, hl with | [_, _, _], _ => rfl,
    PySem.W.mg_of X G a4,
    F5,
    F5.bindsN fun _ _ _ _ _ _ us hl => match us, hl with | [_, _], _ => rfl,
    PySem.W.mg_of X G a5,
    F6,
    F6.bindsN fun _ _ _ _ _ _ us hl => match us, hl with | [_, _], _ => rfl,
    PySem.W.mg_of X G a6,
    F7,
    F7.bindsN fun _ _ _ _ _ _ us hl => match us, hl with | [_, _], _ => rfl,
    PySem.W.mg_of X G a7,
    F8,
    F8.bindsN fun _ _ _ _ _ _ us hl => match us, hl with | [_], _ => rfl,
    PySem.W.mg_of X G a8,
    F9,
    F9.bindsN fun _ _ _ _ _ _ us hl => match us, hl with | [_, _], _ => rfl,
    PySem.W.mg_of X G a9,
    F10,
    F10.bindsN fun _ _ _ _ _ _ us hl => match us, hl with | [_, _], _ => rfl,
    PySem.W.mg_of X G a10,
    F11,
    F11.bindsN fun _ _ _ _ _ _ us hl => match us, hl with | [_, _, _, _, _], _ => rfl,
    PySem.W.mg_of X G a11,
    F12,
    F12.bindsN fun _ _ _ _ _ _ us hl => match us, hl with | [_, _], _ => rfl,
    PySem.W.mg_of X G a12,
    F13,
    F13.bindsN fun _ _ _ _ _ _ us hl => match us, hl with | [_, _, _], _ => rfl,
    PySem.W.mg_of X G a13,
    F14,
    F14.bindsN fun _ _ _ _ _ _ us hl => match us, hl with | [_, _, _], _ => rfl,
    PySem.W.mg_of X G a14,
    F15,
    F15.bindsN fun _ _ _ _ _ _ us hl => match us, hl with | [_, _], _ => rfl,
    PySem.W.mg_of X G a15,
    F16,
    F16.bindsN fun _ _ _ _ _ _ us hl => match us, hl with | [_], _ => rfl,
    PySem.W.mg_of X G a16,
    PySem.W.mg_of X G co0,
    fun H => .inr ⟨_, #[.int 3 kt0_0, .int 4 kt0_1, .int 5 kt0_2, .int 6 kt0_3, .int 7 kt0_4, .int 8 kt0_5, .int 9 kt0_6, .int 10 kt0_7, .int 11 kt0_8, .int 13 kt0_9, .int 15 kt0_10, .int 17 kt0_11, .int 19 kt0_12, .int 23 kt0_13, .int 27 kt0_14, .int 31 kt0_15, .int 35 kt0_16, .int 43 kt0_17, .int 51 kt0_18, .int 59 kt0_19, .int 67 kt0_20, .int 83 kt0_21, .int 99 kt0_22, .int 115 kt0_23, .int 131 kt0_24, .int 163 kt0_25, .int 195 kt0_26, .int 227 kt0_27, .int 258 kt0_28], kcn0, cl0, rfl, rfl, Nat.le_of_ble_eq_true rfl, (.cons ⟨_, rfl⟩ (.cons ⟨_, rfl⟩ (.cons ⟨_, rfl⟩ (.cons ⟨_, rfl⟩ (.cons ⟨_, rfl⟩ (.cons ⟨_, rfl⟩ (.cons ⟨_, rfl⟩ (.cons ⟨_, rfl⟩ (.cons ⟨_, rfl⟩ (.cons ⟨_, rfl⟩ (.cons ⟨_, rfl⟩ (.cons ⟨_, rfl⟩ (.cons ⟨_, rfl⟩ (.cons ⟨_, rfl⟩ (.cons ⟨_, rfl⟩ (.cons ⟨_, rfl⟩ (.cons ⟨_, rfl⟩ (.cons ⟨_, rfl⟩ (.cons ⟨_, rfl⟩ (.cons ⟨_, rfl⟩ (.cons ⟨_, rfl⟩ (.cons ⟨_, rfl⟩ (.cons ⟨_, rfl⟩ (.cons ⟨_, rfl⟩ (.cons ⟨_, rfl⟩ (.cons ⟨_, rfl⟩ (.cons ⟨_, rfl⟩ (.cons ⟨_, rfl⟩ (.cons ⟨_, rfl⟩ .nil)))))))))))))))))))))))))))))⟩,
    PySem.W.mg_of X G co1,
    PySem.W.mg_of X G co2,
    fun H => .inr ⟨_, #[.int 0 kt2_0, .int 0 kt2_1, .int 0 kt2_2, .int 0 kt2_3, .int 0 kt2_4, .int 0 kt2_5, .int 0 kt2_6, .int 0 kt2_7, .int 1 kt2_8, .int 1 kt2_9, .int 1 kt2_10, .int 1 kt2_11, .int 2 kt2_12, .int 2 kt2_13, .int 2 kt2_14, .int 2 kt2_15, .int 3 kt2_16, .int 3 kt2_17, .int 3 kt2_18, .int 3 kt2_19, .int 4 kt2_20, .int 4 kt2_21, .int 4 kt2_22, .int 4 kt2_23, .int 5 kt2_24, .int 5 kt2_25, .int 5 kt2_26, .int 5 kt2_27, .int 0 kt2_28], kcn2, cl2, rfl, rfl, Nat.le_of_ble_eq_true rfl, (.cons ⟨_, rfl⟩ (.cons ⟨_, rfl⟩ (.cons ⟨_, rfl⟩ (.cons ⟨_, rfl⟩ (.cons ⟨_, rfl⟩ (.cons ⟨_, rfl⟩ (.cons ⟨_, rfl⟩ (.cons ⟨_, rfl⟩ (.cons ⟨_, rfl⟩ (.cons ⟨_, rfl⟩ (.cons ⟨_, rfl⟩ (.cons ⟨_, rfl⟩ (.cons ⟨_, rfl⟩ (.cons ⟨_, rfl⟩ (.cons ⟨_, rfl⟩ (.cons ⟨_, rfl⟩ (.cons ⟨_, rfl⟩ (.cons ⟨_, rfl⟩ (.cons ⟨_, rfl⟩ (.cons ⟨_, rfl⟩ (.cons ⟨_, rfl⟩ (.cons ⟨_, rfl⟩ (.cons ⟨_, rfl⟩ (.cons ⟨_, rfl⟩ (.cons ⟨_, rfl⟩ (.cons ⟨_, rfl⟩ (.cons ⟨_, rfl⟩ (.cons ⟨_, rfl⟩ (.cons ⟨_, rfl⟩ .nil)))))))))))))))))))))))))))))⟩,
    PySem.W.mg_of X G co3,
    fun H => .inr ⟨_, #[.int 1 kt3_0, .int 2 kt3_1, .int 3 kt3_2, .int 4 kt3_3, .int 5 kt3_4, .int 7 kt3_5, .int 9 kt3_6, .int 13 kt3_7, .int 17 kt3_8, .int 25 kt3_9, .int 33 kt3_10, .int 49 kt3_11, .int 65 kt3_12, .int 97 kt3_13, .int 129 kt3_14, .int 193 kt3_15, .int 257 kt3_16, .int 385 kt3_17, .int 513 kt3_18, .int 769 kt3_19, .int 1025 kt3_20, .int 1537 kt3_21, .int 2049 kt3_22, .int 3073 kt3_23, .int 4097 kt3_24, .int 6145 kt3_25, .int 8193 kt3_26, .int 12289 kt3_27, .int 16385 kt3_28, .int 24577 kt3_29], kcn3, cl3, rfl, rfl, Nat.le_of_ble_eq_true rfl, (.cons ⟨_, rfl⟩ (.cons ⟨_, rfl⟩ (.cons ⟨_, rfl⟩ (.cons ⟨_, rfl⟩ (.cons ⟨_, rfl⟩ (.cons ⟨_, rfl⟩ (.cons ⟨_, rfl⟩ (.cons ⟨_, rfl⟩ (.cons ⟨_, rfl⟩ (.cons ⟨_, rfl⟩ (.cons ⟨_, rfl⟩ (.cons ⟨_, rfl⟩ (.cons ⟨_, rfl⟩ (.cons ⟨_, rfl⟩ (.cons ⟨_, rfl⟩ (.cons ⟨_, rfl⟩ (.cons ⟨_, rfl⟩ (.cons ⟨_, rfl⟩ (.cons ⟨_, rfl⟩ (.cons ⟨_, rfl⟩ (.cons ⟨_, rfl⟩ (.cons ⟨_, rfl⟩ (.cons ⟨_, rfl⟩ (.cons ⟨_, rfl⟩ (.cons ⟨_, rfl⟩ (.cons ⟨_, rfl⟩ (.cons ⟨_, rfl⟩ (.cons ⟨_, rfl⟩ (.cons ⟨_, rfl⟩ (.cons ⟨_, rfl⟩ .nil))))))))))))))))))))))))))))))⟩,
    PySem.W.mg_of X G co4,
    fun H => .inr ⟨_, #[.int 0 kt4_0, .int 0 kt4_1, .int 0 kt4_2, .int 0 kt4_3, .int 1 kt4_4, .int 1 kt4_5, .int 2 kt4_6, .int 2 kt4_7, .int 3 kt4_8, .int 3 kt4_9, .int 4 kt4_10, .int 4 kt4_11, .int 5 kt4_12, .int 5 kt4_13, .int 6 kt4_14, .int 6 kt4_15, .int 7 kt4_16, .int 7 kt4_17, .int 8 kt4_18, .int 8 kt4_19, .int 9 kt4_20, .int 9 kt4_21, .int 10 kt4_22, .int 10 kt4_23, .int 11 kt4_24, .int 11 kt4_25, .int 12 kt4_26, .int 12 kt4_27, .int 13 kt4_28, .int 13 kt4_29], kcn4, cl4, rfl, rfl, Nat.le_of_ble_eq_true rfl, (.cons ⟨_, rfl⟩ (.cons ⟨_, rfl⟩ (.cons ⟨_, rfl⟩ (.cons ⟨_, rfl⟩ (.cons ⟨_, rfl⟩ (.cons ⟨_, rfl⟩ (.cons ⟨_, rfl⟩ (.cons ⟨_, rfl⟩ (.cons ⟨_, rfl⟩ (.cons ⟨_, rfl⟩ (.cons ⟨_, rfl⟩ (.cons ⟨_, rfl⟩ (.cons ⟨_, rfl⟩ (.cons ⟨_, rfl⟩ (.cons ⟨_, rfl⟩ (.cons ⟨_, rfl⟩ (.cons ⟨_, rfl⟩ (.cons ⟨_, rfl⟩ (.cons ⟨_, rfl⟩ (.cons ⟨_, rfl⟩ (.cons ⟨_, rfl⟩ (.cons ⟨_, rfl⟩ (.cons ⟨_, rfl⟩ (.cons ⟨_, rfl⟩ (.cons ⟨_, rfl⟩ (.cons ⟨_, rfl⟩ (.cons ⟨_, rfl⟩ (.cons ⟨_, rfl⟩ (.cons ⟨_, rfl⟩ (.cons ⟨_, rfl⟩ .nil))))))))))))))))))))))))))))))⟩,
    PySem.W.mg_none_of X G z_len,
    PySem.W.mg_none_of X G z_isinstance,
    PySem.W.mg_none_of X G z_int,
    PySem.W.mg_none_of X G z_abs,
    PySem.W.mg_none_of X G z_bool,
    PySem.W.mg_none_of X G z_range,
    PySem.W.mg_none_of X G z_min,
    PySem.W.mg_none_of X G z_sorted,
    PySem.W.mg_none_of X G z_set,
    PySem.W.mg_none_of X G z_max,
    PySem.W.mg_none_of X G z_repr,
    PySem.W.mg_none_of X G z_tuple⟩
  exact ⟨_, fun s v => F16.bindsA (ps := ["_law_script"]) (fun _ _ _ _ _ _ us hl => match us, hl with | [_], _ => rfl) s [v] rfl, fun base _ _ => ok_law T⟩
theorem walk {l : PySem.W.OpenLaw} {q : Program} {loose : List Str} {XP : (Str → Option Value) → Heap → Prop} {YP : World → Heap → Prop} {d : DefRec} {K : Params → PySem.W.Frag}
    (hn : l.most = some 63) (hdf : d.params.defaults = []) (hY : ∀ (w : World) (h : Heap), YP w h → (K w.params).In h)
    (F : ∀ (w : World) (mg : Str → Option Value) (fa : Addr) (h : Heap), (K w.params).In h → h.Ns mainGlobals mg → mg d.name = some (.ref fa) →
      ∃ fd : FuncData, (∀ (s : Shared) (u : Value), BindsTo s fd ⟨[u], []⟩ [("_law_script", u)]) ∧
        ∀ base : Heap, (K w.params).In base → base.Ns mainGlobals mg → FnG l.prog w (K w.params) mg base 6 fa fd ["_law_script"] (spLaw (K w.params))) :
    PySem.W.WalkO q loose XP YP l.row.toRowW d [] (fun f vs => PySem.call f vs) :=
  walk_G (n := 63) (k := 6) (x := "_law_script") (sp := fun w => spLaw (K w.params)) hn (by decide) hdf ⟨rfl, by decide, by decide⟩ hY F
    (fun _ _ a ns hl _ hS => ⟨a, ns, rfl, hS, hl, fun _ => rfl⟩)
end Z
open PySem PySem.W PyProof.Rows
set_option maxRecDepth 100000 in
set_option maxHeartbeats 0 in
theorem PySem.Challenge.cw_deflatehall_k20_bits_of_tokens_holds : PySem.Challenge.rw_deflatehall_k20_bits_of_tokens.Holds := by
  w_on; o_law; k_head; (case hw => w_witness2)
  k_fill
  refine Z.walk (l := PySem.Challenge.rw_deflatehall_k20_bits_of_tokens) rfl rfl (fun w h Y => PySem.W.kIn_of Y) ?F
  case F =>
    intro w mg fa h KX G hmg
    refine' Z.all_mk KX G hmg ?a0 ?l0 ?c0 ?k0 ?a1 ?l1 ?c1 ?k1 ?a2 ?l2 ?c2 ?k2 ?a3 ?l3 ?c3 ?k3 ?a4 ?l4 ?c4 ?k4 ?a5 ?l5 ?c5 ?k5 ?a6 ?l6 ?c6 ?k6 ?a7 ?l7 ?c7 ?k7 ?a8 ?l8 ?c8 ?k8 ?a9 ?l9 ?c9 ?k9 ?a10 ?l10 ?c10 ?k10 ?a11 ?l11 ?c11 ?k11 ?a12 ?l12 ?c12 ?k12 ?a13 ?l13 ?c13 ?k13 ?a14 ?l14 ?c14 ?k14 ?a15 ?l15 ?c15 ?k15 ?a16 ?l16 ?c16 ?k16 ?co0 ?cl0 ?co1 ?co2 ?cl2 ?co3 ?cl3 ?co4 ?cl4 ?z_len ?z_isinstance ?z_int ?z_abs ?z_bool ?z_range ?z_min ?z_sorted ?z_set ?z_max ?z_repr ?z_tuple
    (case a0 => k_is)
    (case l0 => k_is)
    (case c0 => k_is)
    (case k0 => k_is)
    (case a1 => k_is)
    (case l1 => k_is)
    (case c1 => k_is)
    (case k1 => k_is)
    (case a2 => k_is)
    (case l2 => k_is)
    (case c2 => k_is)
    (case k2 => k_is)
    (case a3 => k_is)
    (case l3 => k_is)
    (case c3 => k_is)
    (case k3 => k_is)
    (case a4 => k_is)
    (case l4 => k_is)
    (case c4 => k_is)
    (case k4 => k_is)
    (case a5 => k_is)
    (case l5 => k_is)
    (case c5 => k_is)
    (case k5 => k_is)
    (case a6 => k_is)
    (case l6 => k_is)
    (case c6 => k_is)
    (case k6 => k_is)
    (case a7 => k_is)
    (case l7 => k_is)
    (case c7 => k_is)
    (case k7 => k_is)
    (case a8 => k_is)
    (case l8 => k_is)
    (case c8 => k_is)
    (case k8 => k_is)
    (case a9 => k_is)
    (case l9 => k_is)
    (case c9 => k_is)
    (case k9 => k_is)
    (case a10 => k_is)
    (case l10 => k_is)
    (case c10 => k_is)
    (case k10 => k_is)
    (case a11 => k_is)
    (case l11 => k_is)
    (case c11 => k_is)
    (case k11 => k_is)
    (case a12 => k_is)
    (case l12 => k_is)
    (case c12 => k_is)
    (case k12 => k_is)
    (case a13 => k_is)
    (case l13 => k_is)
    (case c13 => k_is)
    (case k13 => k_is)
    (case a14 => k_is)
    (case l14 => k_is)
    (case c14 => k_is)
    (case k14 => k_is)
    (case a15 => k_is)
    (case l15 => k_is)
    (case c15 => k_is)
    (case k15 => k_is)
    (case a16 => k_is)
    (case l16 => k_is)
    (case c16 => k_is)
    (case k16 => k_is)
    (case co0 => k_is)
    (case cl0 => k_is)
    (case co1 => k_is)
    (case co2 => k_is)
    (case cl2 => k_is)
    (case co3 => k_is)
    (case cl3 => k_is)
    (case co4 => k_is)
    (case cl4 => k_is)
    (case z_len => k_is)
    (case z_isinstance => k_is)
    (case z_int => k_is)
    (case z_abs => k_is)
    (case z_bool => k_is)
    (case z_range => k_is)
    (case z_min => k_is)
    (case z_sorted => k_is)
    (case z_set => k_is)
    (case z_max => k_is)
    (case z_repr => k_is)
    (case z_tuple => k_is)
