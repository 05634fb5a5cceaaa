import PyProof.Rows.All
import Wide.All
import OpenK.AllK
import Wide.FinOn
import HandS.ForMost
import HandS.Defaults
import HandS.IsInst
import HandS.TupAny
import HandS.Codes
import HandS.Wide
import HandS.Walk
import HandS.More
import KE.GoesMore
import HandS.ExcInit
import HandS.ExcField
import HandS.ExcIs
import HandS.WordsExc
import HandS.ExcOwn
import KE.KExcInit
import HandS.ClsMeth
import HandS.Star
import PySem.Challenge.RW_deflatehall_k03_fields
set_option Elab.async false
set_option linter.all false
set_option maxRecDepth 100000
set_option maxHeartbeats 4000000
/-! Ghost heaps over the hand layer: what stands for good (G), what may change (W). -/
namespace Z
open PySem PySem.Spec PyProof.Rows L2

/-- it is o -/
def Is (o : HO) : HO → Prop := fun x => x = o
/-- what may change: an address, and what holds of the object there -/
abbrev Wl := List (Addr × (HO → Prop))
structure Wd (G : Hp) (W : Wl) (H : Hp) : Prop where
  ex : Same G H
  own : ∀ p ∈ W, G p.1 = none ∧ ∃ o, H p.1 = some o ∧ p.2 o
  nd : (W.map (·.1)).Nodup

theorem same_upd {H : Hp} {p : Addr} {o : HO} (h : H p = none) : Same H (upd H p o) := fun a u e => by
  rw [upd_ne (ne_of_none e h)]
  exact e
section
variable {G G' H H' : Hp} {W W1 W2 : Wl} {a p : Addr} {o : HO} {P P' : HO → Prop}
theorem Wd.free (w : Wd G W H) (h : H p = none) : G p = none := w.ex.free h
theorem Wd.ext (w : Wd G W H) (e : Same H H') : Wd G W H' :=
  ⟨w.ex.trans e, fun q hq => ⟨(w.own q hq).1, let ⟨o, h1, h2⟩ := (w.own q hq).2; ⟨o, e _ _ h1, h2⟩⟩, w.nd⟩
theorem Wd.at (w : Wd G W H) (h : G a = some o) : H a = some o := w.ex _ _ h
theorem Wd.neOwn (w : Wd G W H) (hp : H p = none) {q : Addr × (HO → Prop)} (hq : q ∈ W) : q.1 ≠ p := by
  obtain ⟨_, o, h, _⟩ := w.own q hq
  exact ne_of_none h hp
/-- a new object that stands for good -/
theorem Wd.new (w : Wd G W H) (hp : H p = none) : Wd (upd G p o) W (upd H p o) := by
  refine ⟨fun b u e => ?_, fun q hq => ?_, w.nd⟩
  · by_cases hb : b = p
    · subst hb
      rw [upd_same] at e ⊢
      exact e
    · rw [upd_ne hb] at e ⊢
      exact w.ex _ _ e
  · have hn := w.neOwn hp hq
    rw [upd_ne hn, upd_ne hn]
    exact w.own q hq
/-- a new object that may change -/
theorem Wd.newM (w : Wd G W H) (hp : H p = none) (h : P o) : Wd G ((p, P) :: W) (upd H p o) := by
  refine ⟨w.ex.trans (same_upd hp), fun q hq => ?_, ?_⟩
  · rcases List.mem_cons.mp hq with rfl | hq
    · exact ⟨w.free hp, o, upd_same, h⟩
    · have hn := w.neOwn hp hq
      rw [upd_ne hn]
      exact w.own q hq
  · rw [List.map_cons, List.nodup_cons]
    refine ⟨fun hm => ?_, w.nd⟩
    obtain ⟨q, hq, e⟩ := List.mem_map.mp hm
    exact w.neOwn hp hq e
theorem mem_mid {α : Type} {A B : List α} {x : α} : x ∈ A ++ x :: B := List.mem_append_right _ List.mem_cons_self
/-- the object at a changes -/
theorem Wd.put (w : Wd G (W1 ++ (a, P) :: W2) H) (h : P' o) : Wd G (W1 ++ (a, P') :: W2) (upd H a o) := by
  have h0 := w.own (a, P) mem_mid
  have nd : ((W1 ++ (a, P) :: W2).map (·.1)).Nodup := w.nd
  rw [List.map_append, List.map_cons, List.nodup_append] at nd
  obtain ⟨n1, n2, n3⟩ := nd
  rw [List.nodup_cons] at n2
  refine ⟨fun b u e => ?_, fun q hq => ?_, ?_⟩
  · have hb : b ≠ a := ne_of_none e h0.1
    rw [upd_ne hb]
    exact w.ex _ _ e
  · rcases List.mem_append.mp hq with hq | hq
    · have hn : q.1 ≠ a := fun z => n3 _ (List.mem_map.mpr ⟨q, hq, z⟩) _ List.mem_cons_self rfl
      rw [upd_ne hn]
      exact w.own q (List.mem_append_left _ hq)
    · rcases List.mem_cons.mp hq with rfl | hq
      · exact ⟨h0.1, o, upd_same, h⟩
      · have hn : q.1 ≠ a := fun z => n2.1 (List.mem_map.mpr ⟨q, hq, z⟩)
        rw [upd_ne hn]
        exact w.own q (List.mem_append_right _ (List.mem_cons_of_mem _ hq))
  · rw [List.map_append, List.map_cons, List.nodup_append]
    exact ⟨n1, List.nodup_cons.mpr n2, n3⟩
/-- what holds there always is kept -/
theorem Wd.put' (w : Wd G W H) (hm : (a, P) ∈ W) (h : P o) : Wd G W (upd H a o) := by
  obtain ⟨A, B, rfl⟩ := List.append_of_mem hm
  exact w.put h
theorem Wd.putI (w : Wd G (W1 ++ (a, P) :: W2) H) : Wd G (W1 ++ (a, Is o) :: W2) (upd H a o) := w.put rfl
/-- the first one changes -/
theorem Wd.put1 (w : Wd G ((a, P) :: W) H) : Wd G ((a, Is o) :: W) (upd H a o) := Wd.putI (W1 := []) w
theorem Wd.get (w : Wd G W H) (hm : (a, P) ∈ W) : ∃ o, H a = some o ∧ P o := (w.own _ hm).2
theorem Wd.drop (w : Wd G (W1 ++ (a, P) :: W2) H) : Wd G (W1 ++ W2) H := by
  refine ⟨w.ex, fun q hq => w.own q ?_, ?_⟩
  · rcases List.mem_append.mp hq with hq | hq
    · exact List.mem_append_left _ hq
    · exact List.mem_append_right _ (List.mem_cons_of_mem _ hq)
  · have nd := w.nd
    rw [List.map_append, List.map_cons] at nd
    rw [List.map_append]
    exact nd.sublist (List.Sublist.append_left (List.sublist_cons_self _ _) _)
theorem Wd.drop1 (w : Wd G ((a, P) :: W) H) : Wd G W H := Wd.drop (W1 := []) w
/-- what does not change any more stands for good -/
theorem Wd.freeze (w : Wd G (W1 ++ (a, P) :: W2) H) : ∃ o, P o ∧ H a = some o ∧ Same G (upd G a o) ∧ Wd (upd G a o) (W1 ++ W2) H := by
  obtain ⟨g, o, h, ho⟩ := w.own (a, P) mem_mid
  have nd : ((W1 ++ (a, P) :: W2).map (·.1)).Nodup := w.nd
  rw [List.map_append, List.map_cons, List.nodup_append] at nd
  obtain ⟨n1, n2, n3⟩ := nd
  rw [List.nodup_cons] at n2
  refine ⟨o, ho, h, same_upd g, fun b u e => ?_, fun q hq => ?_, w.drop.nd⟩
  · by_cases hb : b = a
    · subst hb
      rw [upd_same] at e
      cases e
      exact h
    · rw [upd_ne hb] at e
      exact w.ex _ _ e
  · have hn : q.1 ≠ a := by
      rcases List.mem_append.mp hq with hq | hq
      · exact fun z => n3 _ (List.mem_map.mpr ⟨q, hq, z⟩) _ List.mem_cons_self rfl
      · exact fun z => n2.1 (List.mem_map.mpr ⟨q, hq, z⟩)
    rw [upd_ne hn]
    refine w.own q ?_
    rcases List.mem_append.mp hq with hq | hq
    · exact List.mem_append_left _ hq
    · exact List.mem_append_right _ (List.mem_cons_of_mem _ hq)
theorem Wd.freeze1 (w : Wd G ((a, P) :: W) H) : ∃ o, P o ∧ H a = some o ∧ Same G (upd G a o) ∧ Wd (upd G a o) W H := Wd.freeze (W1 := []) w
theorem Wd.imp (w : Wd G (W1 ++ (a, P) :: W2) H) (h : ∀ o, P o → P' o) : Wd G (W1 ++ (a, P') :: W2) H := by
  have h0 := w.own (a, P) mem_mid
  refine ⟨w.ex, fun q hq => ?_, ?_⟩
  · rcases List.mem_append.mp hq with hq | hq
    · exact w.own q (List.mem_append_left _ hq)
    · rcases List.mem_cons.mp hq with rfl | hq
      · obtain ⟨g, o, e, ho⟩ := h0
        exact ⟨g, o, e, h _ ho⟩
      · exact w.own q (List.mem_append_right _ (List.mem_cons_of_mem _ hq))
  · have nd := w.nd
    rw [List.map_append, List.map_cons] at nd ⊢
    exact nd
theorem Wd.perm {V' : Wl} (w : Wd G W H) (h : W.Perm V') : Wd G V' H :=
  ⟨w.ex, fun q hq => w.own q (h.mem_iff.mpr hq), (h.map _).nodup_iff.mp w.nd⟩
end

/-! ### data -/
section
variable {K : PySem.W.Frag} {G G' : Hp}
theorem seqT {a : Addr} {xs : List V} (e : Same G G') (h : SqT K G a xs) : SqT K G' a xs := by
  rcases h with (h | ⟨o, h⟩) | h
  · exact .inl (.inl (e _ _ h))
  · exact .inl (.inr ⟨o, e _ _ h⟩)
  · exact .inr h
mutual
theorem dmono (e : Same G G') : ∀ {d : PyData} {v : V}, Dp K G v d → Dp K G' v d
  | _, _, .non => .non
  | _, _, .bl b => .bl b
  | _, _, .int i => .int i
  | _, _, .str x => .str x
  | _, _, .lst h r => .lst (e.seq h) (dmonoAll e r)
  | _, _, .tup h r => .tup (seqT e h) (dmonoAll e r)
theorem dmonoAll (e : Same G G') : ∀ {ds : List PyData} {vs : List V}, DpAll K G vs ds → DpAll K G' vs ds
  | _, _, .nil => .nil
  | _, _, .cons h r => .cons (dmono e h) (dmonoAll e r)
end
end

/-! ### how arguments bind -/
theorem bAll {K : PySem.W.Frag} {fd : FuncData} {ps : List Str} (h : ∃ ds, Vals ([] : List V) ds ∧ Binds K fd ps ds) : Binds K fd ps [] := by
  obtain ⟨ds, r, b⟩ := h
  cases r
  exact b
theorem valsGet {vs : List V} {us : List Value} (r : Vals vs us) (i : Nat) : L2.RelV (vs.getD i .non) (us.getD i .none) := by
  induction r generalizing i with
  | nil => exact rfl
  | cons h t ih =>
    cases i with
    | zero => simpa using h
    | succ i => simpa using ih i
section
variable {K : PySem.W.Frag} {x qual : Str} {params : Arguments} {body : List Stmt} {scope : Scope} {dvs : List V} {f : Addr} {fd : FuncData} {ps ks : List Str} {n : Nat}
theorem kbnN (F : FunD K x qual params body scope [] [] f fd) (g : List Value → List Value → List Value) {gV : List V → List V → List V}
    (rel : ∀ {vs : List V} {us : List Value} {zs : List V} {ws : List Value}, Vals vs us → Vals zs ws → Vals (gV vs zs) (g us ws))
    (h : ∀ (kV doc pm : Value) (an : Option Addr) (cdv ct : Value) (us ws : List Value), us.length = n → ws.length = ks.length →
      bindArgs (PySem.W.fnOf x qual params body scope .none kV doc pm an cdv ct) ⟨us, ks.zip ws⟩ = pure (ps.zip (g us ws))) : KBn K fd ps n ks g gV := by
  obtain ⟨oc, od, dV, kV, doc, pm, an, cdv, ct, osl, rfl, lk, hcd, hD, hK⟩ := F.ex
  rcases hD with ⟨_, rfl⟩ | ⟨e, _⟩
  · exact ⟨fun s us ws _ l1 l2 => .of_eq (h kV doc pm an cdv ct us ws l1 l2), rel⟩
  · exact absurd rfl e
theorem kbnD (F : FunD K x qual params body scope dvs [] f fd) (hd : dvs ≠ []) (g : List Value → List Value → List Value → List Value) {gV : List V → List V → List V}
    (rel : ∀ {vs : List V} {us : List Value} {its : List Value} {zs : List V} {ws : List Value}, Vals vs us → Vals dvs its → Vals zs ws → Vals (gV vs zs) (g us its ws))
    (h : ∀ (T : Addr) (kV doc pm : Value) (an : Option Addr) (cdv ct : Value) (us its ws : List Value), us.length = n → its.length = dvs.length → ws.length = ks.length →
      ∃ k, bindArgs (PySem.W.fnOf x qual params body scope (.ref T) kV doc pm an cdv ct) ⟨us, ks.zip ws⟩ = seqItems? (.ref T) >>= k ∧ k (some its.toArray) = pure (ps.zip (g us its ws))) : ∃ g', KBn K fd ps n ks g' gV := by
  obtain ⟨oc, od, dV, kV, doc, pm, an, cdv, ct, osl, rfl, lk, hcd, hD, hK⟩ := F.ex
  rcases hD with ⟨e, _⟩ | ⟨_, T, o, its, m, rfl, lT, oT, rT⟩
  · exact absurd e hd
  · refine ⟨fun us ws => g us its ws, fun s us ws X l1 l2 => ?_, fun r1 r3 => rel r1 rT r3⟩
    obtain ⟨k, e1, e2⟩ := h T kV doc pm an cdv ct us its ws l1 rT.length.symm l2
    refine BindsTo.of_looks fun M => ?_
    rw [e1]
    exact looks_items X lT oT (.of_pure e2)
end
section
variable {X : Cx} {CX : CXT} {k n : Nat} {f : Addr} {fd : FuncData} {ps ks : List Str} {sp : Sp} {E : XK} {x : Str} {p pos : Pos} {kws : List Keyword} {tk : TA} {g : List Value → List Value → List Value} {gV : List V → List V → List V}
/-- f(k = v, ..): keywords alone -/
theorem pe_callN0 (F : FnOk X.prog X.w X.K X.mg X.base CX k f fd ps sp) (hr : Room k X.A) (hg : Gl X x) (hm : X.mg x = some (.ref f)) (hk : PySem.W.keepIn X.K (.ref f) = true) (hb : KBn X.K fd ps 0 ks g gV) (hx : Passes CX X E)
    (hkw : PK X kws tk) (hall : (backToKw pos (keywordEach kws X.env)).all (·.1.isSome) = true := by rfl) (hks : (backToKw pos (keywordEach kws X.env)).filterMap (·.1) = ks := by rfl)
    (hdb : (x == ("__debug__" : Str)) = false := by decide) (hpl : ((backTo pos (starEach [] X.env)).any (·.1) || (backToKw pos (keywordEach kws X.env)).any (·.1.isNone)) = false := by rfl) :
    PE X (.Call (.Name x p) [] kws pos) (tCallN 0 ks.length sp gV E tNil tk) := by
  refine ⟨fun pins s σ H Q I h => wpAny_Call_Name_kw (ld_glob I hg hm ?_ hdb)⟩
  refine PySem.W.callWith_KW0 (h₀ := X.base) I.ok.mod.kin hk hall (thn (hkw.run pos pins _ σ H _ (I.tok _) h) fun ws s2 ⟨zs, H2, I2, rz, l1, l2, q2⟩ => ⟨I2.kIn, ?_⟩) hpl
  rw [hks]
  exact run_fnN (us := []) (vs := []) F hr hb hx I2 .nil rz rfl l2 q2
end
section
variable {X : Cx}
def CPowW (i j : Int) : Prop := 0 ≤ j ∧ (Builtin.Int.intBits i : Int) * j ≤ 2 ^ 27
theorem op_powW : OpR X (binaryOp .Pow) (rI CPowW fun i j => .int (i ^ j.toNat)) := opI fun _ _ _ _ _ _ _ hc q => PyProof.Rows.pow_int hc.1 hc.2 q
end

/-! ### readings, step by step (what is asked, from the left) -/
section
variable {K : PySem.W.Frag} {σ : L2.St} {H : Hp} {Q : VK} {D : Ends} {i : Nat} {v x y : V} {ta tb te : TE} {t u : TS} {tt tu : TT} {QT : Bool → Hp → Prop} {QA : List V → Hp → Prop} {QS nx bk ct : L2.St → Hp → Prop} {rt : VK} {r : R2} {tr : TA} {xs : List V}
theorem st_var (h : σ[i]? = some (some v)) (q : Q v H) : tVar i σ H Q := ⟨v, h, q⟩
theorem st_c (q : Q v H) : tC v σ H Q := q
theorem st_op (h : ta σ H fun x H1 => tb σ H1 fun y H2 => r x y H2 Q) : tOp r ta tb σ H Q := h
theorem st_un {r : V → Hp → VK → Prop} (h : ta σ H fun x H1 => r x H1 Q) : tUn r ta σ H Q := h
theorem st_i0 {g : Int → Int → V} {a b : Int} (q : Q (g a b) H) : rI0 g (.int a) (.int b) H Q := ⟨a, b, rfl, rfl, q⟩
theorem st_i {C : Int → Int → Prop} {g : Int → Int → V} {a b : Int} (c : C a b) (q : Q (g a b) H) : rI C g (.int a) (.int b) H Q := ⟨a, b, rfl, rfl, c, q⟩
theorem st_u {g : Int → V} {a : Int} (q : Q (g a) H) : rU g (.int a) H Q := ⟨a, rfl, q⟩
theorem st_eq (h : scal x y = true) (q : Q (.bl (decide (x = y))) H) : rEq x y H Q := ⟨h, q⟩
theorem st_ne (h : scal x y = true) (q : Q (.bl (!decide (x = y))) H) : rNe x y H Q := ⟨h, q⟩
theorem st_test (h : te σ H fun x H1 => ∃ k, x = .bl k ∧ QT k H1) : tTest te σ H QT := h
theorem st_tB (h : te σ H fun x H1 => ∃ k, x = .bl k ∧ QT k H1) : tB te σ H QT := h
theorem st_bl {b : Bool} {P : Bool → Prop} (q : P b) : ∃ k, V.bl b = .bl k ∧ P k := ⟨b, rfl, q⟩
theorem st_not (h : tt σ H fun c H1 => QT (!c) H1) : tNot tt σ H QT := h
theorem st_and (h : tt σ H fun c H1 => if c = true then tu σ H1 QT else QT false H1) : tAnd tt tu σ H QT := h
theorem st_or (h : tt σ H fun c H1 => if c = true then QT true H1 else tu σ H1 QT) : tOr tt tu σ H QT := h
theorem st_andV (h : ta σ H fun x H1 => ∃ c, x = .bl c ∧ if c = true then tb σ H1 Q else Q (.bl false) H1) : tAndV ta tb σ H Q := h
theorem st_orV (h : ta σ H fun x H1 => ∃ c, x = .bl c ∧ if c = true then Q (.bl true) H1 else tb σ H1 Q) : tOrV ta tb σ H Q := h
theorem st_notV (h : ta σ H fun x H1 => ∃ c, x = .bl c ∧ Q (.bl (!c)) H1) : tNotV ta σ H Q := h
theorem st_ifE (h : tt σ H fun c H1 => if c = true then ta σ H1 Q else tb σ H1 Q) : tIf tt ta tb σ H Q := h
theorem st_nil (q : QA [] H) : tNil σ H QA := q
theorem st_cons (h : te σ H fun x H1 => tr σ H1 fun xs H2 => QA (x :: xs) H2) : tCons te tr σ H QA := h
theorem st_cb {r : List V → Hp → VK → Prop} (h : tr σ H fun vs H1 => r vs H1 Q) : tCB r tr σ H Q := h
theorem st_seq (h : t ⟨u ⟨nx, rt, bk, ct⟩, rt, bk, ct⟩ σ H) : tSeq t u ⟨nx, rt, bk, ct⟩ σ H := h
theorem st_next (q : nx σ H) : tNext ⟨nx, rt, bk, ct⟩ σ H := q
theorem st_brk (q : bk σ H) : tBreak ⟨nx, rt, bk, ct⟩ σ H := q
theorem st_cont (q : ct σ H) : tCont ⟨nx, rt, bk, ct⟩ σ H := q
theorem st_drop (h : te σ H fun _ H1 => nx σ H1) : tDrop te ⟨nx, rt, bk, ct⟩ σ H := h
theorem st_ret (h : te σ H rt) : tRet te ⟨nx, rt, bk, ct⟩ σ H := h
theorem st_retN (h : rt .non H) : tRetN ⟨nx, rt, bk, ct⟩ σ H := h
theorem st_if (h : tt σ H fun b H1 => if b = true then t ⟨nx, rt, bk, ct⟩ σ H1 else u ⟨nx, rt, bk, ct⟩ σ H1) : tIfS tt t u ⟨nx, rt, bk, ct⟩ σ H := h
theorem st_asg {g : TG} (h : te σ H fun x H1 => g x σ H1 nx) : tAsg te g ⟨nx, rt, bk, ct⟩ σ H := h
theorem st_gname (q : QS (σ.set i (some v)) H) : gName i v σ H QS := q
theorem st_par {j : Nat} (h : tr σ H fun vs H1 => ∃ v w, vs = [v, w] ∧ nx ((σ.set i (some v)).set j (some w)) H1) : tPar i j tr ⟨nx, rt, bk, ct⟩ σ H := h
theorem st_two {w : V} {P : V → V → Prop} (q : P v w) : ∃ v' w', [v, w] = [v', w'] ∧ P v' w' := ⟨v, w, rfl, q⟩
theorem st_call {sp : Sp} {dvs : List V} {E : XK} (h : tr σ H fun vs H1 => sp (vs ++ dvs) H1 Q E) : tCall sp dvs E tr σ H Q := h
theorem st_callN {n m : Nat} {sp : Sp} {gV : List V → List V → List V} {E : XK} {tk : TA} (h : tr σ H fun vs H1 => tk σ H1 fun zs H2 => vs.length = n ∧ zs.length = m ∧ sp (gV vs zs) H2 Q E) : tCallN n m sp gV E tr tk σ H Q := h
/-- a new list, a new tuple at a free place -/
def NewO (o : HO) (H : Hp) (Q : VK) : Prop := ∀ p, H p = none → Q (.ref p) (upd H p o)
theorem st_lst (h : tr σ H fun xs H1 => xs.length ≤ sizeLine ∧ NewO (.lst xs) H1 Q) : tLst tr σ H Q := h
theorem st_tup (h : tr σ H fun xs H1 => xs.length ≤ sizeLine ∧ NewO (.tup xs) H1 Q) : tTup tr σ H Q := h
theorem small {n : Nat} (h : n ≤ 1000000) : n ≤ sizeLine := Nat.le_trans h (by decide)
theorem small' {n : Nat} (h : n ≤ 1000000) : n < sizeLine := Nat.lt_of_le_of_lt h (by decide)
/-- it stands for good -/
theorem NewO.good {o : HO} {G : Hp} {W : Wl} (w : Wd G W H) (k : ∀ p G' H', Same G G' → Wd G' W H' → G' p = some o → Q (.ref p) H') : NewO o H Q := fun p hp =>
  k p (upd G p o) (upd H p o) (same_upd (w.free hp)) (w.new hp) upd_same
/-- it may change -/
theorem NewO.own {o : HO} {G : Hp} {W : Wl} (w : Wd G W H) (k : ∀ p H', Wd G ((p, Is o) :: W) H' → Q (.ref p) H') : NewO o H Q := fun p hp => k p (upd H p o) (w.newM hp rfl)
end

/-! ### a def that lets nothing out -/
section
variable {P : Program} {w : World} {K : PySem.W.Frag} {mg : Str → Option Value} {base : Heap} {x qual : Str} {params : Arguments} {body : List Stmt} {scope : Scope} {dvs : List V} {kws : List (Str × V)} {f : Addr} {fd : FuncData}
theorem okD {N ps : List Str} {k : Nat} {sp : Sp} (F : FunD K x qual params body scope dvs kws f fd) (S : FnScope N ps scope) (len : ∀ vs H Q E, sp vs H Q E → vs.length = ps.length)
    (hb : ∀ (cdv : Value) (A : Around) (outer : List Env) (s : Shared) (H : Hp) (vs : List V) (Q : VK) (E : XK), Room k (A.deeper (envOfC qual scope s.heap.objs.size f cdv)) → sp vs H Q E →
      ∃ t, PSs (cxOf CX0 P w K mg base N qual scope f cdv A outer s H E).nox body t ∧ t { nx := fun _ H' => Q .non H', rt := Q } (start N vs) H) : FnOk P w K mg base CX0 (k + 1) f fd ps sp :=
  F.ok S len fun cdv A outer s H vs Q E hr h => let ⟨t, a, q⟩ := hb cdv A outer s H vs Q E hr h; ⟨t, a.nox, q⟩
end
/-! ### loops -/
def LoopQ (J : It) (g : TG) (tb : TS) (nx : L2.St → Hp → Prop) (rt : VK) (σ : L2.St) (H : Hp) : Prop := ∃ W : Nat → Nat → L2.St → Hp → Prop, (∃ m, W 0 m σ H) ∧ ∀ i m σ H, W i m σ H →
  (J.stop i H ∧ nx σ H) ∨ (J.go i H ∧ ∃ N : L2.St → Hp → Prop, (∀ σ' H', N σ' H' → ∃ m', m' < m ∧ W (i + 1) m' σ' H') ∧ ∀ x H', J.yld i H x H' → g x σ H' fun σ2 H2 => tb ⟨N, rt, nx, N⟩ σ2 H2)
/-- what holds between two turns, over a G that grows -/
def Btw (I : Nat → L2.St → Hp → Wl → Prop) (G : Hp) (i : Nat) : L2.St → Hp → Prop := fun σ H => ∃ G' W, Same G G' ∧ Wd G' W H ∧ I i σ G' W
section
variable {K : PySem.W.Frag} {σ : L2.St} {H G : Hp} {W : Wl} {nx bk ct : L2.St → Hp → Prop} {rt : VK} {g : TG} {tb : TS} {a b : Addr} {xs ys : List V} {n : Nat}
theorem st_for {wi : TI} (h : wi σ H fun J H1 => LoopQ J g tb nx rt σ H1) : tFor wi g tb ⟨nx, rt, bk, ct⟩ σ H := h
theorem st_btw {I : Nat → L2.St → Hp → Wl → Prop} {G' : Hp} {i : Nat} (e : Same G G') (w : Wd G' W H) (h : I i σ G' W) : Btw I G i σ H := ⟨G', W, e, w, h⟩
theorem loop_go {J : It} {Gp : Hp → Prop} {Y : Nat → Hp → V → Hp → Prop} (wk : Walk J n Gp Y) (I : Nat → L2.St → Hp → Wl → Prop) (w : Wd G W H) (hG : ∀ G' W' H', Same G G' → Wd G' W' H' → Gp H') (h0 : I 0 σ G W)
    (hs : ∀ i x σ' G' W' H' H'', i < n → Same G G' → Wd G' W' H' → I i σ' G' W' → Y i H' x H'' → g x σ' H'' fun σ2 H2 => tb ⟨Btw I G (i + 1), rt, nx, Btw I G (i + 1)⟩ σ2 H2)
    (hd : ∀ σ' G' W' H', Same G G' → Wd G' W' H' → I n σ' G' W' → nx σ' H') : LoopQ J g tb nx rt σ H :=
  for_it (D := ⟨nx, rt, nx, nx⟩) wk (Btw I G) ⟨G, W, Same.refl _, w, h0⟩ (fun _ _ _ _ ⟨_, _, e, w', _⟩ => hG _ _ _ e w') (fun i x σ' H' H'' hi ⟨G', W', e, w', h⟩ y => hs i x σ' G' W' H' H'' hi e w' h y) fun σ' H' ⟨G', W', e, w', h⟩ => hd σ' G' W' H' e w' h
theorem seq_up (w : Wd G W H) (h : SqL K G a xs) : SqL K H a xs := w.ex.seq h
theorem tup_up (w : Wd G W H) (h : SqT K G a xs) : SqT K H a xs := seqT w.ex h
/-- for x in a list -/
theorem for_l (hx : SqL K G a xs) (I : Nat → L2.St → Hp → Wl → Prop) (w : Wd G W H) (h0 : I 0 σ G W)
    (hs : ∀ i x σ' G' W' H', xs[i]? = some x → Same G G' → Wd G' W' H' → I i σ' G' W' → g x σ' H' fun σ2 H2 => tb ⟨Btw I G (i + 1), rt, nx, Btw I G (i + 1)⟩ σ2 H2)
    (hd : ∀ σ' G' W' H', Same G G' → Wd G' W' H' → I xs.length σ' G' W' → nx σ' H') : ∃ a', V.ref a = .ref a' ∧ (∃ xs, SqL K H a' xs) ∧ LoopQ (Itl K a') g tb nx rt σ H :=
  ⟨a, rfl, ⟨xs, seq_up w hx⟩, loop_go walk_list I w (fun _ _ _ e w' => seq_up w' (e.seq hx)) h0 (fun i x σ' G' W' H' H'' _ e w' h y => by obtain ⟨rfl, y⟩ := y; exact hs i x σ' G' W' H'' y e w' h) hd⟩
/-- for x in a tuple -/
theorem for_t (hx : SqT K G a xs) (I : Nat → L2.St → Hp → Wl → Prop) (w : Wd G W H) (h0 : I 0 σ G W)
    (hs : ∀ i x σ' G' W' H', xs[i]? = some x → Same G G' → Wd G' W' H' → I i σ' G' W' → g x σ' H' fun σ2 H2 => tb ⟨Btw I G (i + 1), rt, nx, Btw I G (i + 1)⟩ σ2 H2)
    (hd : ∀ σ' G' W' H', Same G G' → Wd G' W' H' → I xs.length σ' G' W' → nx σ' H') : ∃ a', V.ref a = .ref a' ∧ (∃ xs, SqT K H a' xs) ∧ LoopQ (Itt K a') g tb nx rt σ H :=
  ⟨a, rfl, ⟨xs, tup_up w hx⟩, loop_go walk_tup I w (fun _ _ _ e w' => tup_up w' (seqT e hx)) h0 (fun i x σ' G' W' H' H'' _ e w' h y => by obtain ⟨rfl, y⟩ := y; exact hs i x σ' G' W' H'' y e w' h) hd⟩
/-- for i in range(n) -/
theorem for_r1 {z : Int} (hz : -(2 ^ 62) ≤ z ∧ z < 2 ^ 62) (I : Nat → L2.St → Hp → Wl → Prop) (w : Wd G W H) (h0 : I 0 σ G W)
    (hs : ∀ (i : Nat) σ' G' W' H', (i : Int) < z → Same G G' → Wd G' W' H' → I i σ' G' W' → g (.int (i : Int)) σ' H' fun σ2 H2 => tb ⟨Btw I G (i + 1), rt, nx, Btw I G (i + 1)⟩ σ2 H2)
    (hd : ∀ σ' G' W' H', Same G G' → Wd G' W' H' → I z.toNat σ' G' W' → nx σ' H') : ∃ j : Int, [V.int z] = [.int j] ∧ -(2 ^ 62) ≤ j ∧ j < 2 ^ 62 ∧ LoopQ (Itr 0 j.toNat) g tb nx rt σ H :=
  ⟨z, rfl, hz.1, hz.2, loop_go walk_range I w (fun _ _ _ _ _ => trivial) h0 (fun i x σ' G' W' H' H'' hi e w' h y => by
    obtain ⟨rfl, rfl⟩ := y
    have e0 : (0 : Int) + (i : Int) = (i : Int) := Int.zero_add _
    dsimp only
    rw [e0]
    exact hs i σ' G' W' H'' (by omega) e w' h) hd⟩
/-- for i in range(lo, hi) -/
theorem for_r2 {lo z : Int} (hz : -(2 ^ 62) ≤ lo ∧ lo < 2 ^ 62 ∧ -(2 ^ 62) ≤ z ∧ z < 2 ^ 62) (I : Nat → L2.St → Hp → Wl → Prop) (w : Wd G W H) (h0 : I 0 σ G W)
    (hs : ∀ (i : Nat) σ' G' W' H', lo + (i : Int) < z → Same G G' → Wd G' W' H' → I i σ' G' W' → g (.int (lo + (i : Int))) σ' H' fun σ2 H2 => tb ⟨Btw I G (i + 1), rt, nx, Btw I G (i + 1)⟩ σ2 H2)
    (hd : ∀ σ' G' W' H', Same G G' → Wd G' W' H' → I (z - lo).toNat σ' G' W' → nx σ' H') :
    ∃ i j : Int, [V.int lo, V.int z] = [.int i, .int j] ∧ (-(2 ^ 62) ≤ i ∧ i < 2 ^ 62 ∧ -(2 ^ 62) ≤ j ∧ j < 2 ^ 62) ∧ LoopQ (Itr i (j - i).toNat) g tb nx rt σ H :=
  ⟨lo, z, rfl, hz, loop_go walk_range I w (fun _ _ _ _ _ => trivial) h0 (fun i x σ' G' W' H' H'' hi e w' h y => by
    obtain ⟨rfl, rfl⟩ := y
    exact hs i σ' G' W' H'' (by omega) e w' h) hd⟩
/-- for i, x in enumerate(a list) -/
theorem for_enum (hx : SqL K G a xs) {i1 i2 : Nat} (I : Nat → L2.St → Hp → Wl → Prop) (w : Wd G W H) (h0 : I 0 σ G W)
    (hs : ∀ (i : Nat) x σ' G' G'' W' H', xs[i]? = some x → Same G G' → I i σ' G' W' → Same G' G'' → Wd G'' W' H' → tb ⟨Btw I G (i + 1), rt, nx, Btw I G (i + 1)⟩ ((σ'.set i1 (some (.int (i : Int)))).set i2 (some x)) H')
    (hd : ∀ σ' G' W' H', Same G G' → Wd G' W' H' → I xs.length σ' G' W' → nx σ' H') :
    ∃ a' ys, [V.ref a] = [.ref a'] ∧ SqL K H a' ys ∧ LoopQ (Ite K a') (gTup K 2 (gCons (gName i1) (gCons (gName i2) gNil))) tb nx rt σ H :=
  ⟨a, xs, rfl, seq_up w hx, loop_go walk_enum I w (fun _ _ _ e w' => seq_up w' (e.seq hx)) h0 (fun i x σ' G' W' H' H'' _ e w' h y => by
    obtain ⟨T, x1, x2, rfl, hn, rfl, e1, e2⟩ := y
    cases e1
    refine ⟨T, _, rfl, SqT.of upd_same, rfl, _, _, rfl, ?_⟩
    refine ⟨_, _, rfl, ?_⟩
    exact ⟨rfl, hs i x2 σ' G' _ W' _ e2 e h (same_upd (w'.free hn)) (w'.new hn)⟩) hd⟩
end

/-! ### comprehensions -/
def LcQ (J : It) (g : TG) (tt : TT) (te : TE) (vs : List Nat) (σ : L2.St) (H1 : Hp) (Q : VK) : Prop := ∀ D, H1 D = none → ∃ W : Nat → Nat → Hp → Prop, (∃ m, W 0 m (upd H1 D (.lst []))) ∧ ∀ i m H, W i m H →
  (J.stop i H ∧ Q (.ref D) H) ∨ (J.go i H ∧ ∃ Nx : Hp → Prop, (∀ H', Nx H' → ∃ m', m' < m ∧ W (i + 1) m' H') ∧ ∀ x H', J.yld i H x H' → g x (wipe σ vs) H' fun σ2 H2 => wipe σ2 vs = wipe σ vs ∧ tt σ2 H2 fun b H3 =>
    if b = true then te σ2 H3 fun y H4 => ∃ acc, H4 D = some (.lst acc) ∧ acc.length < sizeLine ∧ Nx (upd H4 D (.lst (acc ++ [y]))) else Nx H3)
/-- what holds between two turns: the new list at D holds acc -/
def LcB (I : Nat → List V → Hp → Prop) (G : Hp) (W : Wl) (D : Addr) (i : Nat) : Hp → Prop := fun H => ∃ G' acc, Same G G' ∧ Wd G' ((D, Is (.lst acc)) :: W) H ∧ I i acc G'
section
variable {K : PySem.W.Frag} {σ : L2.St} {H G : Hp} {W : Wl} {D : Addr} {g : TG} {tt : TT} {te : TE} {vs : List Nat} {Q : VK} {a b : Addr} {xs ys : List V} {n : Nat}
theorem st_lc {wi : TI} (h : wi σ H fun J H1 => LcQ J g tt te vs σ H1 Q) : tLc wi g tt te vs σ H Q := h
theorem st_yes {QT : Bool → Hp → Prop} (q : QT true H) : tYes σ H QT := q
/-- an element is put -/
theorem lc_put {I : Nat → List V → Hp → Prop} {G' : Hp} {i : Nat} {acc : List V} {y : V} (w : Wd G' ((D, Is (.lst acc)) :: W) H) (e : Same G G') (hl : acc.length < 1000000) (h : I i (acc ++ [y]) G') :
    ∃ acc, H D = some (.lst acc) ∧ acc.length < sizeLine ∧ LcB I G W D i (upd H D (.lst (acc ++ [y]))) := by
  obtain ⟨o, ho, rfl⟩ := w.get List.mem_cons_self
  exact ⟨acc, ho, small' (Nat.le_of_lt hl), G', acc ++ [y], e, Wd.put (W1 := []) w rfl, h⟩
theorem lc_skip {I : Nat → List V → Hp → Prop} {G' : Hp} {i : Nat} {acc : List V} (w : Wd G' ((D, Is (.lst acc)) :: W) H) (e : Same G G') (h : I i acc G') : LcB I G W D i H := ⟨G', acc, e, w, h⟩
theorem lc_go {J : It} {Gp : Hp → Prop} {Y : Nat → Hp → V → Hp → Prop} (wk : Walk J n Gp Y) (I : Nat → List V → Hp → Prop) (w : Wd G W H) (hG : ∀ G' W' H', Same G G' → Wd G' W' H' → Gp H') (h0 : I 0 [] G)
    (hs : ∀ i x D G' H' H'' acc, i < n → Same G G' → Wd G' ((D, Is (.lst acc)) :: W) H' → I i acc G' → Y i H' x H'' → g x (wipe σ vs) H'' fun σ2 H2 => wipe σ2 vs = wipe σ vs ∧ tt σ2 H2 fun b H3 =>
      if b = true then te σ2 H3 fun y H4 => ∃ acc, H4 D = some (.lst acc) ∧ acc.length < sizeLine ∧ LcB I G W D (i + 1) (upd H4 D (.lst (acc ++ [y]))) else LcB I G W D (i + 1) H3)
    (hd : ∀ D G' H' acc, Same G G' → Wd G' ((D, Is (.lst acc)) :: W) H' → I n acc G' → Q (.ref D) H') : LcQ J g tt te vs σ H Q := fun D hD =>
  lc_it wk (LcB I G W D) ⟨G, [], Same.refl _, w.newM hD rfl, h0⟩ (fun _ _ _ ⟨_, _, e, w', _⟩ => hG _ _ _ e w') (fun i x H' H'' hi ⟨G', acc, e, w', h⟩ y => hs i x D G' H' H'' acc hi e w' h y) fun H' ⟨G', acc, e, w', h⟩ => hd D G' H' acc e w' h
/-- [.. for i in range(z)], the variable at slot j -/
theorem lc_r1 {z : Int} {j : Nat} (hz : -(2 ^ 62) ≤ z ∧ z < 2 ^ 62) (I : Nat → List V → Hp → Prop) (w : Wd G W H) (h0 : I 0 [] G) (hw : ∀ x, wipe ((wipe σ vs).set j x) vs = wipe σ vs)
    (hs : ∀ (i : Nat) D G' H' acc, (i : Int) < z → Same G G' → Wd G' ((D, Is (.lst acc)) :: W) H' → I i acc G' → tt ((wipe σ vs).set j (some (.int (i : Int)))) H' fun b H3 =>
      if b = true then te ((wipe σ vs).set j (some (.int (i : Int)))) H3 fun y H4 => ∃ acc, H4 D = some (.lst acc) ∧ acc.length < sizeLine ∧ LcB I G W D (i + 1) (upd H4 D (.lst (acc ++ [y]))) else LcB I G W D (i + 1) H3)
    (hd : ∀ D G' H' acc, Same G G' → Wd G' ((D, Is (.lst acc)) :: W) H' → I z.toNat acc G' → Q (.ref D) H') : ∃ j' : Int, [V.int z] = [.int j'] ∧ -(2 ^ 62) ≤ j' ∧ j' < 2 ^ 62 ∧ LcQ (Itr 0 j'.toNat) (gName j) tt te vs σ H Q :=
  ⟨z, rfl, hz.1, hz.2, lc_go walk_range I w (fun _ _ _ _ _ => trivial) h0 (fun i x D G' H' H'' acc hi e w' h y => by
    obtain ⟨rfl, rfl⟩ := y
    have e0 : (0 : Int) + (i : Int) = (i : Int) := Int.zero_add _
    dsimp only
    rw [e0]
    exact ⟨hw _, hs i D G' H'' acc (by omega) e w' h⟩) hd⟩
/-- [.. for x in a list] -/
theorem lc_l {j : Nat} (hx : SqL K G a xs) (I : Nat → List V → Hp → Prop) (w : Wd G W H) (h0 : I 0 [] G) (hw : ∀ x, wipe ((wipe σ vs).set j x) vs = wipe σ vs)
    (hs : ∀ (i : Nat) x D G' H' acc, xs[i]? = some x → Same G G' → Wd G' ((D, Is (.lst acc)) :: W) H' → I i acc G' → tt ((wipe σ vs).set j (some x)) H' fun b H3 =>
      if b = true then te ((wipe σ vs).set j (some x)) H3 fun y H4 => ∃ acc, H4 D = some (.lst acc) ∧ acc.length < sizeLine ∧ LcB I G W D (i + 1) (upd H4 D (.lst (acc ++ [y]))) else LcB I G W D (i + 1) H3)
    (hd : ∀ D G' H' acc, Same G G' → Wd G' ((D, Is (.lst acc)) :: W) H' → I xs.length acc G' → Q (.ref D) H') : ∃ a', V.ref a = .ref a' ∧ (∃ xs, SqL K H a' xs) ∧ LcQ (Itl K a') (gName j) tt te vs σ H Q :=
  ⟨a, rfl, ⟨xs, seq_up w hx⟩, lc_go walk_list I w (fun _ _ _ e w' => seq_up w' (e.seq hx)) h0 (fun i x D G' H' H'' acc _ e w' h y => by
    obtain ⟨rfl, y⟩ := y
    exact ⟨hw _, hs i x D G' H'' acc y e w' h⟩) hd⟩
end

/-! ### kinds of values -/
inductive Knd (K : PySem.W.Frag) (H : Hp) : V → Prop
  | int (i : Int) : Knd K H (.int i)
  | bl (b : Bool) : Knd K H (.bl b)
  | non : Knd K H .non
  | str (x : Str) : Knd K H (.str x)
  | lst {a : Addr} {xs : List V} (h : SqL K H a xs) : Knd K H (.ref a)
  | tup {a : Addr} {xs : List V} (h : SqT K H a xs) : Knd K H (.ref a)
  | dct {a : Addr} {kvs : List (Key × V)} (h : H a = some (.dK kvs)) : Knd K H (.ref a)
def isInt : V → Bool
  | .int _ => true
  | _ => false
def inRange (lo hi : Int) : V → Bool
  | .int i => decide (lo ≤ i) && decide (i ≤ hi)
  | _ => false
section
variable {K : PySem.W.Frag} {H : Hp} {x : V}
theorem tyL {a : Addr} {xs : List V} (h : SqL K H a xs) : TyX K H (.ref a) (.type "list") := by
  rcases h with (h | ⟨o, h⟩) | ⟨o, _, _, h, hc, _⟩
  · exact .base (.lst h)
  · exact .base (.frz h)
  · exact .kList h hc
theorem tyT {a : Addr} {xs : List V} (h : SqT K H a xs) : TyX K H (.ref a) (.type "tuple") := by
  rcases h with (h | ⟨o, h⟩) | ⟨o, _, _, h, hc, _⟩
  · exact .base (.tup h)
  · exact .fTuple h
  · exact .kTuple h hc
theorem Knd.ty (h : Knd K H x) : ∃ n b1 b2, TyX K H x (.type n) ∧ kitB n "int" = some b1 ∧ kitB n "bool" = some b2 ∧ isInt x = (b1 && !b2) := by
  cases h with
  | int i => exact ⟨"int", true, false, .base (.int i), by decide +kernel, by decide +kernel, rfl⟩
  | bl b => exact ⟨"bool", true, true, .base (.bl b), by decide +kernel, by decide +kernel, rfl⟩
  | non => exact ⟨"NoneType", false, false, .base .non, by decide +kernel, by decide +kernel, rfl⟩
  | str s => exact ⟨"str", false, false, .base (.str s), by decide +kernel, by decide +kernel, rfl⟩
  | lst h => exact ⟨"list", false, false, tyL h, by decide +kernel, by decide +kernel, rfl⟩
  | tup h => exact ⟨"tuple", false, false, tyT h, by decide +kernel, by decide +kernel, rfl⟩
  | dct h => exact ⟨"dict", false, false, .base (.dK h), by decide +kernel, by decide +kernel, rfl⟩
/-- isinstance(x, (list, tuple)) -/
def isSeq (K : PySem.W.Frag) (H : Hp) (x : V) : Prop := ∃ a xs, x = .ref a ∧ (SqL K H a xs ∨ SqT K H a xs)
theorem kB {a b : String} {r : Bool} {cs : List Value} {q : Bool} (h : kitB a b = some r) (hr : r = false → PySem.W.kitAny K (.type a) cs = some q) (hb : r = true → q = true) : PySem.W.kitAny K (.type a) (.type b :: cs) = some q := kitAny_cons (kit_ty h) hr hb
theorem kitLT_l : PySem.W.kitAny K (.type "list") [.type "list", .type "tuple"] = some true := kB (r := true) (by decide +kernel) (fun h => nomatch h) (fun _ => rfl)
theorem kitLT_t : PySem.W.kitAny K (.type "tuple") [.type "list", .type "tuple"] = some true := kB (r := false) (by decide +kernel) (fun _ => kB (r := true) (by decide +kernel) (fun h => nomatch h) (fun _ => rfl)) (fun h => nomatch h)
theorem isiSeq {Q : VK} {a p : Addr} {xs : List V} (hp : H p = some (.tup [.ty "list", .ty "tuple"])) (h : SqL K H a xs ∨ SqT K H a xs) (q : Q (.bl true) H) : rIsiT K [.ref a, .ref p] H Q := by
  rcases h with h | h
  · exact ⟨_, p, _, _, _, true, rfl, hp, .cons (.ty _) (.cons (.ty _) .nil), tyL h, kitLT_l, q⟩
  · exact ⟨_, p, _, _, _, true, rfl, hp, .cons (.ty _) (.cons (.ty _) .nil), tyT h, kitLT_t, q⟩
end

section
variable {K : PySem.W.Frag} {σ : L2.St} {H : Hp} {ta : TA} {tl : TE} {R : It → Hp → Prop}
theorem st_iEnum (h : ta σ H fun vs H1 => ∃ a xs, vs = [.ref a] ∧ SqL K H1 a xs ∧ R (Ite K a) H1) : iEnum K ta σ H R := h
theorem st_iList (h : tl σ H fun x H1 => ∃ a, x = .ref a ∧ (∃ xs, SqL K H1 a xs) ∧ R (Itl K a) H1) : iList K tl σ H R := h
theorem st_iTup (h : tl σ H fun x H1 => ∃ a, x = .ref a ∧ (∃ xs, SqT K H1 a xs) ∧ R (Itt K a) H1) : iTup K tl σ H R := h
theorem st_iR1 (h : ta σ H fun vs H1 => ∃ j : Int, vs = [.int j] ∧ -(2 ^ 62) ≤ j ∧ j < 2 ^ 62 ∧ R (Itr 0 j.toNat) H1) : iRng1 ta σ H R := h
theorem st_iR2 (h : ta σ H fun vs H1 => ∃ i j : Int, vs = [.int i, .int j] ∧ (-(2 ^ 62) ≤ i ∧ i < 2 ^ 62 ∧ -(2 ^ 62) ≤ j ∧ j < 2 ^ 62) ∧ R (Itr i (j - i).toNat) H1) : iRng2 ta σ H R := h
end

theorem atUp {G G' : Hp} {a : Addr} {o : HO} (e : Same G G') (h : G a = some o) : G' a = some o := e _ _ h
theorem hUp {G H : Hp} {W : Wl} {a : Addr} {o : HO} (w : Wd G W H) (h : G a = some o) : H a = some o := w.ex _ _ h
theorem dUp {K : PySem.W.Frag} {G H : Hp} {W : Wl} {v : V} {d : PyData} (w : Wd G W H) (h : Dp K G v d) : Dp K H v d := dmono w.ex h
theorem getI {ns : List Int} {i : Nat} {x : V} (h : (ns.map V.int)[i]? = some x) : ∃ n, ns[i]? = some n ∧ x = V.int n ∧ n ∈ ns := by
  rw [List.getElem?_map] at h
  obtain ⟨n, hn, e⟩ := Option.map_eq_some_iff.mp h
  exact ⟨n, hn, e.symm, List.mem_of_getElem? hn⟩

section
variable {K : PySem.W.Frag} {σ : L2.St} {H : Hp} {Q : VK} {QS : L2.St → Hp → Prop} {to ti : TE} {v x : V} {xs : List V} {a : Addr}
theorem st_gsub {t : TSet} (h : to σ H fun o H1 => ti σ H1 fun i H2 => t o i v H2 fun H3 => QS σ H3) : gSub to ti t v σ H QS := h
/-- xs[i] -/
theorem st_ixL {i : Int} (h : SqL K H a xs) (hv : atI xs i = some v) (q : Q v H) : rIxL K (.ref a) (.int i) H Q := ⟨a, xs, i, v, rfl, rfl, h, hv, q⟩
theorem st_ixT {i : Int} (h : SqT K H a xs) (hv : atI xs i = some v) (q : Q v H) : rIxT K (.ref a) (.int i) H Q := ⟨a, xs, i, v, rfl, rfl, h, hv, q⟩
theorem st_setL {i : Int} {j : Nat} {Q : Hp → Prop} (h : H a = some (.lst xs)) (hj : ixN xs.length i = some j) (q : Q (upd H a (.lst (xs.set j v)))) : rSetL (.ref a) (.int i) v H Q := ⟨a, xs, i, j, rfl, rfl, h, hj, q⟩
end

section
variable {K : PySem.W.Frag} {σ : L2.St} {H : Hp} {Q : VK} {to te : TE} {t : TA} {T : String} {r : V → List V → Hp → VK → Prop} {xs : List V} {a : Addr}
theorem st_bm (h : to σ H fun x H1 => tyV K T x H1 ∧ t σ H1 fun xs H2 => r x xs H2 Q) : tBM K T r to t σ H Q := h
theorem st_bm0 (h : to σ H fun x H1 => tyV K T x H1 ∧ r x [] H1 Q) : tBM0 K T r to σ H Q := h
theorem tyL' (h : H a = some (.lst xs)) : tyV K "list" (.ref a) H := Or.inl ⟨rfl, _, SqL.of h⟩
theorem map_ins (ns : List Int) (i : Nat) (n : Int) : (ns.map V.int).take i ++ [V.int n] ++ (ns.map V.int).drop i = (ns.take i ++ [n] ++ ns.drop i).map V.int := by simp [List.map_take, List.map_drop]
theorem map_set' (ns : List Int) (i : Nat) (n : Int) : (ns.map V.int).set i (V.int n) = (ns.set i n).map V.int := by simp [List.map_set]
theorem atI_map {ns : List Int} {i : Int} (h0 : 0 ≤ i) (h1 : i < ns.length) : ∃ n, atI (ns.map V.int) i = some (V.int n) ∧ n ∈ ns ∧ ns[i.toNat]? = some n := by
  obtain ⟨n, hn⟩ : ∃ n, ns[i.toNat]? = some n := ⟨_, List.getElem?_eq_getElem (by omega)⟩
  refine ⟨n, ?_, List.mem_of_getElem? hn, hn⟩
  have e : i = (i.toNat : Int) := by omega
  rw [e]
  exact atI_nat (by rw [List.getElem?_map, hn]; rfl)
theorem ixN_of {n : Nat} {i : Int} (h0 : 0 ≤ i) (h1 : i < n) : ixN n i = some i.toNat := by
  unfold ixN
  rw [if_pos h0, if_pos h1]
end

theorem st_cut {t u : TS} {nx bk ct : L2.St → Hp → Prop} {rt : VK} {σ : L2.St} {H : Hp} (M : L2.St → Hp → Prop) (h : t ⟨M, rt, bk, ct⟩ σ H) (k : ∀ σ' H', M σ' H' → u ⟨nx, rt, bk, ct⟩ σ' H') : C8.tCut t u ⟨nx, rt, bk, ct⟩ σ H := ⟨M, h, k⟩
section
variable {K : PySem.W.Frag} {H : Hp}
def dI (ns : List Int) : PyData := .list (ns.map .int)
theorem dpInts : ∀ ns : List Int, DpAll K H (ns.map V.int) (ns.map PyData.int)
  | [] => .nil
  | n :: ns => .cons (.int n) (dpInts ns)
theorem dp_ints {a : Addr} {ns : List Int} (h : SqL K H a (ns.map V.int)) : Dp K H (.ref a) (dI ns) := .lst h (dpInts ns)
/-- data that may be compared: of a depth up to n -/
def Sh (n : Nat) (d : PyData) : Prop := d.canLay0 = true ∧ d.depth ≤ n
theorem sh_all {n : Nat} : ∀ {ds : List PyData}, (∀ d ∈ ds, Sh n d) → PyData.canLayAll0 ds = true ∧ PyData.depthAll ds ≤ n
  | [], _ => ⟨rfl, Nat.zero_le _⟩
  | d :: ds, h => by
    obtain ⟨a1, a2⟩ := h d List.mem_cons_self
    obtain ⟨b1, b2⟩ := sh_all (ds := ds) fun x hx => h x (List.mem_cons_of_mem _ hx)
    refine ⟨?_, ?_⟩
    · unfold PyData.canLayAll0
      rw [a1, b1]
      rfl
    · unfold PyData.depthAll
      exact Nat.max_le.mpr ⟨a2, b2⟩
theorem Sh.list {n : Nat} {ds : List PyData} (h : ∀ d ∈ ds, Sh n d) : Sh (n + 1) (.list ds) := by
  obtain ⟨a, b⟩ := sh_all h
  exact ⟨by unfold PyData.canLay0; exact a, by unfold PyData.depth; exact Nat.succ_le_succ b⟩
theorem Sh.tuple {n : Nat} {ds : List PyData} (h : ∀ d ∈ ds, Sh n d) : Sh (n + 1) (.tuple ds) := by
  obtain ⟨a, b⟩ := sh_all h
  exact ⟨by unfold PyData.canLay0; exact a, by unfold PyData.depth; exact Nat.succ_le_succ b⟩
theorem Sh.int {n : Nat} (i : Int) : Sh n (.int i) := ⟨by unfold PyData.canLay0; rfl, by unfold PyData.depth; exact Nat.zero_le _⟩
theorem Sh.bool {n : Nat} (i : Bool) : Sh n (.bool i) := ⟨by unfold PyData.canLay0; rfl, by unfold PyData.depth; exact Nat.zero_le _⟩
theorem Sh.none {n : Nat} : Sh n .none := ⟨by unfold PyData.canLay0; rfl, by unfold PyData.depth; exact Nat.zero_le _⟩
theorem Sh.ok {n : Nat} {d : PyData} (h : Sh n d) (hn : n ≤ 64) : SeqAt.shaped d = true := by
  unfold SeqAt.shaped
  rw [h.1, decide_eq_true (Nat.le_trans h.2 hn)]
  rfl
theorem sh_ints (ns : List Int) : Sh 1 (dI ns) := Sh.list fun d hd => by
  obtain ⟨n, _, rfl⟩ := List.mem_map.mp hd
  exact .int n
theorem eqvAll_map {α : Type} [DecidableEq α] (f : α → PyData) (h : ∀ x y, PyData.eqv (f x) (f y) = decide (x = y)) : ∀ xs ys : List α, PyData.eqvAll (xs.map f) (ys.map f) = decide (xs = ys)
  | [], [] => by simp [PyData.eqvAll]
  | [], _ :: _ => by simp [PyData.eqvAll]
  | _ :: _, [] => by simp [PyData.eqvAll]
  | x :: xs, y :: ys => by
    rw [List.map_cons, List.map_cons, PyData.eqvAll, h, eqvAll_map f h xs ys]
    by_cases e1 : x = y <;> by_cases e2 : xs = ys <;> simp [e1, e2]
theorem eqv_int (a b : Int) : PyData.eqv (.int a) (.int b) = decide (a = b) := by
  unfold PyData.eqv
  by_cases e : a = b <;> simp [e]
theorem eqv_dI (a b : List Int) : PyData.eqv (dI a) (dI b) = decide (a = b) := by
  unfold dI PyData.eqv
  exact eqvAll_map _ eqv_int a b
/-- xs == ys of data -/
theorem st_eqD {Q : VK} {x y : V} {d e : PyData} {b : Bool} (hx : Dp K H x d) (hy : Dp K H y e) (sx : SeqAt.shaped d = true) (sy : SeqAt.shaped e = true) (hb : PyData.eqv d e = b) (q : Q (.bl b) H) : rEqD K x y H Q := ⟨d, e, hx, hy, sx, sy, by rw [hb]; exact q⟩
theorem st_neD {Q : VK} {x y : V} {d e : PyData} {b : Bool} (hx : Dp K H x d) (hy : Dp K H y e) (sx : SeqAt.shaped d = true) (sy : SeqAt.shaped e = true) (hb : PyData.eqv d e = b) (q : Q (.bl (!b)) H) : rNeD K x y H Q := ⟨d, e, hx, hy, sx, sy, by rw [hb]; exact q⟩
/-- lists of ints -/
theorem st_eqI {Q : VK} {a b : Addr} {xs ys : List Int} (hx : SqL K H a (xs.map V.int)) (hy : SqL K H b (ys.map V.int)) (q : Q (.bl (decide (xs = ys))) H) : rEqD K (.ref a) (.ref b) H Q :=
  st_eqD (dp_ints hx) (dp_ints hy) ((sh_ints xs).ok (by decide)) ((sh_ints ys).ok (by decide)) (eqv_dI xs ys) q
theorem st_neI {Q : VK} {a b : Addr} {xs ys : List Int} (hx : SqL K H a (xs.map V.int)) (hy : SqL K H b (ys.map V.int)) (q : Q (.bl (!decide (xs = ys))) H) : rNeD K (.ref a) (.ref b) H Q :=
  st_neD (dp_ints hx) (dp_ints hy) ((sh_ints xs).ok (by decide)) ((sh_ints ys).ok (by decide)) (eqv_dI xs ys) q
end

theorem st_ifV {σ : L2.St} {H : Hp} {Q : VK} {tt : TT} {ta tb : TE} (v : V) (c : Bool) (ht : ∀ QT : Bool → Hp → Prop, QT c H → tt σ H QT) (h1 : c = true → ∀ Q : VK, Q v H → ta σ H Q) (h2 : c = false → ∀ Q : VK, Q v H → tb σ H Q) (q : Q v H) : tIf tt ta tb σ H Q :=
  ht _ (by
    cases c with
    | true => exact iteT (h1 rfl Q q)
    | false => exact iteF (h2 rfl Q q))
theorem ne_self (v : V) : (!decide (v = v)) = false := by rw [decide_eq_true rfl]; rfl
theorem eq_self' (v : V) : decide (v = v) = true := decide_eq_true rfl
end Z

/-! enumerate of a tuple -/
namespace PySem
open AutoSeq1 (wpAny_loadPart')
theorem zEnumNew (l : Addr) (its : Array Value) (n : Nat) (dd : Option Addr) (sl : Array (Option Value)) :
    Meets (Builtin.«enumerate.__new__» ⟨[.type "enumerate", .ref l], []⟩) (fun _ R s => s.heap.get? l = some { cls := .type "tuple", dict := dd, data := .seq its n, slots := sl } ∧
      R (.ok (.ret (.ref (s.heap.push { cls := .type "tuple_iterator", data := .fields #[.ref l, .int 0 0] }).objs.size)))
        { s with heap := (s.heap.push { cls := .type "tuple_iterator", data := .fields #[.ref l, .int 0 0] }).push { cls := .type "enumerate", data := .fields #[.none, .bool false, .ref s.heap.objs.size, rawInt 0, .none, .none] } }) :=
  .of_wp fun prog w A R s q => by
    obtain ⟨hp, g, d, tk, os⟩ := s
    obtain ⟨hl, hR⟩ := q
    have hsub := sub_enumerate
    have hT : Heap.IsTuple (Shared.heap ⟨hp, g, d, tk, os⟩) l its := ⟨_, hl, rfl, n, rfl⟩
    wp_walk using wpAny_loadPart' hl
    refine wpAny_stack_any fun st => wpAny_pure ?_
    split
    · rename_i c _ _ _ _ _
      cases (c == Value.type "enumerate") <;> (wp_walk using wpAny_loadPart' hl, wpAny_pyIter_tuple hT; exact ⟨_, rfl, hR⟩)
    · wp_walk using wpAny_loadPart' hl, wpAny_pyIter_tuple hT
      exact ⟨_, rfl, hR⟩
theorem zEnumCall {prog : Program} {w : World} {A : Around} {E : Value → Shared → Prop} {s : Shared} {l : Addr} {its : Array Value} {Q : Value → Shared → Prop} (hT : s.heap.IsTuple l its)
    (k : ∀ h', IsEnum h' (s.heap.objs.size + 1) s.heap.objs.size 0 .none → h'.IsTupleIter s.heap.objs.size l 0 → h'.objs.size = s.heap.objs.size + 2 → (∀ b o, s.heap.get? b = some o → h'.get? b = some o) →
      Q (.ref (s.heap.objs.size + 1)) { s with heap := h' }) : wpAny (model prog w) A (call (.type "enumerate") [.ref l]) Q E s := by
  obtain ⟨⟨c, dd, dt, sl⟩, hl, hc, n, hd⟩ := hT
  obtain rfl : c = .type "tuple" := hc
  obtain rfl : dt = .seq its n := hd
  refine callType_new F.called_enumerate (by decide) (F.typeCall_enumerate_1 _) (F.newCall_enumerate_1 _) (fun obj => F.args_object_init_2 obj _) F.entry_enumerate_new (zEnumNew l its n dd sl) ⟨hl, ?_⟩
  have hz : (s.heap.push { cls := .type "tuple_iterator", data := .fields #[.ref l, .int 0 0] }).objs.size = s.heap.objs.size + 1 := Heap.size_push ..
  show _ ∧ _
  rw [hz]
  have he : IsEnum ((s.heap.push { cls := .type "tuple_iterator", data := .fields #[.ref l, .int 0 0] }).push { cls := .type "enumerate", data := .fields #[.none, .bool false, .ref s.heap.objs.size, rawInt 0, .none, .none] })
      (s.heap.objs.size + 1) s.heap.objs.size 0 .none := hz ▸ Heap.get?_push_size _ rfl
  exact ⟨⟨_, he, rfl⟩, k _ he ⟨_, Heap.get?_push_of_some _ (Heap.get?_push_size _ rfl), rfl, rfl⟩ (by rw [Heap.size_push, hz]) fun b o x => Heap.get?_push_of_some _ (Heap.get?_push_of_some _ x)⟩
theorem zEnumEnd {prog : Program} {w : World} {A : Around} {E : Value → Shared → Prop} {s : Shared} {e it l : Addr} {i : Nat} {its : Array Value} {old : Value} {k : Int} {Q : Option Value → Shared → Prop} (hh : A.handled = none)
    (he : IsEnum s.heap e it k old) (hit : s.heap.IsTupleIter it l i) (hl : s.heap.IsTuple l its) (hx : its[i]? = none) (q : ∀ h', Heap.ExtBut it s.heap h' → Q none { s with heap := h' }) :
    wpAny (model prog w) A (pyNext (.ref e)) Q E s := by
  have ty : s.TypeIs (.ref e) "enumerate" := ⟨_, he, rfl⟩
  unfold pyNext
  refine wpAny_bind (wpAny_attempt (wpAny_callSpecial?_slot (name := Str.ofString "__next__") ty F.slot_enumerate_next (wpAny_call_entry F.slot_enumerate_next ty F.entry_enumerate_next ?_ (F.args_enumerate_next_1 _))))
  show wpAny _ _ (field (.ref e) 2 >>= _) _ _ _
  refine wpAny_bind (wpAny_field he rfl (x := .ref it) rfl (wpAny_bind (wpAny_nextOf_tuple_end hh hit hl hx fun h' x he' ⟨o, ho, hc⟩ => ?_)))
  exact wpAny_bind (wpAny_isInstance (T := "StopIteration") (b := true) ⟨o, ho, hc⟩ isSubtype_stop (wpAny_pure (q _ he')))
end PySem
namespace Z
open PySem PySem.Spec PyProof.Rows L2
def IteT (K : PySem.W.Frag) (a : Addr) : It :=
  ⟨fun i H => ∃ (xs : List V) (x : V), SqT K H a xs ∧ xs[i]? = some x, fun i H v H' => ∃ T x, v = .ref T ∧ H T = none ∧ H' = upd H T (.tup [.int (i : Nat), x]) ∧ ∀ xs, SqT K H a xs → xs[i]? = some x,
    fun i H => ∃ xs : List V, SqT K H a xs ∧ xs.length ≤ i⟩
theorem tup_ne {h : Heap} {a b : Addr} {its : Array Value} {o : Obj} {n : String} (p : IsTup h a its) (ho : h.get? b = some o) (hc : o.cls = .type n) (hn : n ≠ "tuple") : a ≠ b := fun z => by
  obtain ⟨o', e, c, _⟩ := p
  rw [z, ho] at e
  cases e
  rw [hc] at c
  exact hn (by injection c)
theorem turn_enumT {P : Program} {w : World} {K : PySem.W.Frag} {elts : List Expr} {kk : Nat} {tpos : Pos} (a e it : Addr) :
    Turn P w K (.Tuple elts kk tpos) (IteT K a) [e, it] e (fun i h => (∃ old, IsEnum h e it ((i : Nat) : Int) old) ∧ h.IsTupleIter it a i ∧ e ≠ it) where
  mem := List.mem_cons_self
  obj := fun i h st b hb => by
    obtain ⟨⟨old, he⟩, ⟨o, ho, hc, hd⟩, _⟩ := st
    rcases (show b = e ∨ b = it by simpa using hb) with z | z
    · exact z ▸ ⟨_, he, fun v q => nomatch q⟩
    · exact z ▸ ⟨o, ho, fun v q => by rw [hd] at q; cases q⟩
  keep := fun i h h' st k => let ⟨⟨old, he⟩, hi, hne⟩ := st; ⟨⟨old, k e List.mem_cons_self _ he⟩, hi.at fun o q => k it (by simp) o q, hne⟩
  item := by
    intro X hP hw hK hc i pins s σ H E I hf st hg
    cases hP; cases hw; cases hK
    obtain ⟨⟨old, he⟩, hit, hne⟩ := st
    obtain ⟨xs, x, hq, hx⟩ := hg
    obtain ⟨its, rv, p, hz⟩ := I.tuple hq
    obtain ⟨u, hu, ru⟩ := rv.get hx
    obtain ⟨oi, hoi, hci, _⟩ := id hit
    have nai : a ≠ it := tup_ne p hoi hci (by decide)
    have nae : a ≠ e := tup_ne p he rfl (by decide)
    have hel := Heap.lt_size he
    have hil := Heap.lt_size hoi
    have hlt : i < its.length := (List.getElem?_eq_some_iff.mp hu).1
    refine wpAny_pyNext_enum_itemD (Draws.tuple (A := X.A.in1) (I.ok.hd hc) it a nai its.toArray) he ⟨hit, p⟩ (by simpa using hlt) hne (by simp [hne, nae.symm]) fun v h' tk hv ho hst hT hsz hk => ?_
    obtain rfl : u = v := by
      have hv' : its[i]? = some v := by simpa using hv
      rw [hu] at hv'
      exact Option.some.inj hv'
    refine ⟨_, rfl, wpAny_letOwnedTupleGo_enum (s := { s with heap := h', toks := tk + 1 }) ho fun h'' he' sb => ?_⟩
    have hT2 := (sb.2 _ (Nat.ne_of_gt hel)).trans hT
    have new : ObjOk X.prog X.w (upd H s.heap.objs.size (.tup [.int (i : Nat), x])) h'' s.heap.objs.size (.tup [.int (i : Nat), x]) :=
      ⟨by show 2 ≤ sizeLine; decide, [.int i tk, u], .cons ⟨_, rfl⟩ (.cons ru .nil), ⟨_, hT2, rfl, _, rfl⟩⟩
    have I1 := I.turnedNew (t' := tk + 1) (ch := [e, it]) (fun b ob hb q => (sb.2 b (fun z => hb (by simp [z]))).trans (hk b ob (fun z => hb (by simp [z])) (fun z => hb (by simp [z])) q)) hf (Nat.le_refl _) new
    refine ⟨.ref s.heap.objs.size, _, I1, rfl, ⟨_, x, rfl, I.hok.fresh (Nat.le_refl _), rfl, fun ys hy => by rw [I.tuple_inj hy hq]; exact hx⟩, ⟨⟨u, ?_⟩, hst.1.at fun o q => (sb.2 it (Ne.symm hne)).trans q, hne⟩, fun b hb => ?_⟩
    · rw [show ((i + 1 : Nat) : Int) = (i : Int) + 1 by omega]
      exact he'
    · have hb' : b < s.heap.objs.size := by
        rcases (show b = e ∨ b = it by simpa using hb) with z | z
        · exact z ▸ hel
        · exact z ▸ hil
      rw [upd_ne (Nat.ne_of_lt hb')]
      exact (hf b hb).1
  done := by
    intro X hP hw hK hc i pins s σ H E I hf st hg
    cases hP; cases hw; cases hK
    obtain ⟨⟨old, he⟩, hit, hne⟩ := st
    obtain ⟨xs, hq, hx⟩ := hg
    obtain ⟨its, rv, p, hz⟩ := I.tuple hq
    obtain ⟨oi, hoi, hci, hdi⟩ := id hit
    have nai : a ≠ it := tup_ne p hoi hci (by decide)
    obtain ⟨f0, f1, f2, f3, f4, f5⟩ := hf it (by simp)
    have hl := rv.length
    exact zEnumEnd (I.ok.hd hc) he hit (show s.heap.IsTuple a its.toArray from p) (by simp; omega) fun h' eb => ⟨rfl, I.turned (t' := s.toks) (fun b o hb q => eb b o hb q) f0 f1 f3 f4 f5⟩
  self := fun A i s Q E st h => let ⟨⟨_, he⟩, _⟩ := st; wpAny_pyIter_enum he h

/-- enumerate of a list or of a tuple -/
def iEnumA (K : PySem.W.Frag) (ta : TA) : TI := fun σ H R => ta σ H fun vs H1 => ∃ a xs, vs = [.ref a] ∧ ((SqL K H1 a xs ∧ R (Ite K a) H1) ∨ (SqT K H1 a xs ∧ R (IteT K a) H1))
theorem pi_enumA {X : Cx} {e : Expr} {ta : TA} {p pos tpos : Pos} {elts : List Expr} {kk : Nat} (hg : Gl X "enumerate") (hm : X.mg "enumerate" = none) (ha : PA X [e] ta) (hs : starEach [e] X.env = [(false, eval e X.env)] := by rfl) :
    PI X (.Tuple elts kk tpos) (.Call (.Name "enumerate" p) [e] [] pos) (iEnumA X.K ta) := by
  refine ⟨fun pins s σ H R I h => Call_ (ld_blt I hg hm boot_enumerate (PyProof.Rows.callWith_type1 (thn (ha.run pos pins s σ H _ I h) fun us s1 ⟨vs, H1, I1, r1, a, xs, ex, hq⟩ => ?_) hs rfl))⟩
  subst ex
  cases r1 with
  | cons r rr =>
    cases rr
    cases r
    have fp : ∀ b ∈ [s1.heap.objs.size + 1, s1.heap.objs.size], FpOk X pins H1 b := fun b hb => by
      have hle : s1.heap.objs.size ≤ b := by
        rcases (show b = s1.heap.objs.size + 1 ∨ b = s1.heap.objs.size by simpa using hb) with z | z
        · exact z ▸ Nat.le_add_right _ _
        · exact z ▸ Nat.le_refl _
      exact I1.fpOk hle (I1.hok.fresh hle)
    rcases hq with ⟨hq, q⟩ | ⟨hq, q⟩
    · obtain ⟨its, rv, p', hz⟩ := I1.list hq
      refine call_enumerate_list p'.isList fun h' he hit hsz hk => wpAny_pyIter_enum he ?_
      exact ⟨s1.heap.objs.size + 1, _, _, _, H1, rfl, I1.kept (t' := s1.toks) hk, turn_enum a (s1.heap.objs.size + 1) s1.heap.objs.size, ⟨⟨.none, he⟩, hit, Nat.succ_ne_self _⟩, fp, q⟩
    · obtain ⟨its, rv, p', hz⟩ := I1.tuple hq
      refine zEnumCall (show s1.heap.IsTuple a its.toArray from p') fun h' he hit hsz hk => wpAny_pyIter_enum he ?_
      exact ⟨s1.heap.objs.size + 1, _, _, _, H1, rfl, I1.kept (t' := s1.toks) hk, turn_enumT a (s1.heap.objs.size + 1) s1.heap.objs.size, ⟨⟨.none, he⟩, hit, Nat.succ_ne_self _⟩, fp, q⟩
theorem walk_enumT {K : PySem.W.Frag} {a : Addr} {xs : List V} : Walk (IteT K a) xs.length (fun H => SqT K H a xs) (YPair (fun i => some (.int (i : Nat))) (fun i => xs[i]?)) :=
  ⟨fun i H hi g => ⟨xs, xs[i], g, by simp [hi]⟩, fun H g => ⟨xs, g, Nat.le_refl _⟩, fun i H x H' hi g y => by
    obtain ⟨T, z, e1, e2, e3, e4⟩ := y
    exact ⟨T, _, z, e1, e2, e3, rfl, e4 xs g⟩⟩
section
variable {K : PySem.W.Frag} {σ : L2.St} {H G : Hp} {W : Wl} {nx : L2.St → Hp → Prop} {rt : VK} {tb : TS} {a : Addr} {xs : List V} {ta : TA} {R : It → Hp → Prop}
theorem st_iEnumA (h : ta σ H fun vs H1 => ∃ a xs, vs = [.ref a] ∧ ((SqL K H1 a xs ∧ R (Ite K a) H1) ∨ (SqT K H1 a xs ∧ R (IteT K a) H1))) : iEnumA K ta σ H R := h
/-- for i, x in enumerate(a list or tuple) -/
theorem for_enumA (hx : SqL K G a xs ∨ SqT K G a xs) {i1 i2 : Nat} (I : Nat → L2.St → Hp → Wl → Prop) (w : Wd G W H) (h0 : I 0 σ G W)
    (hs : ∀ (i : Nat) x σ' G' G'' W' H', xs[i]? = some x → Same G G' → I i σ' G' W' → Same G' G'' → Wd G'' W' H' → tb ⟨Btw I G (i + 1), rt, nx, Btw I G (i + 1)⟩ ((σ'.set i1 (some (.int (i : Int)))).set i2 (some x)) H')
    (hd : ∀ σ' G' W' H', Same G G' → Wd G' W' H' → I xs.length σ' G' W' → nx σ' H') :
    ∃ a' ys, [V.ref a] = [.ref a'] ∧ ((SqL K H a' ys ∧ LoopQ (Ite K a') (gTup K 2 (gCons (gName i1) (gCons (gName i2) gNil))) tb nx rt σ H) ∨ (SqT K H a' ys ∧ LoopQ (IteT K a') (gTup K 2 (gCons (gName i1) (gCons (gName i2) gNil))) tb nx rt σ H)) := by
  have step : ∀ (i : Nat) (x : V) (σ' : L2.St) (G' : Hp) (W' : Wl) (H' H'' : Hp), i < xs.length → Same G G' → Wd G' W' H' → I i σ' G' W' → YPair (fun i => some (.int (i : Nat))) (fun i => xs[i]?) i H' x H'' →
      gTup K 2 (gCons (gName i1) (gCons (gName i2) gNil)) x σ' H'' fun σ2 H2 => tb ⟨Btw I G (i + 1), rt, nx, Btw I G (i + 1)⟩ σ2 H2 := fun i x σ' G' W' H' H'' _ e w' h y => by
    obtain ⟨T, x1, x2, rfl, hn, rfl, e1, e2⟩ := y
    cases e1
    refine ⟨T, _, rfl, SqT.of upd_same, rfl, _, _, rfl, ?_⟩
    refine ⟨_, _, rfl, ?_⟩
    exact ⟨rfl, hs i x2 σ' G' _ W' _ e2 e h (same_upd (w'.free hn)) (w'.new hn)⟩
  rcases hx with hx | hx
  · exact ⟨a, xs, rfl, .inl ⟨seq_up w hx, loop_go walk_enum I w (fun _ _ _ e w' => seq_up w' (e.seq hx)) h0 step hd⟩⟩
  · exact ⟨a, xs, rfl, .inr ⟨tup_up w hx, loop_go walk_enumT I w (fun _ _ _ e w' => tup_up w' (seqT e hx)) h0 step hd⟩⟩
end

/-! ### a list or a tuple -/
def iSeqA (K : PySem.W.Frag) (tl : TE) : TI := fun σ H R => iList K tl σ H R ∨ iTup K tl σ H R
theorem pi_seqA {X : Cx} {tg l : Expr} {tl : TE} (h : PE X l tl) : PI X tg l (iSeqA X.K tl) := ⟨fun pins s σ H R I q => q.elim (fun q => (pi_list h).run pins s σ H R I q) fun q => (pi_tup h).run pins s σ H R I q⟩
section
variable {K : PySem.W.Frag} {σ : L2.St} {H G : Hp} {W : Wl} {nx : L2.St → Hp → Prop} {rt : VK} {g : TG} {tb : TS} {a : Addr} {xs : List V} {tl : TE} {tt : TT} {te : TE} {vs : List Nat} {Q : VK} {j : Nat}
theorem for_seq (ht : ∀ Q : VK, Q (.ref a) H → tl σ H Q) (hx : SqL K G a xs ∨ SqT K G a xs) (I : Nat → L2.St → Hp → Wl → Prop) (w : Wd G W H) (h0 : I 0 σ G W)
    (hs : ∀ i x σ' G' W' H', xs[i]? = some x → Same G G' → Wd G' W' H' → I i σ' G' W' → g x σ' H' fun σ2 H2 => tb ⟨Btw I G (i + 1), rt, nx, Btw I G (i + 1)⟩ σ2 H2)
    (hd : ∀ σ' G' W' H', Same G G' → Wd G' W' H' → I xs.length σ' G' W' → nx σ' H') : iSeqA K tl σ H fun J H1 => LoopQ J g tb nx rt σ H1 := by
  rcases hx with hx | hx
  · exact .inl (st_iList (ht _ (for_l hx I w h0 hs hd)))
  · exact .inr (st_iTup (ht _ (for_t hx I w h0 hs hd)))
theorem lc_t (hx : SqT K G a xs) (I : Nat → List V → Hp → Prop) (w : Wd G W H) (h0 : I 0 [] G) (hw : ∀ x, wipe ((wipe σ vs).set j x) vs = wipe σ vs)
    (hs : ∀ (i : Nat) x D G' H' acc, xs[i]? = some x → Same G G' → Wd G' ((D, Is (.lst acc)) :: W) H' → I i acc G' → tt ((wipe σ vs).set j (some x)) H' fun b H3 =>
      if b = true then te ((wipe σ vs).set j (some x)) H3 fun y H4 => ∃ acc, H4 D = some (.lst acc) ∧ acc.length < sizeLine ∧ LcB I G W D (i + 1) (upd H4 D (.lst (acc ++ [y]))) else LcB I G W D (i + 1) H3)
    (hd : ∀ D G' H' acc, Same G G' → Wd G' ((D, Is (.lst acc)) :: W) H' → I xs.length acc G' → Q (.ref D) H') : ∃ a', V.ref a = .ref a' ∧ (∃ xs, SqT K H a' xs) ∧ LcQ (Itt K a') (gName j) tt te vs σ H Q :=
  ⟨a, rfl, ⟨xs, tup_up w hx⟩, lc_go walk_tup I w (fun _ _ _ e w' => tup_up w' (seqT e hx)) h0 (fun i x D G' H' H'' acc _ e w' h y => by
    obtain ⟨rfl, y⟩ := y
    exact ⟨hw _, hs i x D G' H'' acc y e w' h⟩) hd⟩
theorem lc_seq (ht : ∀ Q : VK, Q (.ref a) H → tl σ H Q) (hx : SqL K G a xs ∨ SqT K G a xs) (I : Nat → List V → Hp → Prop) (w : Wd G W H) (h0 : I 0 [] G) (hw : ∀ x, wipe ((wipe σ vs).set j x) vs = wipe σ vs)
    (hs : ∀ (i : Nat) x D G' H' acc, xs[i]? = some x → Same G G' → Wd G' ((D, Is (.lst acc)) :: W) H' → I i acc G' → tt ((wipe σ vs).set j (some x)) H' fun b H3 =>
      if b = true then te ((wipe σ vs).set j (some x)) H3 fun y H4 => ∃ acc, H4 D = some (.lst acc) ∧ acc.length < sizeLine ∧ LcB I G W D (i + 1) (upd H4 D (.lst (acc ++ [y]))) else LcB I G W D (i + 1) H3)
    (hd : ∀ D G' H' acc, Same G G' → Wd G' ((D, Is (.lst acc)) :: W) H' → I xs.length acc G' → Q (.ref D) H') : iSeqA K tl σ H fun J H1 => LcQ J (gName j) tt te vs σ H1 Q := by
  rcases hx with hx | hx
  · exact .inl (st_iList (ht _ (lc_l hx I w h0 hw hs hd)))
  · exact .inr (st_iTup (ht _ (lc_t hx I w h0 hw hs hd)))
end
end Z

/-! defs that ask what guards stand around them (repr of data) -/
namespace Z
open PySem PySem.Spec PyProof.Rows L2
/-- a promise kept where no guard stands around -/
structure FnG (P : Program) (w : World) (K : PySem.W.Frag) (mg : Str → Option Value) (base : Heap) (k : Nat) (f : Addr) (fd : FuncData) (ps : List Str) (sp : Sp) : Prop where
  len : ∀ vs H Q E, sp vs H Q E → vs.length = ps.length
  run : ∀ (A : Around) (outer : List Env) (s : Shared) (H : Hp) (args : Args) (us : List Value) (vs : List V) (Q : VK) (E : XK), Room k A → A.guards = some [] → Env0 P w K mg base A outer s H → BindsTo s fd args (ps.zip us) → Vals vs us → sp vs H Q E →
    codeAny (model P w) A (.call (.ref f) args) (CR CX0 outer P w H s Q E) s
theorem FnG.of {P : Program} {w : World} {K : PySem.W.Frag} {mg : Str → Option Value} {base : Heap} {k : Nat} {f : Addr} {fd : FuncData} {ps : List Str} {sp : Sp} (F : FnOk P w K mg base CX0 k f fd ps sp) : FnG P w K mg base k f fd ps sp :=
  ⟨F.len, fun A outer s H args us vs Q E hr _ e0 hb r h => F.run A outer s H args us vs Q E hr e0 hb r h⟩
section
variable {P : Program} {w : World} {K : PySem.W.Frag} {mg : Str → Option Value} {base : Heap} {x qual : Str} {params : Arguments} {body : List Stmt} {scope : Scope} {dvs : List V} {kws : List (Str × V)} {f : Addr} {fd : FuncData}
theorem okG {N ps : List Str} {k : Nat} {sp : Sp} (F : FunD K x qual params body scope dvs kws f fd) (S : FnScope N ps scope) (len : ∀ vs H Q E, sp vs H Q E → vs.length = ps.length)
    (hbody : ∀ (cdv : Value) (A : Around) (outer : List Env) (s : Shared) (H : Hp) (vs : List V) (Q : VK) (E : XK), A.guards = some [] → Room k (A.deeper (envOfC qual scope s.heap.objs.size f cdv)) → sp vs H Q E →
      ∃ t, PSs (cxOf CX0 P w K mg base N qual scope f cdv A outer s H E).nox body t ∧ t { nx := fun _ H' => Q .non H', rt := Q } (start N vs) H) : FnG P w K mg base (k + 1) f fd ps sp := by
  obtain ⟨oc, od, dV, kV, doc, pm, an, cdv, ct, osl, rfl, lk, hcd, _, _⟩ := F.ex
  refine ⟨len, fun A outer s H args us vs Q E hr hgd e0 hb r hsp => ?_⟩
  have KX : K.In s.heap := e0.mod.kin.keeps fun b o e => (e0.bs b o e).1
  have kd : ∀ y ∈ ps.zip us, scope.names.lookup y.1 = some .local ∨ (scope.names.lookup y.1 = some .cell ∧ ((cellsFrom (s.heap.objs.size + 1) scope.names []).lookup y.1).isSome = true) := fun y hy =>
    (S.par y.1 (List.of_mem_zip (a := y.1) (b := y.2) hy).1).imp (fun q => q) fun q => ⟨q, PySem.W.cellsFrom_some _ _ _ (.inl q)⟩
  refine codeAny_call_function hr.depth (KX _ _ lk) rfl S.co S.gen rfl (PySem.W.codeRec_of KX hcd) (hb _ _ _ _ (wpAny_newFunctionEnv_cells S.kind kd fun env he s1 y => ?_))
  cases he
  obtain ⟨t, ht, hq⟩ := hbody cdv A outer s H vs Q E hgd (hr.deeper _) hsp
  refine ⟨(e0.mod.nolimit.keeps fun b o e => (e0.bs b o e).1).keeps y.toInCall.keep, codeAny_func (wpAny_mono (ht.nox.run [] s1 (start N vs) H _ (inv_start S hr.hd e0 (len _ _ _ _ hsp) r y) hq) (fun fl s' hs => ?_) fun e s' hs => hs)⟩
  cases fl with
  | ret u => exact let ⟨v, _, H', J, rv, q⟩ := hs; ⟨v, H', J.os, J.bare, J.base, J.hok, rv, q⟩
  | next => exact let ⟨_, H', J, q⟩ := hs; ⟨.non, H', J.os, J.bare, J.base, J.hok, rfl, q⟩
  | brk => exact let ⟨_, _, _, q⟩ := hs; False.elim q
  | cont => exact let ⟨_, _, _, q⟩ := hs; False.elim q
end
section
variable {X : Cx} {k n : Nat} {f : Addr} {fd : FuncData} {ps ks : List Str} {ds : List Value} {dvs : List V} {sp : Sp} {E : XK} {x : Str} {p pos : Pos} {e : Expr} {es : List Expr} {kws : List Keyword} {t tk : TA} {g : List Value → List Value → List Value} {gV : List V → List V → List V}
theorem run_fnG {pins : List (Addr × Obj)} {σ : L2.St} {H : Hp} {s : Shared} {Q : VK} {us : List Value} {vs : List V} (F : FnG X.prog X.w X.K X.mg X.base k f fd ps sp) (hr : Room k X.A) (hgd : X.A.guards = some []) (hb : Binds X.K fd ps ds) (hd : Vals dvs ds)
    (I : Inv X pins σ H s) (r : Vals vs us) (h : sp (vs ++ dvs) H Q E) : wpAny (model X.prog X.w) X.A (call (.ref f) us) (EP X pins σ Q) X.xe s := by
  have r2 := r.append hd
  refine wpAny_call (codeAny_mono (F.run X.A X.stack s H ⟨us, []⟩ _ _ Q E hr hgd I.env0 (hb s us I.kIn (r2.length.symm.trans (F.len _ _ _ _ h))) r2 h) fun r s' hq => ?_)
  cases r with
  | error e => exact False.elim hq
  | ok fl => cases fl with
    | ret u => exact I.after hq
    | _ => exact False.elim hq
theorem pe_callG (F : FnG X.prog X.w X.K X.mg X.base k f fd ps sp) (hr : Room k X.A) (hgd : X.A.guards = some []) (hg : Gl X x) (hm : X.mg x = some (.ref f)) (hk : PySem.W.keepIn X.K (.ref f) = true) (hb : Binds X.K fd ps ds) (hd : Vals dvs ds)
    (ha : PA X (e :: es) t) (hdb : (x == ("__debug__" : Str)) = false := by decide) (he : starEach (e :: es) X.env = (false, eval e X.env) :: starEach es X.env := by rfl) (hpl : (backTo pos (starEach es X.env)).any (·.1) = false := by rfl) :
    PE X (.Call (.Name x p) (e :: es) [] pos) (tCall sp dvs E0 t) :=
  ⟨fun pins s σ H Q I h => wpAny_Call_Name_kw (ld_glob I hg hm (PySem.W.callWith_K (h₀ := X.base) I.ok.mod.kin hk (thn (ha.run pos pins _ σ H _ (I.tok _) h) fun us s1 ⟨vs, H1, I1, r, q⟩ => ⟨I1.kIn, run_fnG (E := E0) F hr hgd hb hd I1 r q⟩) he hpl) hdb)⟩
/-- repr of data -/
def rRepr (K : PySem.W.Frag) : List V → Hp → VK → Prop := fun xs H Q => ∃ x d, xs = [x] ∧ Dp K H x d ∧ d.showable = true ∧ d.canLay0 = true ∧ d.depth ≤ 60 ∧ d.shown.length ≤ sizeLine ∧ Q (.str d.shown) H
theorem call_reprD (hgd : X.A.guards = some []) (hu : X.A.units + 64 < cLine) : CallR X (.builtin "repr") (rRepr X.K) := by
  intro pins s σ H xs us Q I r h
  obtain ⟨x, d, rfl, hd, hs, hc, hp, hz, q⟩ := h
  obtain ⟨u, rfl, rx⟩ := vals1 r
  obtain ⟨as, rd⟩ := Dp.reads I d x u hd rx
  cases hd with
  | non =>
    cases rx
    exact PySem.P.repr_of_none ⟨.str _, H, I.tok _, ⟨_, rfl⟩, q⟩
  | bl b =>
    cases rx
    refine PySem.P.repr_of_bool ⟨.str _, H, I.tok _, ⟨_, rfl⟩, ?_⟩
    simpa [PyData.shown] using q
  | int i =>
    obtain ⟨t, rfl⟩ := rx
    refine PySem.P.repr_of_int (by simpa [PyData.showable] using hs) ⟨.str _, H, I.tok _, ⟨_, rfl⟩, ?_⟩
    simpa [PyData.shown] using q
  | str z =>
    obtain ⟨t, rfl⟩ := rx
    refine PySem.P.repr_of_str ⟨.str _, H, I.tok _, ⟨_, rfl⟩, ?_⟩ (by simpa [PyData.shown] using hz)
    simpa [PyData.shown] using q
  | lst _ _ =>
    cases rx
    exact repr_of_reads' rd hs (PyData.noDict_hsm (PyData.hasDict_of_canLay _ hc)) hgd (by omega) (fun _ _ e => e) (fun h' u tk hk => ⟨.str _, H, I.kept (t' := tk) hk, ⟨_, rfl⟩, q⟩) hz
  | tup _ _ =>
    cases rx
    exact repr_of_reads' rd hs (PyData.noDict_hsm (PyData.hasDict_of_canLay _ hc)) hgd (by omega) (fun _ _ e => e) (fun h' u tk hk => ⟨.str _, H, I.kept (t' := tk) hk, ⟨_, rfl⟩, q⟩) hz
end

/-! ### lists of ints put together -/
section
variable {K : PySem.W.Frag} {G H : Hp} {W : Wl} {Q : VK} {a b : Addr}
/-- a list of ints that stands whole -/
def HL (G : Hp) (a : Addr) (ns : List Int) : Prop := G a = some (.lst (ns.map V.int))
theorem HL.seq {ns : List Int} (h : HL G a ns) : SqL K G a (ns.map V.int) := SqL.of h
theorem HL.up {G' : Hp} {ns : List Int} (h : HL G a ns) (e : Same G G') : HL G' a ns := e _ _ h
theorem st_catI {xs ys : List Int} (ha : H a = some (.lst (xs.map V.int))) (hb : H b = some (.lst (ys.map V.int))) (hz : xs.length + ys.length ≤ 1000000) (w : Wd G W H) (k : ∀ p G' H', Same G G' → Wd G' W H' → HL G' p (xs ++ ys) → Q (.ref p) H') : rCat (.ref a) (.ref b) H Q := by
  refine ⟨a, b, _, _, rfl, rfl, ha, hb, small (by rw [List.length_map, List.length_map]; exact hz), fun p hp => ?_⟩
  rw [← List.map_append]
  exact k p _ _ (same_upd (w.free hp)) (w.new hp) upd_same
theorem st_catV {xs ys : List V} (ha : H a = some (.lst xs)) (hb : H b = some (.lst ys)) (hz : xs.length + ys.length ≤ 1000000) (w : Wd G W H) (k : ∀ p G' H', Same G G' → Wd G' W H' → G' p = some (.lst (xs ++ ys)) → Q (.ref p) H') : rCat (.ref a) (.ref b) H Q :=
  ⟨a, b, _, _, rfl, rfl, ha, hb, small hz, fun p hp => k p _ _ (same_upd (w.free hp)) (w.new hp) upd_same⟩
theorem flat_rep {α : Type} (n : Nat) (x : α) : (List.replicate n [x]).flatten = List.replicate n x := by
  induction n with
  | zero => rfl
  | succ n ih => rw [List.replicate_succ, List.flatten_cons, ih]; rfl
theorem st_repI {x k : Int} (ha : H a = some (.lst [.int x])) (h0 : 0 ≤ k) (h1 : k ≤ 1000000) (w : Wd G W H) (q : ∀ p G' H', Same G G' → Wd G' W H' → HL G' p (List.replicate k.toNat x) → Q (.ref p) H') : rRep (.ref a) (.int k) H Q := by
  refine ⟨a, k, _, rfl, rfl, ha, by omega, by omega, small (by simp; omega), fun p hp => ?_⟩
  rw [flat_rep]
  exact q p _ _ (same_upd (w.free hp)) (w.new hp) (by unfold HL; rw [upd_same, List.map_replicate])
theorem st_repI2 {xs : List Int} {k : Int} (ha : H a = some (.lst (xs.map V.int))) (h0 : 0 ≤ k) (h1 : xs.length * k.toNat ≤ 1000000) (h2 : k ≤ 1000000) (w : Wd G W H) (q : ∀ p G' H', Same G G' → Wd G' W H' → HL G' p (List.replicate k.toNat xs).flatten → Q (.ref p) H') : rRep (.ref a) (.int k) H Q := by
  refine ⟨a, k, _, rfl, rfl, ha, by omega, by omega, small (by rw [List.length_map]; exact h1), fun p hp => ?_⟩
  exact q p _ _ (same_upd (w.free hp)) (w.new hp) (by unfold HL; rw [upd_same, List.map_flatten, List.map_replicate])
theorem iteBT {c : Bool} {a b : Prop} (h : c = true) (q : a) : if c = true then a else b := by rw [if_pos h]; exact q
theorem iteBF {c : Bool} {a b : Prop} (h : c = false) (q : b) : if c = true then a else b := by rw [h]; exact L2.iteF q
theorem iteNT {a b : Prop} (h : a) : if (!false) = true then a else b := L2.iteT h
theorem iteNF {a b : Prop} (h : b) : if (!true) = true then a else b := L2.iteF h
theorem mem_two {v x y : V} {P : V → Prop} (h : v ∈ [x, y]) (h1 : P x) (h2 : P y) : P v := by
  rcases List.mem_cons.mp h with rfl | h
  · exact h1
  · rcases List.mem_cons.mp h with rfl | h
    · exact h2
    · exact nomatch h
end
section
variable {K : PySem.W.Frag} {H : Hp}
def dT (ns : List Int) : PyData := .tuple (ns.map .int)
theorem dp_tints {a : Addr} {ns : List Int} (h : SqT K H a (ns.map V.int)) : Dp K H (.ref a) (dT ns) := .tup h (dpInts ns)
theorem sh_tints (ns : List Int) : Sh 1 (dT ns) := Sh.tuple fun d hd => by
  obtain ⟨n, _, rfl⟩ := List.mem_map.mp hd
  exact .int n
theorem eqv_dT (a b : List Int) : PyData.eqv (dT a) (dT b) = decide (a = b) := by
  unfold dT PyData.eqv
  exact eqvAll_map _ eqv_int a b
/-- tuples of ints -/
theorem st_eqT {Q : VK} {a b : Addr} (xs ys : List Int) (hx : SqT K H a (xs.map V.int)) (hy : SqT K H b (ys.map V.int)) (q : Q (.bl (decide (xs = ys))) H) : rEqD K (.ref a) (.ref b) H Q :=
  st_eqD (dp_tints hx) (dp_tints hy) ((sh_tints xs).ok (by decide)) ((sh_tints ys).ok (by decide)) (eqv_dT xs ys) q
theorem st_neT {Q : VK} {a b : Addr} (xs ys : List Int) (hx : SqT K H a (xs.map V.int)) (hy : SqT K H b (ys.map V.int)) (q : Q (.bl (!decide (xs = ys))) H) : rNeD K (.ref a) (.ref b) H Q :=
  st_neD (dp_tints hx) (dp_tints hy) ((sh_tints xs).ok (by decide)) ((sh_tints ys).ok (by decide)) (eqv_dT xs ys) q
end
/-- all of a list -/
def AllP {α : Type} (P : α → Prop) : List α → Prop
  | [] => True
  | x :: xs => P x ∧ AllP P xs
theorem AllP.app {α : Type} {P : α → Prop} : ∀ {xs ys : List α}, AllP P xs → AllP P ys → AllP P (xs ++ ys)
  | [], _, _, h => h
  | _ :: _, _, h, h2 => ⟨h.1, AllP.app h.2 h2⟩
theorem AllP.of {α : Type} {P : α → Prop} : ∀ {xs : List α}, AllP P xs → ∀ x ∈ xs, P x
  | _ :: _, h, _, hx => by
    rcases List.mem_cons.mp hx with rfl | hx
    · exact h.1
    · exact AllP.of h.2 _ hx
/-! ### comprehensions whose elements change what may change -/
section
variable {K : PySem.W.Frag} {σ : L2.St} {H G : Hp} {D : Addr} {g : TG} {tt : TT} {te : TE} {vs : List Nat} {Q : VK} {a b : Addr} {xs ys : List V} {n : Nat}
theorem lc_goW {J : It} {Gp : Hp → Prop} {Y : Nat → Hp → V → Hp → Prop} (wk : Walk J n Gp Y) (Wf : Nat → Wl) (I : Nat → List V → Hp → Prop) (w : Wd G (Wf 0) H) (hG : ∀ G' W' H', Same G G' → Wd G' W' H' → Gp H') (h0 : I 0 [] G)
    (hs : ∀ i x D G' H' H'' acc, i < n → Same G G' → Wd G' ((D, Is (.lst acc)) :: Wf i) H' → I i acc G' → Y i H' x H'' → g x (wipe σ vs) H'' fun σ2 H2 => wipe σ2 vs = wipe σ vs ∧ tt σ2 H2 fun b H3 =>
      if b = true then te σ2 H3 fun y H4 => ∃ acc, H4 D = some (.lst acc) ∧ acc.length < sizeLine ∧ LcB I G (Wf (i + 1)) D (i + 1) (upd H4 D (.lst (acc ++ [y]))) else LcB I G (Wf (i + 1)) D (i + 1) H3)
    (hd : ∀ D G' H' acc, Same G G' → Wd G' ((D, Is (.lst acc)) :: Wf n) H' → I n acc G' → Q (.ref D) H') : LcQ J g tt te vs σ H Q := fun D hD =>
  lc_it wk (fun i => LcB I G (Wf i) D i) ⟨G, [], Same.refl _, w.newM hD rfl, h0⟩ (fun _ _ _ ⟨_, _, e, w', _⟩ => hG _ _ _ e w') (fun i x H' H'' hi ⟨G', acc, e, w', h⟩ y => hs i x D G' H' H'' acc hi e w' h y) fun H' ⟨G', acc, e, w', h⟩ => hd D G' H' acc e w' h
theorem lc_r1W {z : Int} {j : Nat} (hz : -(2 ^ 62) ≤ z ∧ z < 2 ^ 62) (Wf : Nat → Wl) (I : Nat → List V → Hp → Prop) (w : Wd G (Wf 0) H) (h0 : I 0 [] G) (hw : ∀ x, wipe ((wipe σ vs).set j x) vs = wipe σ vs)
    (hs : ∀ (i : Nat) D G' H' acc, (i : Int) < z → Same G G' → Wd G' ((D, Is (.lst acc)) :: Wf i) H' → I i acc G' → tt ((wipe σ vs).set j (some (.int (i : Int)))) H' fun b H3 =>
      if b = true then te ((wipe σ vs).set j (some (.int (i : Int)))) H3 fun y H4 => ∃ acc, H4 D = some (.lst acc) ∧ acc.length < sizeLine ∧ LcB I G (Wf (i + 1)) D (i + 1) (upd H4 D (.lst (acc ++ [y]))) else LcB I G (Wf (i + 1)) D (i + 1) H3)
    (hd : ∀ D G' H' acc, Same G G' → Wd G' ((D, Is (.lst acc)) :: Wf z.toNat) H' → I z.toNat acc G' → Q (.ref D) H') : ∃ j' : Int, [V.int z] = [.int j'] ∧ -(2 ^ 62) ≤ j' ∧ j' < 2 ^ 62 ∧ LcQ (Itr 0 j'.toNat) (gName j) tt te vs σ H Q :=
  ⟨z, rfl, hz.1, hz.2, lc_goW walk_range Wf I w (fun _ _ _ _ _ => trivial) h0 (fun i x D G' H' H'' acc hi e w' h y => by
    obtain ⟨rfl, rfl⟩ := y
    have e0 : (0 : Int) + (i : Int) = (i : Int) := Int.zero_add _
    dsimp only
    rw [e0]
    exact ⟨hw _, hs i D G' H'' acc (by omega) e w' h⟩) hd⟩
end
section
variable {K : PySem.W.Frag} {σ : L2.St} {H G : Hp} {W : Wl} {Q : VK} {a b : Addr} {xs ys : List V}
theorem st_chain {r r' : R2} {ta tb tc : TE} (h : ta σ H fun x H1 => tb σ H1 fun y H2 => r x y H2 fun z H3 => ∃ k, z = .bl k ∧ (if k = true then tc σ H3 fun w' H4 => r' y w' H4 Q else Q (.bl false) H3)) : tChain r r' ta tb tc σ H Q := h
theorem st_gtup {n : Nat} {t : TGs} {QS : L2.St → Hp → Prop} (hx : SqT K H a xs) (hl : xs.length = n) (h : t xs σ H QS) : gTup K n t (.ref a) σ H QS := ⟨a, xs, rfl, hx, hl, h⟩
theorem st_gcons {v : V} {r : List V} {t : TG} {u : TGs} {QS : L2.St → Hp → Prop} (h : t v σ H fun σ' H' => u r σ' H' QS) : gCons t u (v :: r) σ H QS := ⟨v, r, rfl, h⟩
theorem st_gnil {QS : L2.St → Hp → Prop} (h : QS σ H) : gNil [] σ H QS := ⟨rfl, h⟩
theorem Wd.is1 {o : HO} (w : Wd G ((a, Is o) :: W) H) : H a = some o := by
  obtain ⟨o', h, rfl⟩ := w.get List.mem_cons_self
  exact h
theorem st_appL {y : V} (h : H a = some (.lst xs)) (hl : xs.length < 1000000) (q : Q .non (upd H a (.lst (xs ++ [y])))) : rAppend (.ref a) [y] H Q := ⟨a, xs, y, rfl, rfl, h, small' (Nat.le_of_lt hl), q⟩
theorem st_sl {r : V → Option Int → Option Int → Hp → VK → Prop} {te : TE} {tl th : TO} (h : te σ H fun x H1 => tl σ H1 fun l H2 => th σ H2 fun u H3 => r x l u H3 Q) : tSl r te tl th σ H Q := h
theorem st_noPart {Q : Option Int → Hp → Prop} (q : Q none H) : tNoPart σ H Q := q
theorem st_part {Q : Option Int → Hp → Prop} {t : TE} (h : t σ H fun x H1 => ∃ i, x = .int i ∧ Q (some i) H1) : tPart t σ H Q := h
theorem cut_lo {xs : List V} {i : Int} (h0 : 0 ≤ i) (h1 : i ≤ xs.length) : cutV xs none (some i) = xs.take i.toNat := by
  unfold cutV
  simp only [HT.sIx, if_neg (show ¬ i < 0 by omega)]
  rw [List.drop_zero, Nat.sub_zero, Nat.min_eq_left (by omega)]
theorem cut_hi {xs : List V} {i : Int} (h0 : 0 ≤ i) (h1 : i ≤ xs.length) : cutV xs (some i) none = xs.drop i.toNat := by
  unfold cutV
  simp only [HT.sIx, if_neg (show ¬ i < 0 by omega)]
  rw [Nat.min_eq_left (by omega), List.take_of_length_le]
  rw [List.length_drop]
  omega
theorem st_slL {lo hi : Option Int} (h : SqL K H a xs) (w : Wd G W H) (q : ∀ p G' H', Same G G' → Wd G' W H' → G' p = some (.lst (cutV xs lo hi)) → Q (.ref p) H') : rSlL K (.ref a) lo hi H Q := ⟨a, xs, rfl, h, NewO.good w q⟩
theorem dw_ok {i j : Int} (h0 : 0 < j) (h1 : j < 2 ^ 250) : CDivW i j := by
  have h2 : j.natAbs.log2 < 250 := (Nat.log2_lt (by omega)).mpr (by omega)
  exact ⟨h0, by omega⟩
theorem pw_ok {i j : Int} (h0 : 0 ≤ i) (h1 : i < 2 ^ 100) (h2 : 0 ≤ j) (h3 : j ≤ 1000) : CPowW i j := by
  refine ⟨h2, ?_⟩
  have h4 : Builtin.Int.intBits i ≤ 100 := PyProof.Rows.intBits_le (by omega)
  have h5 : (Builtin.Int.intBits i : Int) ≤ 100 := by omega
  have h6 := Int.mul_le_mul h5 h3 h2 (by decide)
  omega
end
/-! ### the law itself -/
section
variable {P : Program} {w : World} {K : PySem.W.Frag} {mg mb : Str → Option Value} {k : Nat} {fa a : Addr} {fd : FuncData} {x : Str} {sp : Sp} {s₁ : Shared} {vs : List Value} {ns : List Int}
/-- the heap behind the top without what H tells -/
theorem hid_ns {h : Heap} {H : Hp} {b : Addr} {m : Str → Option Value} {va : Array Value} (hA : ∀ b, H b ≠ none → b = a) (ha : h.get? a = some { cls := .type "list", data := .seq va }) (n : h.Ns b m) : (hidT h H).Ns b m := by
  obtain ⟨o, es, ep, e, d, r⟩ := n
  refine ⟨o, es, ep, hidT_get e ?_, d, r⟩
  cases q : H b with
  | none => rfl
  | some u =>
    rw [hA b (by rw [q]; exact fun z => nomatch z), ha] at e
    have e2 := Option.some.inj e
    rw [← e2] at d
    exact nomatch d
theorem law_core (KX : K.In s₁.heap) (hns : s₁.heap.Ns mainGlobals mg) (hb : s₁.heap.Ns builtinsNs mb) (hbb : ∀ x : Str, x ≠ "__name__" → mb x = bootBuiltins x) (hlim : s₁.heap.NoLimit) (hg : s₁.gens = #[])
    (ha : s₁.heap.get? a = some { cls := .type "list", data := .seq vs.toArray }) (hr : Room k callerA) (F : ∀ base : Heap, K.In base → base.Ns mainGlobals mg → FnG P w K mg base k fa fd [x] sp) (hbind : ∀ (s : Shared) (u : Value), BindsTo s fd ⟨[u], []⟩ [(x, u)])
    {H : Hp} (hO : Only H) (hsp : sp [.ref a] H (fun v _ => v = .bl true) fun _ _ _ => False) (hok : HOk P w H s₁.heap) (hA : ∀ b, H b ≠ none → b = a) (hK : H a ≠ none → K.lookup a = none) :
    codeAny (model P w) callerA (.call (.ref fa) ⟨[.ref a], []⟩) (fun r s' => r = .ok (.ret (.bool true)) ∧ OldK s₁.heap s'.heap ∧ s'.os = s₁.os ∧ AllBare s'.gens) s₁ := by
  have hKb : K.In (hidT s₁.heap H) := fun b o e => hidT_get (KX b o e) (by
    cases q : H b with
    | none => rfl
    | some u =>
      have n : H b ≠ none := by rw [q]; exact fun z => nomatch z
      have eb := hA b n
      rw [eb] at n e
      rw [hK n] at e
      exact nomatch e)
  have M : Mod K mg (hidT s₁.heap H) := ⟨hKb, hid_ns hA ha hns, ⟨mb, hid_ns hA ha hb, hbb⟩, let ⟨mc, h1, h2⟩ := hlim; ⟨mc, hid_ns hA ha h1, h2⟩⟩
  have e0 : Env0 P w K mg (hidT s₁.heap H) callerA [] s₁ H := ⟨rfl, M, fun b o e => of_hidT e, Nat.le_of_eq (hidT_size _ _), trivial, fun b z => (List.not_mem_nil z).elim, hok, .of_eq hg⟩
  refine codeAny_mono ((F _ hKb (hid_ns hA ha hns)).run callerA [] s₁ H ⟨[.ref a], []⟩ [.ref a] [.ref a] _ _ hr rfl e0 (hbind s₁ (.ref a)) (.cons rfl .nil) hsp) fun r s' h => ?_
  cases r with
  | error e => exact False.elim h
  | ok fl => cases fl with
    | ret u =>
      obtain ⟨v, H', os, bare, un, hok', r', q⟩ := h
      cases (show v = .bl true from q)
      cases (show u = Value.bool true from r')
      refine ⟨rfl, OldK.of_keep fun b o e => ?_, os, bare⟩
      cases z : H b with
      | none => exact un.keep b o e z (List.not_mem_nil) (List.not_mem_nil)
      | some u =>
        rcases hO b with y | ⟨ob, xs, y⟩
        · rw [z] at y
          cases y
        · have e1 := (hok b _ y).1
          have e2 := (hok' b _ (un.frzs b ob _ y)).1
          rw [e] at e1
          cases e1
          exact e2
    | _ => exact False.elim h
theorem law_callG (KX : K.In s₁.heap) (hns : s₁.heap.Ns mainGlobals mg) (hb : s₁.heap.Ns builtinsNs mb) (hbb : ∀ x : Str, x ≠ "__name__" → mb x = bootBuiltins x) (hlim : s₁.heap.NoLimit) (hg : s₁.gens = #[])
    (ha : s₁.heap.get? a = some { cls := .type "list", data := .seq vs.toArray }) (hi : IntsAre vs ns) (hl : ns.length ≤ sizeLine) (hr : Room k callerA) (F : ∀ base : Heap, K.In base → base.Ns mainGlobals mg → FnG P w K mg base k fa fd [x] sp)
    (hbind : ∀ (s : Shared) (u : Value), BindsTo s fd ⟨[u], []⟩ [(x, u)]) (hsp : ∀ H : Hp, Only H → SqL K H a (ns.map V.int) → sp [.ref a] H (fun v _ => v = .bl true) fun _ _ _ => False) :
    codeAny (model P w) callerA (.call (.ref fa) ⟨[.ref a], []⟩) (fun r s' => r = .ok (.ret (.bool true)) ∧ OldK s₁.heap s'.heap ∧ s'.os = s₁.os ∧ AllBare s'.gens) s₁ := by
  have rv := vals_ints hi
  cases hk : K.lookup a with
  | some o =>
    have e := KX a o hk
    rw [ha] at e
    cases e
    have hO : Only fun _ => none := fun _ => .inl rfl
    exact law_core KX hns hb hbb hlim hg ha hr F hbind hO (hsp _ hO (.inr ⟨_, vs.toArray, _, hk, rfl, rfl, rfl, by rw [List.size_toArray, hi.length]; exact hl, by simpa using rv⟩)) (fun b u z => nomatch z) (fun b z => (z rfl).elim) fun z => (z rfl).elim
  | none =>
    have hO : Only fun b => if b = a then some (.frz { cls := .type "list", data := .seq vs.toArray } (.lst (ns.map V.int))) else none := fun b => by
      by_cases z : b = a
      · exact .inr ⟨_, _, if_pos z⟩
      · exact .inl (if_neg z)
    refine law_core KX hns hb hbb hlim hg ha hr F hbind hO (hsp _ hO (.inl (.inr ⟨_, if_pos rfl⟩))) (fun b u z => ?_) (fun b z => ?_) fun _ => hk
    · by_cases y : b = a
      · have z2 := (if_pos y).symm.trans z
        cases z2
        cases y
        exact ⟨ha, by rw [List.length_map]; exact hl, vs, _, rv, ha⟩
      · exact nomatch (if_neg y).symm.trans z
    · exact Decidable.byContradiction fun y => z (if_neg y)
end
theorem walk_G {l : PySem.W.OpenLaw} {n k : Nat} {q : Program} {loose : List Str} {XP : (Str → Option Value) → Heap → Prop} {YP : World → Heap → Prop} {d : DefRec} {K : Params → PySem.W.Frag} {sp : World → Sp} {x : Str} (hn : l.most = some n) (hn2 : n ≤ sizeLine) (hdf : d.params.defaults = [])
    (hr : Room k callerA) (hY : ∀ (w : World) (h : Heap), YP w h → (K w.params).In h)
    (F : ∀ (w : World) (mg : Str → Option Value) (fa : Addr) (h : Heap), (K w.params).In h → h.Ns mainGlobals mg → mg d.name = some (.ref fa) →
      ∃ fd : FuncData, (∀ (s : Shared) (u : Value), BindsTo s fd ⟨[u], []⟩ [(x, u)]) ∧ ∀ base : Heap, (K w.params).In base → base.Ns mainGlobals mg → FnG l.prog w (K w.params) mg base k fa fd [x] (sp w))
    (hsp : ∀ (w : World) (H : Hp) (a : Addr) (ns : List Int), ns.length ≤ n → Only H → SqL (K w.params) H a (ns.map V.int) → sp w [.ref a] H (fun v _ => v = .bl true) fun _ _ _ => False) :
    PySem.W.WalkO q loose XP YP l.row.toRowW d [] (fun f vs => PySem.call f vs) := by
  refine Att.attach_call hn hdf fun w s₀ s₁ mg mb fa o pm cd doc a vs ns G Y ho hd hcd hmg hobj hints hlen hg => ?_
  obtain ⟨fd, hb, hF⟩ := F w mg fa _ (hY w _ Y) G.T.g hmg
  exact law_callG (hY w _ Y) G.T.g G.T.b G.T.builtins G.T.nolimit hg hobj hints (Nat.le_trans hlen hn2) hr hF hb fun H hO hS => hsp w H a ns hlen hO hS
end Z

/-! data of a small size: kinds, repr, places in lists -/
namespace Z
open PySem PySem.Spec PyProof.Rows L2
/-- data whose repr may be asked: n deep -/
def Od (n : Nat) (d : PyData) : Prop := (d.canLay0 && d.showable && d.intsShort 60) = true ∧ d.depth ≤ n ∧ d.weight ≤ 200 * 10 ^ n
instance (n : Nat) (d : PyData) : Decidable (Od n d) := by unfold Od; infer_instance
theorem Od.mono {m n : Nat} {d : PyData} (h : Od m d) (e : m ≤ n) : Od n d := ⟨h.1, Nat.le_trans h.2.1 e, Nat.le_trans h.2.2 (Nat.mul_le_mul_left _ (Nat.pow_le_pow_right (by decide) e))⟩
theorem od_all {n : Nat} : ∀ {ds : List PyData}, (∀ d ∈ ds, Od n d) → (PyData.canLayAll0 ds && PyData.showableAll ds && PyData.intsShortAll 60 ds) = true ∧ PyData.depthAll ds ≤ n ∧ PyData.weightAll ds ≤ ds.length * (200 * 10 ^ n + 1)
  | [], _ => ⟨rfl, Nat.zero_le _, Nat.zero_le _⟩
  | d :: ds, h => by
    obtain ⟨a1, a2, a3⟩ := h d List.mem_cons_self
    obtain ⟨b1, b2, b3⟩ := od_all (ds := ds) fun x hx => h x (List.mem_cons_of_mem _ hx)
    simp only [Bool.and_eq_true] at a1 b1
    refine ⟨?_, ?_, ?_⟩
    · unfold PyData.canLayAll0 PyData.showableAll PyData.intsShortAll
      rw [a1.1.1, a1.1.2, a1.2, b1.1.1, b1.1.2, b1.2]
      rfl
    · unfold PyData.depthAll
      exact Nat.max_le.mpr ⟨a2, b2⟩
    · unfold PyData.weightAll
      rw [List.length_cons, Nat.add_mul]
      omega
theorem od_weight {n k : Nat} (h : k ≤ 9) : k * (200 * 10 ^ n + 1) ≤ 200 * 10 ^ (n + 1) := by
  have h1 : 1 ≤ 10 ^ n := Nat.pow_pos (by decide)
  have h2 : k * (200 * 10 ^ n + 1) ≤ 9 * (200 * 10 ^ n + 1) := Nat.mul_le_mul_right _ h
  rw [Nat.pow_succ]
  omega
theorem Od.list {n : Nat} {ds : List PyData} (h : ∀ d ∈ ds, Od n d) (hl : ds.length ≤ 9) : Od (n + 1) (.list ds) := by
  obtain ⟨a, b, c⟩ := od_all h
  refine ⟨?_, ?_, ?_⟩
  · unfold PyData.canLay0 PyData.showable PyData.intsShort
    exact a
  · unfold PyData.depth
    exact Nat.succ_le_succ b
  · unfold PyData.weight
    exact Nat.le_trans c (od_weight hl)
theorem Od.tuple {n : Nat} {ds : List PyData} (h : ∀ d ∈ ds, Od n d) (hl : ds.length ≤ 9) : Od (n + 1) (.tuple ds) := by
  obtain ⟨a, b, c⟩ := od_all h
  refine ⟨?_, ?_, ?_⟩
  · unfold PyData.canLay0 PyData.showable PyData.intsShort
    exact a
  · unfold PyData.depth
    exact Nat.succ_le_succ b
  · unfold PyData.weight
    exact Nat.le_trans c (od_weight hl)
/-- a longer list, its elements light -/
theorem weightAll_le {w0 : Nat} : ∀ {ds : List PyData}, (∀ d ∈ ds, d.weight ≤ w0) → PyData.weightAll ds ≤ ds.length * (w0 + 1)
  | [], _ => Nat.zero_le _
  | d :: ds, h => by
    have h1 := h d List.mem_cons_self
    have h2 := weightAll_le (ds := ds) fun x hx => h x (List.mem_cons_of_mem _ hx)
    unfold PyData.weightAll
    rw [List.length_cons, Nat.add_mul]
    omega
theorem Od.listW {n w0 : Nat} {ds : List PyData} (h : ∀ d ∈ ds, Od n d) (hw : ∀ d ∈ ds, d.weight ≤ w0) (hl : ds.length * (w0 + 1) ≤ 200 * 10 ^ (n + 1)) : Od (n + 1) (.list ds) ∧ (PyData.list ds).weight ≤ ds.length * (w0 + 1) := by
  obtain ⟨a, b, c⟩ := od_all h
  refine ⟨⟨?_, ?_, ?_⟩, ?_⟩
  · unfold PyData.canLay0 PyData.showable PyData.intsShort
    exact a
  · unfold PyData.depth
    exact Nat.succ_le_succ b
  · unfold PyData.weight
    exact Nat.le_trans (weightAll_le hw) hl
  · unfold PyData.weight
    exact weightAll_le hw
theorem log_lt {i : Int} {k : Nat} (h : i.natAbs < 2 ^ k) (h0 : 0 < k) : i.natAbs.log2 < k := by
  by_cases e : i.natAbs = 0
  · rw [e]
    exact h0
  · exact (Nat.log2_lt e).mpr h
theorem short13 {i : Int} (h : -999999999999 < i ∧ i < 999999999999) : (PyData.shown (.int i)).length ≤ 13 := by
  have h2 := intsShort_of_noneOrIn (lo := -999999999999) (hi := 999999999999) (by decide) (by decide) (.int i) (by simp [noneOrIn, h])
  unfold PyData.intsShort at h2
  exact of_decide_eq_true h2
theorem Od.int {n : Nat} {i : Int} (h : -999999999999 < i ∧ i < 999999999999) : Od n (.int i) := by
  have hl : i.natAbs.log2 < 64 := log_lt (by omega) (by decide)
  refine ⟨?_, ?_, ?_⟩
  · unfold PyData.canLay0 PyData.showable PyData.intsShort
    rw [decide_eq_true (show i.natAbs.log2 < 1920 by omega), decide_eq_true (Nat.le_trans (short13 h) (by decide))]
    rfl
  · unfold PyData.depth
    exact Nat.zero_le _
  · have h1 : 1 ≤ 10 ^ n := Nat.pow_pos (by decide)
    unfold PyData.weight
    split <;> omega
theorem Od.bool {n : Nat} (b : Bool) : Od n (.bool b) := (show Od 0 (.bool b) by cases b <;> decide).mono (Nat.zero_le _)
theorem strOk_of (s : String) : PyData.strOk (Str.ofString s) = true := by
  rw [Str.ofString_eq_toList]
  unfold PyData.strOk
  rw [List.all_toArray, List.all_eq_true]
  intro n hn
  obtain ⟨c, _, rfl⟩ := List.mem_map.mp hn
  refine decide_eq_true ?_
  rcases c.valid with h | h
  · exact Nat.lt_trans (show c.toNat < 55296 from h) (by decide)
  · exact h.2
theorem Od.strInt {n : Nat} {i : Int} (h : -999999999999 < i ∧ i < 999999999999) : Od n (.str (toString i)) := by
  have h2 : ((toString i : Str)).length ≤ 13 := by
    have := short13 h
    unfold PyData.shown at this
    exact this
  refine ⟨?_, ?_, ?_⟩
  · unfold PyData.canLay0 PyData.showable PyData.intsShort
    rw [strOk_of]
    rfl
  · unfold PyData.depth
    exact Nat.zero_le _
  · have h1 : 1 ≤ 10 ^ n := Nat.pow_pos (by decide)
    unfold PyData.weight
    have h3 : (toString i : Str).cps.size = (toString i : Str).length := rfl
    omega
theorem Od.rep {n : Nat} {d : PyData} (h : Od n d) (hn : n ≤ 3) : d.showable = true ∧ d.canLay0 = true ∧ d.depth ≤ 60 ∧ d.shown.length ≤ sizeLine := by
  obtain ⟨a, b, c⟩ := h
  simp only [Bool.and_eq_true] at a
  refine ⟨a.1.2, a.1.1, by omega, ?_⟩
  have h1 := PyData.shown_le 60 (by decide) d (PyData.leavesShort_of_canLay0 60 d a.1.1 a.2)
  have h2 : 10 ^ n ≤ 10 ^ 3 := Nat.pow_le_pow_right (by decide) hn
  have h3 : sizeLine = 16777216 := by decide
  omega
section
variable {X : Cx} {K : PySem.W.Frag} {G H : Hp} {x : V} {d : PyData} {Q : VK}
theorem st_repr {n : Nat} (h : Dp K H x d) (o : Od n d) (hn : n ≤ 3) (q : Q (.str d.shown) H) : rRepr K [x] H Q := let ⟨h1, h2, h3, h4⟩ := o.rep hn; ⟨x, d, rfl, h, h1, h2, h3, h4, q⟩
def nm : PyData → String
  | .none => "NoneType"
  | .bool _ => "bool"
  | .int _ => "int"
  | .str _ => "str"
  | .list _ => "list"
  | .tuple _ => "tuple"
  | .dict _ => "dict"
theorem dp_ty (h : Dp K H x d) : TyX K H x (.type (nm d)) := by
  cases h with
  | non => exact .base .non
  | bl b => exact .base (.bl b)
  | int i => exact .base (.int i)
  | str s => exact .base (.str s)
  | lst h _ => exact tyL h
  | tup h _ => exact tyT h
theorem dp_knd (h : Dp K H x d) : Knd K H x := by
  cases h with
  | non => exact .non
  | bl b => exact .bl b
  | int i => exact .int i
  | str s => exact .str s
  | lst h _ => exact .lst h
  | tup h _ => exact .tup h
def isTup : PyData → Bool
  | .tuple _ => true
  | _ => false
def isLst : PyData → Bool
  | .list _ => true
  | _ => false
def isI : PyData → Bool
  | .int _ => true
  | _ => false
def inR (lo hi : Int) : PyData → Bool
  | .int i => decide (lo ≤ i) && decide (i ≤ hi)
  | _ => false
theorem isInt_d (h : Dp K H x d) : isInt x = isI d := by cases h <;> rfl
theorem inRange_d {lo hi : Int} (h : Dp K H x d) : inRange lo hi x = inR lo hi d := by cases h <;> rfl
theorem isiD {T : String} {b : Bool} (h : Dp K H x d) (e : kitB (nm d) T = some b) (q : Q (.bl b) H) : rIsi K [x, .ty T] H Q := ⟨_, _, _, _, b, rfl, .ty _, dp_ty h, kit_ty e, q⟩
theorem kit_tup : kitB (nm d) "tuple" = some (isTup d) := by
  cases d with
  | none => exact (show kitB "NoneType" "tuple" = some false by decide +kernel)
  | bool b => exact (show kitB "bool" "tuple" = some false by decide +kernel)
  | int b => exact (show kitB "int" "tuple" = some false by decide +kernel)
  | str b => exact (show kitB "str" "tuple" = some false by decide +kernel)
  | list b => exact (show kitB "list" "tuple" = some false by decide +kernel)
  | tuple b => exact (show kitB "tuple" "tuple" = some true by decide +kernel)
  | dict b => exact (show kitB "dict" "tuple" = some false by decide +kernel)
theorem kit_lst : kitB (nm d) "list" = some (isLst d) := by
  cases d with
  | none => exact (show kitB "NoneType" "list" = some false by decide +kernel)
  | bool b => exact (show kitB "bool" "list" = some false by decide +kernel)
  | int b => exact (show kitB "int" "list" = some false by decide +kernel)
  | str b => exact (show kitB "str" "list" = some false by decide +kernel)
  | list b => exact (show kitB "list" "list" = some true by decide +kernel)
  | tuple b => exact (show kitB "tuple" "list" = some false by decide +kernel)
  | dict b => exact (show kitB "dict" "list" = some false by decide +kernel)
theorem isiLT {p : Addr} (hp : H p = some (.tup [.ty "list", .ty "tuple"])) (h : Dp K H x d) (q : Q (.bl (isLst d || isTup d)) H) : rIsiT K [x, .ref p] H Q := by
  refine ⟨_, p, _, _, _, isLst d || isTup d, rfl, hp, .cons (.ty _) (.cons (.ty _) .nil), dp_ty h, ?_, q⟩
  refine kB (r := isLst d) kit_lst (fun e => ?_) (fun e => by rw [e]; rfl)
  refine kB (r := isTup d) kit_tup (fun e2 => ?_) (fun e2 => by rw [e, e2]; rfl)
  rw [e, e2]
  rfl
end
section
variable {K : PySem.W.Frag} {G G' H : Hp} {W : Wl} {Q : VK} {v : V} {xs : List V} {n : Nat}
def SomeN (n : Nat) (K : PySem.W.Frag) (G : Hp) (v : V) : Prop := ∃ d, Dp K G v d ∧ Od n d
theorem SomeN.up (e : Same G G') (h : SomeN n K G v) : SomeN n K G' v := let ⟨d, h1, h2⟩ := h; ⟨d, dmono e h1, h2⟩
theorem SomeN.mono {m : Nat} (h : SomeN n K G v) (e : n ≤ m) : SomeN m K G v := let ⟨d, h1, h2⟩ := h; ⟨d, h1, h2.mono e⟩
theorem AllP.mk {α : Type} {P : α → Prop} : ∀ {xs : List α}, (∀ x ∈ xs, P x) → AllP P xs
  | [], _ => trivial
  | x :: _, h => ⟨h x List.mem_cons_self, AllP.mk fun y hy => h y (List.mem_cons_of_mem _ hy)⟩
theorem allN {n : Nat} : ∀ {xs : List V}, AllP (SomeN n K G) xs → ∃ ds, DpAll K G xs ds ∧ (∀ d ∈ ds, Od n d) ∧ ds.length = xs.length
  | [], _ => ⟨[], .nil, (fun _ h => nomatch h), rfl⟩
  | x :: xs, h => by
    obtain ⟨d, h1, h2⟩ := h.1
    obtain ⟨ds, h3, h4, h5⟩ := allN h.2
    refine ⟨d :: ds, .cons h1 h3, fun y hy => ?_, by rw [List.length_cons, List.length_cons, h5]⟩
    rcases List.mem_cons.mp hy with rfl | hy
    · exact h2
    · exact h4 y hy
theorem SomeN.lst {a : Addr} (hs : SqL K G a xs) (h : AllP (SomeN n K G) xs) (hl : xs.length ≤ 9) : SomeN (n + 1) K G (.ref a) := by
  obtain ⟨ds, h1, h2, h3⟩ := allN h
  exact ⟨.list ds, .lst hs h1, Od.list h2 (by omega)⟩
theorem SomeN.tup {a : Addr} (hs : SqT K G a xs) (h : AllP (SomeN n K G) xs) (hl : xs.length ≤ 9) : SomeN (n + 1) K G (.ref a) := by
  obtain ⟨ds, h1, h2, h3⟩ := allN h
  exact ⟨.tuple ds, .tup hs h1, Od.tuple h2 (by omega)⟩
theorem AllP.up (e : Same G G') (h : AllP (SomeN n K G) xs) : AllP (SomeN n K G') xs := AllP.mk fun x hx => (AllP.of h x hx).up e
theorem at_some {i : Int} (h0 : 0 ≤ i) (h1 : i < xs.length) : ∃ v, atI xs i = some v ∧ v ∈ xs := by
  obtain ⟨v, hv⟩ : ∃ v, xs[i.toNat]? = some v := ⟨_, List.getElem?_eq_getElem (by omega)⟩
  exact ⟨v, by rw [show i = (i.toNat : Int) by omega]; exact atI_nat hv, List.mem_of_getElem? hv⟩
end
end Z

/-! own exceptions with a field, over ghost heaps -/
namespace Z
open PySem PySem.Spec PyProof.Rows L2
section
variable {P : Program} {w : World} {K : PySem.W.Frag} {mg : Str → Option Value} {base : Heap} {x qual : Str} {params : Arguments} {body : List Stmt} {scope : Scope} {dvs : List V} {kws : List (Str × V)} {f : Addr} {fd : FuncData}
/-- the rule for a def that may raise -/
theorem okX {N ps : List Str} {k : Nat} {sp : Sp} (F : FunD K x qual params body scope dvs kws f fd) (S : FnScope N ps scope) (len : ∀ vs H Q E, sp vs H Q E → vs.length = ps.length)
    (hb : ∀ (cdv : Value) (A : Around) (outer : List Env) (s : Shared) (H : Hp) (vs : List V) (Q : VK) (E : XK), Room k (A.deeper (envOfC qual scope s.heap.objs.size f cdv)) → sp vs H Q E →
      ∃ t, PSs (cxOf (L2.CX P w) P w K mg base N qual scope f cdv A outer s H E) body t ∧ t { nx := fun _ H' => Q .non H', rt := Q } (start N vs) H) : FnOk P w K mg base (L2.CX P w) (k + 1) f fd ps sp :=
  F.ok S len hb
end
section
variable {X : Cx} {CX : CXT} {k : Nat} {f : Addr} {fd : FuncData} {ps : List Str} {ds : List Value} {dvs : List V} {sp : Sp} {E : L2.St → XK} {x : Str} {p pos : Pos} {e : Expr} {es : List Expr} {t : TA}
/-- a call whose exceptions go where the try says; defaults filled in -/
def tCallSD (sp : Sp) (dvs : List V) (E : L2.St → XK) (t : TA) : TE := fun σ H Q => t σ H fun vs H1 => sp (vs ++ dvs) H1 Q (E σ)
theorem pe_callSD (F : FnOk X.prog X.w X.K X.mg X.base CX k f fd ps sp) (hr : Room k X.A) (hg : Gl X x) (hm : X.mg x = some (.ref f)) (hk : PySem.W.keepIn X.K (.ref f) = true) (hb : Binds X.K fd ps ds) (hd : Vals dvs ds) (hx : ∀ σ, PassesAt CX X σ (E σ))
    (ha : PA X (e :: es) t) (hdb : (x == ("__debug__" : Str)) = false := by decide) (he : starEach (e :: es) X.env = (false, eval e X.env) :: starEach es X.env := by rfl) (hpl : (backTo pos (starEach es X.env)).any (·.1) = false := by rfl) :
    PE X (.Call (.Name x p) (e :: es) [] pos) (tCallSD sp dvs E t) := by
  refine ⟨fun pins s σ H Q I h => wpAny_Call_Name_kw (ld_glob I hg hm (PySem.W.callWith_K (h₀ := X.base) I.ok.mod.kin hk (thn (ha.run pos pins s σ H _ I h) fun us s1 ⟨vs, H1, I1, r, q⟩ => ⟨I1.kIn, ?_⟩) he hpl) hdb)⟩
  have r2 := r.append hd
  refine wpAny_call (codeAny_mono (F.run X.A X.stack s1 H1 ⟨us, []⟩ _ _ Q (E σ) hr I1.env0 (hb s1 us I1.kIn (r2.length.symm.trans (F.len _ _ _ _ q))) r2 q) fun r s' hq => ?_)
  cases r with
  | error e => exact hx σ pins H1 s1 e s' I1 hq
  | ok fl => cases fl with
    | ret u => exact I1.after hq
    | _ => exact False.elim hq
theorem st_callSD {σ : L2.St} {H : Hp} {Q : VK} (h : t σ H fun vs H1 => sp (vs ++ dvs) H1 Q (E σ)) : tCallSD sp dvs E t σ H Q := h
end
theorem passX0 {X : Cx} : Passes (L2.CX X.prog X.w) X E0 := fun _ _ _ _ _ _ _ h => by
  obtain ⟨_, _, _, _, _, _, _, _, _, _, _, _, z⟩ := h
  exact z.elim
/-- an own exception class x at C, its __init__ at fI, its one field n -/
structure ExT (K : PySem.W.Frag) (mg : Str → Option Value) (x n : Str) (C fI : Addr) : Prop where
  gC : mg x = some (.ref C)
  oex : OexC K C
  xf : XfC K C
  xc : ExcC K C
  no : PySem.W.findIn K (.ref C) n = some none
  iC : PySem.W.findIn K (.ref C) "__init__" = some (some (.ref fI))
  tI : PySem.W.typeIn K (.ref fI) = some (.type "function")
  te : PySem.W.exmOne K (.ref C) (.ref C) = some true
  kv : PySem.W.kitOne K (.ref C) (.type "ValueError") = some true
theorem kv_of {K : PySem.W.Frag} {C : Addr} (h : PySem.W.subIn K (.ref C) (.type "ValueError") = some true) : PySem.W.kitOne K (.ref C) (.type "ValueError") = some true := by
  unfold PySem.W.kitOne
  rw [show ((Value.ref C) == (Value.type "ValueError")) = false from rfl]
  show PySem.W.kitCls K (.ref C) (.type "ValueError") = some true
  unfold PySem.W.kitCls
  show (if PySem.W.kitMeta "ValueError" = true then _ else none) = some true
  rw [if_pos (by decide +kernel)]
  exact h
/-- what its __init__ does -/
def sp_init (K : PySem.W.Frag) (C : Addr) (n : Str) : Sp := fun vs H Q _ => ∃ (a : Addr) (v : V), vs = [.ref a, v] ∧ H a = some (exo a C none) ∧ ∀ d, H d = none → d ≠ a → Q .non (upd (upd H d (exd d [(n, v)])) a (exo a C (some d)))
section
variable {K : PySem.W.Frag} {mg : Str → Option Value} {σ : L2.St} {H G : Hp} {W : Wl} {C : Addr} {n : Str} {v : V}
theorem st_mkO {dvs : List V} {ta : TA} {Q : XK} {sp : Sp} (h : ta σ H fun vs H1 => vs.length ≤ 1000 ∧ ∀ a, H1 a = none → sp (.ref a :: (vs ++ dvs)) (upd H1 a (exo a C none))
  (fun v H2 => v = .non ∧ ∃ (d : Addr) (fs : List (Str × V)), H2 a = some (exo a C (some d)) ∧ H2 d = some (exd d fs) ∧ H1 d = none ∧ Q (.ref C) (some d) (upd (del H2 a) d (.xd fs))) (fun _ _ _ => False)) : tMkO C sp dvs ta σ H Q := h
theorem mk_done {Q : XK} (w : Wd G W H) (k : ∀ d G' H', Same G G' → Wd G' W H' → G' d = some (.xd [(n, v)]) → Q (.ref C) (some d) H') (a : Addr) (ha : H a = none) :
    sp_init K C n [.ref a, v] (upd H a (exo a C none)) (fun v H2 => v = .non ∧ ∃ (d : Addr) (fs : List (Str × V)), H2 a = some (exo a C (some d)) ∧ H2 d = some (exd d fs) ∧ H d = none ∧ Q (.ref C) (some d) (upd (del H2 a) d (.xd fs))) (fun _ _ _ => False) := by
  refine ⟨a, v, rfl, upd_same, fun d hd hda => ⟨rfl, d, [(n, v)], upd_same, ?_, ?_, ?_⟩⟩
  · rw [upd_ne hda, upd_same]
  · rw [upd_ne hda] at hd
    exact hd
  · rw [upd_ne hda] at hd
    have e : upd (del (upd (upd (upd H a (exo a C none)) d (exd d [(n, v)])) a (exo a C (some d))) a) d (.xd [(n, v)]) = upd H d (.xd [(n, v)]) := by
      funext b
      by_cases hb : b = d
      · rw [hb, upd_same, upd_same]
      · rw [upd_ne hb, upd_ne hb]
        by_cases hb2 : b = a
        · rw [hb2, del_same, ha]
        · rw [del_ne hb2, upd_ne hb2, upd_ne hb, upd_ne hb2]
    rw [e]
    exact k d _ _ (same_upd (w.free hd)) (w.new hd) upd_same
theorem st_ost {f : Str} {to te : TE} {D : Ends} (h : te σ H fun y H1 => to σ H1 fun x H2 => ∃ a C : Addr, x = .ref a ∧ OexC K C ∧ PySem.W.findIn K (.ref C) f = some none ∧
    ((H2 a = some (exo a C none) ∧ ∀ dx, H2 dx = none → dx ≠ a → D.nx σ (upd (upd H2 dx (exd dx [(f, y)])) a (exo a C (some dx)))) ∨ ∃ (dx : Addr) (fs : List (Str × V)), H2 a = some (exo a C (some dx)) ∧ H2 dx = some (exd dx fs) ∧ fs.length ≤ 900 ∧ D.nx σ (upd H2 dx (exd dx ((f, y) :: fs))))) : tOst K f to te D σ H := h
theorem st_dnew {Q : VK} (h : NewO (.dK []) H Q) : tDNewK σ H Q := h
theorem st_vei {ta : TA} {Q : VK} (h : ta σ H fun vs H1 => ∃ (a C : Addr) (ws : List V), vs = .ref a :: ws ∧ ws.length ≤ 1000 ∧ OexC K C ∧ H1 a = some (exo a C none) ∧ Q .non H1) : tVeI K ta σ H Q := h
theorem st_xf {a : Addr} {cls : Value} {d : Option Addr} {f : Str} {te : TE} {Q : VK} (h : te σ H fun x H1 => x = .ref a ∧ cls = .ref C ∧ ∃ (dd : Addr) (fs : List (Str × V)) (v : V), d = some dd ∧ H1 dd = some (.xd fs) ∧ fs.lookup f = some v ∧ Q v H1) : tXf a cls d C f te σ H Q := h
end
end Z
namespace PySem.W
open PySem PySem.Spec PySem.Calls PyProof.Rows
section
variable {prog : Program} {w : World} {A : Around} {E : Value → Shared → Prop} {s : Shared} {K : Frag} {x D : Addr} {ox od : Obj}
theorem z_found {C : Addr} {name : Str} {a g : Value} (hc : (clsIn K C).isSome = true) (ha : findIn K (.ref C) name = some (some a)) (hg : specialIn K a "__get__" = some (some g)) (ht : takesIn K a = some true) (o : Option Obj) : findObj K C o name = some (.bind g a) := by
  obtain ⟨cd, hcd⟩ := Option.isSome_iff_exists.mp hc
  unfold findObj
  rw [hcd, Option.bind_some, ha, Option.bind_some]
  simp [hg, ht]
theorem z_classE {Q : Option Value → Shared → Prop} (C : L2.ExcC K D) (X : K.In s.heap) (I : InstAt s.heap x ox D (some od)) (h : Q (some (.ref D)) { s with toks := s.toks + 1 }) : wpAny (model prog w) A (getAttr? (.ref x) "__class__") Q E s := by
  have hf : findObj K D (some od) "__class__" = some (.bind (.builtin "getset_descriptor.__get__") (.builtin "object.__class__")) :=
    z_found (by obtain ⟨cd, hc, _⟩ := any_some C.hd; rw [hc]; rfl) C.ha C.hn C.ht (some od)
  obtain ⟨hp, g, d, t, os⟩ := s
  have l0 := I.type (M := model prog w)
  have l1 := looks_findIn (M := model prog w) X C.hg
  have l2 := looks_findIn (M := model prog w) X C.hk
  have l3 := looks_find (M := model prog w) X I hf
  have ls : Looks (model prog w) hp (isInstance (.ref x) (.type "BaseException")) true := l0.andThen (looks_subIn X C.hs)
  have z2 : (Value.builtin "BaseException.__getattribute__" == Value.builtin "object.__getattribute__") = false := by decide +kernel
  have z1 : (onTheHeap (Value.ref D) && Value.builtin "BaseException.__getattribute__" == Value.builtin "object.__getattribute__") = false := by rw [z2]; rfl
  unfold getAttr? getAttrBy? getAttrBy
  refine wpAny_bind (wpAny_mkText (wpAny_bind (wpAny_attempt (wpAny_holding (wpAny_bind (l0.at (wpAny_bind (l1.at ?_))))))))
  show wpAny _ _ (if (onTheHeap (Value.ref D) && Value.builtin "BaseException.__getattribute__" == Value.builtin "object.__getattribute__") = true then _ else _) _ _ _
  rw [z1, if_neg Bool.false_ne_true]
  unfold getAttrByItsOwn hookBefore
  refine wpAny_bind ?_
  rw [if_pos (show onTheHeap (Value.ref D) = true from rfl)]
  refine l2.at (wpAny_bind (wpAny_attempt (wpAny_holding ?_)))
  unfold callGetattribute
  rw [show (false && onTheHeap (Value.builtin "BaseException.__getattribute__")) = false from rfl, if_neg Bool.false_ne_true]
  unfold boundAndCalled
  rw [PySem.F.excAttr_ValueError.ga.bind (.ref x)]
  refine wpAny_bind (wpAny_pure ?_)
  refine wpAny_call (pos := [.ref x, .str "__class__" t]) (codeAny_call_builtin PySem.F.excAttr_ValueError.ga.plain PySem.F.entry_bexc_ga (@check_slot (model prog w) _ _ ⟨hp, g, d, t + 1, os⟩ "BaseException.__getattribute__" "BaseException" "__getattribute__" (.ref x) [.str "__class__" t] [] _ (by decide +kernel) (by decide +kernel) ls (PySem.F.args_bexc_ga (.ref x) (.str "__class__" t)) ?_))
  unfold Builtin.«object.__getattribute__»
  refine wpAny_bind (wpAny_of_eq (a := ((Value.ref x : Value), [Value.str "__class__" t])) (by first | rfl | (simp only [slotArgs]; rfl)) (wpAny_bind (wpAny_pure (wpAny_bind (l0.at (wpAny_bind (l3.at ?_)))))))
  show wpAny _ _ (holding [Value.builtin "object.__class__"] (call (.builtin "getset_descriptor.__get__") [.builtin "object.__class__", .ref x, .ref D]) >>= ret) _ _ _
  refine wpAny_bind (wpAny_holding (wpAny_call (class_get (s := ⟨hp, g, d, t + 1, os⟩) (ox := ox) (od := some od) X I C.hm (wpAny_pure ?_))))
  show wpAny _ _ (handedOut (.ref D)) _ _ _
  rw [handedOut_of (v := .ref D) rfl]
  first
    | exact wpAny_pure (wpAny_pure h)
    | exact wpAny_pure h
    | exact wpAny_pure (wpAny_bind (wpAny_pure (wpAny_pure h)))
theorem z_kit (C : L2.ExcC K D) : KitX K (.ref x) (.ref D) (fun h => ∃ od, InstAt h x ox D (some od)) where
  ty := fun _ _ _ ⟨_, I⟩ => I.type
  it := fun _ _ X _ => by
    obtain ⟨cd, hc, _⟩ := any_some C.hd
    unfold clsIn at hc
    split at hc
    · rename_i ho
      intro A' Q' E' s' k q
      unfold isType loadHead
      exact wpAny_bind (wpAny_loadPart (k _ _ (X _ _ ho)) (wpAny_pure q))
    · cases hc
  ne := fun h tp dd its n sl X htp => by
    obtain ⟨cd, hc, _⟩ := any_some C.hd
    refine Bool.eq_false_iff.mpr fun q => ?_
    obtain rfl : D = tp := Value.ref.inj (beq_iff_eq.mp q)
    unfold clsIn at hc
    split at hc
    · rename_i ho
      exact nomatch (X _ _ ho).symm.trans htp
    · cases hc
  ca := fun X ⟨_, I⟩ k => z_classE C X I k
end
end PySem.W
namespace Z
open PySem PySem.Spec PyProof.Rows L2
/-- isinstance(e, c), e the exception that the suite holds, with its dict -/
def rIsEd (K : PySem.W.Frag) (D a : Addr) (cls : Value) (d : Option Addr) : List V → Hp → VK → Prop := fun xs H Q => ∃ (c : V) (cv : Value) (b : Bool) (dd : Addr) (fs : List (Str × V)), xs = [.ref a, c] ∧ cls = .ref D ∧ d = some dd ∧ H dd = some (.xd fs) ∧ (∀ u, RelV c u → u = cv) ∧ PySem.W.kitOne K (.ref D) cv = some b ∧ Q (.bl b) H
theorem call_isEd {X : Cx} {a D : Addr} {oe : Obj} {cls : Value} {d : Option Addr} {pn : List (Addr × Obj)} (C : ExcC X.K D) (hz : Zc cls d oe) (hf : ∃ vs, oe.data = .fields vs) : CallR (X.suite a ((a, oe) :: pn)) (.builtin "isinstance") (rIsEd X.K D a cls d) := by
  intro pins s σ H xs us Q I r h
  obtain ⟨c, cv, b, dd, fs, rfl, rfl, rfl, ea, hcv, e, q⟩ := h
  obtain ⟨u1, u2, rfl, r1, r2⟩ := vals2 r
  cases r1
  obtain rfl := hcv _ r2
  obtain ⟨hget, _⟩ := I.pin (a, oe) (List.mem_append.mpr (.inl List.mem_cons_self))
  obtain ⟨vs, hv⟩ := hf
  obtain ⟨mA, hns, _⟩ : ObjOk _ _ _ _ dd (.xd fs) := I.hok dd _ ea
  obtain ⟨od, ho, _⟩ := lookIn_ns hns
  have J : PySem.W.InstAt s.heap a oe D (some od) := ⟨hget, hz.1, by unfold PySem.W.notCls; rw [hv] <;> rfl, by rw [hz.2]; exact ho⟩
  exact PySem.W.kia_one (PySem.W.z_kit C) I.kIn ⟨_, J⟩ e (fun z => nomatch z) fun tk => ⟨.bl b, H, I.kept (t' := tk) fun _ _ z => z, rfl, q⟩
end Z

/-! own exceptions over any base, with one field -/
namespace PySem
namespace ZEX
open PySem.W PySem.Calls PyProof.Rows PySem.HandSPX
open Builtin Builtin.ObjectAttr
section
variable {prog : Program} {w : World} {A : Around} {E : Value → Shared → Prop} {R : Result → Shared → Prop} {hp : Heap} {g : Array GenState} {d : Drawn} {t : Nat} {os : OsState}
theorem z_osa {K : W.Frag} {name : Str} {tk : Tok} {v : Value} {x C : Addr} {fv : Array Value} {cd : ClassData} {bmB : List Value} (pass : ∀ self, refuseLoop self "__setattr__" bmB = pure ()) (hob0 : bmB.contains (.type "object") = true)
    (X : K.In hp) (hx : hp.get? x = some { cls := .ref C, data := .fields fv }) (hcd : W.clsIn K C = some cd) (hm : cd.mro = .ref C :: bmB) (hh : cd.hasDict = true) (ha : W.findIn K (.ref C) name = some none)
    (hq : ∀ h' tk' dx, (∀ b o, b ≠ x → hp.get? b = some o → h'.get? b = some o) → hp.objs.size ≤ dx → dx ≠ x → h'.get? x = some { cls := .ref C, dict := some dx, data := .fields fv } → h'.Ns1 dx (fun y => if y = name then some v else none) → R (.ok (.ret .none)) ⟨h', g, d, tk', os⟩) :
    codeAny (model prog w) A (.call (.builtin "object.__setattr__") ⟨[.ref x, .str name tk, v], []⟩) R ⟨hp, g, d, t, os⟩ := by
  have i0 : W.InstAt hp x { cls := .ref C, data := .fields fv } C none := ⟨hx, rfl, rfl, trivial⟩
  have S := F.store_object
  have ne : cd.mro.isEmpty = false := by rw [hm]; rfl
  have hob : cd.mro.contains (.type "object") = true := by rw [hm, List.contains_cons, hob0, Bool.or_true]
  have hps : refuseLoop (.ref x) "__setattr__" cd.mro = pure () := by rw [hm, refuseLoop_ref]; exact pass _
  have nx : x ≠ hp.objs.size := Nat.ne_of_lt (Heap.lt_size hx)
  have li : W.Looks (model prog w) hp (isInstance (.ref x) (.type "object")) true := i0.type.andThen (W.looks_mroIn X (by unfold W.mroIn; rw [hcd, Option.bind_some, if_neg (by rw [ne]; decide), hob]))
  refine codeAny_call_builtin S.slot.plain S.entry (@W.check_slot (model prog w) _ _ ⟨hp, g, d, t, os⟩ "object.__setattr__" "object" "__setattr__" (.ref x) [.str name tk, v] [] _ S.kind S.split li (S.args (.ref x) (.str name tk) v) ?_)
  have lm : W.Looks (model prog w) hp (mroOf (.ref C)) cd.mro := (W.looks_clsIn X hcd).andThen .now
  have lt : W.Looks (model prog w) hp (storeTaker? none) none := .now
  have lc : W.Looks (model prog w) hp (classData C) cd := W.looks_clsIn X hcd
  rw [W.osa_eq, refuse_eq]
  refine wpAny_bind (wpAny_bind (i0.type.at (wpAny_bind (lm.at ?_))))
  rw [hps]
  refine wpAny_pure (wpAny_bind (i0.type.at (wpAny_bind ((W.looks_findIn X ha).at (wpAny_bind (lt.at ?_))))))
  show wpAny (model prog w) _ (storeInOwnDict (.ref x) (.ref C) (.str name tk) name v false) _ _ _
  obtain ⟨nm, bs, mro, ns, qn, hd, sn, sb, ab, col, del⟩ := cd
  dsimp only at hh
  subst hh
  unfold storeInOwnDict ownDictForStores
  repeat first | (with_reducible refine store_in_new ?_ ?_) | (with_reducible refine wpAny_loadPart_at hx ?_) | (with_reducible refine lc.at ?_) | wp_step
  · exact ⟨_, #[], _, (Heap.get?_update_ne _ _ _ _ nx.symm).trans (Heap.get?_push_at rfl rfl), rfl, fun e he => absurd he (by simp), fun _ => rfl⟩
  · intro h' tk' hn' hs
    have hx1 : (hp.push { cls := .type "dict", data := .dict #[] }).get? x = some { cls := .ref C, data := .fields fv } := Heap.get?_push_of_some _ hx
    exact hq h' tk' hp.objs.size (fun b o hb ho => (hs.2 b (Nat.ne_of_lt (Heap.lt_size ho))).trans ((Heap.get?_update_ne _ _ _ _ hb).trans (Heap.get?_push_of_some _ ho))) (Nat.le_refl _) nx.symm ((hs.2 x nx).trans (Heap.get?_update_self _ hx1 rfl)) hn'
end
end ZEX
end PySem
namespace Z
open PySem PySem.Spec PyProof.Rows L2
/-- the class at C: own, directly over the built-in exception B -/
structure OexB (K : PySem.W.Frag) (C : Addr) (B newId initId : String) (bmB : List Value) : Prop where
  cls : ∃ nm q N bs sn sub ab col dd k0 k1 k2 k3 k5, K.lookup C = some (excClassObj nm q C N bs bmB true sn sub ab col dd k0 k1 k2 k3 k5 newId)
  sa : PySem.W.findIn K (.ref C) "__setattr__" = some (some (.builtin "object.__setattr__"))
  exC : PySem.W.subIn K (.ref C) (.type "BaseException") = some true
  tyC : PySem.W.typeIn K (.ref C) = some (.type "type")
  kC : PySem.W.keepIn K (.ref C) = true
  fac : ExcBaseFacts B newId initId bmB
  pass : ∀ self, refuseLoop self "__setattr__" bmB = pure ()
  hob : bmB.contains (.type "object") = true
section
variable {X : Cx} {pins : List (Addr × Obj)} {σ : L2.St} {H : Hp} {s : Shared} {a C : Addr} {f : Str} {y : V} {u : Value} {E : Value → Shared → Prop} {A : Around} {B newId initId : String} {bmB : List Value}
theorem z_ost {Q : Unit → Shared → Prop} (T : OexB X.K C B newId initId bmB) (I : Inv X pins σ H s) (e : H a = some (exo a C none)) (hno : PySem.W.findIn X.K (.ref C) f = some none) (ry : RelV y u)
    (h : ∀ dx s', H dx = none → dx ≠ a → Inv X pins σ (upd (upd H dx (exd dx [(f, y)])) a (exo a C (some dx))) s' → Q () s') : wpAny (model X.prog X.w) A (setAttr (.ref a) f u) Q E s := by
  obtain ⟨nm, q, N, bs, sn, sub, ab, col, dd, k0, k1, k2, k3, k5, hC⟩ := T.cls
  have hcl : PySem.W.clsIn X.K C = some { name := nm, bases := bs, mro := .ref C :: bmB, ns := N, qualname := q, hasDict := true, slotNames := sn, subclasses := sub, abstract := ab, collection := col, hasDel := false } := by
    unfold PySem.W.clsIn
    rw [hC] <;> rfl
  obtain ⟨t1, ho⟩ := exo_at I.hok e
  obtain ⟨hp, g, d, t, os⟩ := s
  refine PySem.W.set_plain I.kIn (od := none) (ox := { cls := .ref C, dict := none, data := .fields #[.ref t1, .none, .none, .none, .bool false, .none] }) ⟨ho, rfl, rfl, trivial⟩ T.sa ?_
  refine PySem.ZEX.z_osa T.pass T.hob I.kIn ho hcl rfl rfl hno fun h' tk' dx k dn dne hx hn => ?_
  have hnd : H dx = none := I.hok.fresh dn
  have nd : ∀ {b : Addr} {o : Obj}, hp.get? b = some o → b ≠ dx := fun {b o} q => Nat.ne_of_lt (Nat.lt_of_lt_of_le (Heap.lt_size q) dn)
  have na : ∀ {b : Addr}, H b = none → b ≠ a := fun {b} n z => nomatch (z ▸ n).symm.trans e
  have un : Un X.fs [] H (upd (upd H dx (exd dx [(f, y)])) a (exo a C (some dx))) hp h' := {
    keep := fun b o q n _ _ => k b o (na n) q, slot := fun b o q n _ _ => ⟨o.slots, k b o (na n) q⟩
    free := fun b o q n _ => (upd_ne (na n)).trans ((upd_ne (nd q)).trans n)
    there := fun b o q _ => if hb : b = a then ⟨_, hb ▸ hx⟩ else ⟨o, k b o hb q⟩
    tups := fun b xs q => (upd_ne (at_ne e q exo_tup)).trans ((upd_ne (ne_of_none q hnd)).trans q)
    frzs := fun b o v q => (upd_ne (at_ne e q exo_frz)).trans ((upd_ne (ne_of_none q hnd)).trans q)
    tbls := fun b ps q => ⟨#[], by rw [upd_ne (at_ne e q exo_tbl), upd_ne (ne_of_none q hnd), q] <;> simp⟩ }
  refine h dx _ hnd dne (I.un (t' := tk') un fun b o q => ?_)
  by_cases hb : b = a
  · rw [hb, upd_same] at q
    cases q
    rw [hb]
    exact exo_ok hx
  · rw [upd_ne hb] at q
    by_cases hd : b = dx
    · rw [hd, upd_same] at q
      cases q
      rw [hd]
      exact exd_ok hn (relO_put (fs := []) ry fun g => True.intro)
    · rw [upd_ne hd] at q
      refine (I.hok b o q).stay (fun c v hc z => k c v (hc.elim (fun h => h ▸ hb) fun h => at_ne e h exo_own) z) (fun c hc => (upd_ne (at_ne e hc exo_own)).trans ((upd_ne (ne_of_none hc hnd)).trans hc)) (fun c xs hc => (upd_ne (at_ne e hc exo_tup)).trans ((upd_ne (ne_of_none hc hnd)).trans hc))
theorem z_oinit {us : List Value} {Q : Value → Shared → Prop} (T : OexB X.K C B newId initId bmB) (I : Inv X pins σ H s) (e : H a = some (exo a C none)) (hl : us.length ≤ sizeLine) (h : ∀ s', Inv X pins σ H s' → Q .none s') :
    wpAny (model X.prog X.w) A (call (.builtin initId) (.ref a :: us)) Q E s := by
  obtain ⟨nm, q, N, bs, sn, sub, ab, col, dd, k0, k1, k2, k3, k5, hC⟩ := T.cls
  obtain ⟨t1, ho⟩ := exo_at I.hok e
  obtain ⟨hp, g, d, t, os⟩ := s
  refine wpAny_call (PySem.HandSPX.init_base T.fac (fun _ => rfl) (I.kIn _ _ hC) ho hl fun h' t2 k hx => ?_)
  have J := I.write (t' := t) (x := a) (e := a) (o := exo a C none) (by rw [e]; exact True.intro) (.inl rfl) k ⟨_, hx⟩ (exo_ok hx)
  have eu : upd H a (exo a C none) = H := funext fun b => if hb : b = a then by rw [hb, upd_same, e] else upd_ne hb
  exact h _ (eu ▸ J)
end
/-- B.__init__(self, ..) -/
def tBei (K : PySem.W.Frag) (B newId initId : String) (bmB : List Value) (ta : TA) : TE := fun σ H Q => ta σ H fun vs H1 => ∃ (a C : Addr) (ws : List V), vs = .ref a :: ws ∧ ws.length ≤ 1000 ∧ OexB K C B newId initId bmB ∧ H1 a = some (exo a C none) ∧ Q .non H1
/-- self.f = e, the one field -/
def tBst (K : PySem.W.Frag) (B newId initId : String) (bmB : List Value) (f : Str) (to te : TE) : TS := fun D σ H => te σ H fun y H1 => to σ H1 fun x H2 => ∃ a C : Addr, x = .ref a ∧ OexB K C B newId initId bmB ∧ PySem.W.findIn K (.ref C) f = some none ∧
  H2 a = some (exo a C none) ∧ ∀ dx, H2 dx = none → dx ≠ a → D.nx σ (upd (upd H2 dx (exd dx [(f, y)])) a (exo a C (some dx)))
section
variable {X : Cx} {o e : Expr} {es : List Expr} {to te : TE} {ta : TA} {f bx : Str} {p p' p1 p2 pos : Pos} {B newId initId : String} {bmB : List Value}
theorem pe_beinit {pl : Sem Bool} (typ : typeOf (.type B) = pure (.type "type")) (stub : Manifest.isStub B = false) (hbt : bootBuiltins bx = some (.type B)) (hh : PySem.W.handedIn (.builtin initId) = true) (hg : Gl X bx) (hm : X.mg bx = none) (vV : PySem.W.findCls X.K (.type B) (.type "type") "__init__" = some (.val (.builtin initId))) (ha : PA X (e :: es) ta)
    (hn : bx ≠ "__name__" := by decide) (hdb : (bx == ("__debug__" : Str)) = false := by decide)
    (hc : eval (.Call (.Attribute (.Name bx p1) "__init__" p2) (e :: es) [] pos) X.env = (do let ov ← eval (.Name bx p1) X.env; standAt p2.atName; let (f, first) ← holding [ov] (getMethod ov "__init__" pl); callWith pos f first (backTo pos (starEach (e :: es) X.env)) (backToKw pos (keywordEach [] X.env))) := by rfl)
    (he : starEach (e :: es) X.env = (false, eval e X.env) :: starEach es X.env := by rfl) (hpl : (backTo pos (starEach es X.env)).any (·.1) = false := by rfl) : PE X (.Call (.Attribute (.Name bx p1) "__init__" p2) (e :: es) [] pos) (tBei X.K B newId initId bmB ta) := by
  refine ⟨fun pins s σ H Q I h => PySem.W.methodCall_KW (ld_blt I hg hm hbt ?_ hn hdb) hc⟩
  obtain ⟨m, fr⟩ := I.fr
  refine PySem.W.method_type fr I.ok.mod.kin typ stub vV hh ?_
  show wpAny (model X.prog X.w) _ (callWith pos (Value.builtin initId) [] (backTo pos (starEach (e :: es) X.env)) []) _ _ _
  refine PyProof.Rows.callWith_method1 (thn (ha.run pos pins _ σ H _ (I.tok _) h) fun us s1 ⟨vs, H1, I1, r1, a, C, ws, ev, hl, T, ea, q⟩ => ?_) he hpl
  subst ev
  cases r1 with
  | @cons _ u0 _ ur ra rw' =>
    cases (show u0 = Value.ref a from ra)
    exact z_oinit T I1 ea (by rw [← Paired.length rw', sizeLine_eq]; omega) fun s' J => ⟨.non, H1, J, rfl, q⟩
theorem ps_bst (ho : PE X o to) (he : PE X e te) (hs : swapsWith e (some (.Attribute o f p')) pos.line X.env = pure false := by rfl) : PS X (.Assign [.Attribute o f p'] e pos) (tBst X.K B newId initId bmB f to te) := by
  refine ⟨fun pins s σ H D I h => plainObj_wpAny_Assign_Attribute (thn (he.run pins s σ H _ I h) fun v s1 ⟨y, H1, I1, r1, q1⟩ => thn (ho.run pins s1 σ H1 _ I1 q1) fun u s2 ⟨x, H2, I2, r2, a, C, ex, T, hno, ea, q⟩ => ?_) hs⟩
  subst ex
  cases (show u = Value.ref a from r2)
  exact z_ost T I2 ea hno r1 fun dx s' n ne J => ⟨σ, _, J, q dx n ne⟩
theorem pmk_bex {CX : CXT} {x : Str} {C fI : Addr} {k : Nat} {fd : FuncData} {ps : List Str} {sp : Sp} {ds : List Value} {dvs : List V} (T : OexB X.K C B newId initId bmB) (iC : PySem.W.findIn X.K (.ref C) "__init__" = some (some (.ref fI))) (tI : PySem.W.typeIn X.K (.ref fI) = some (.type "function"))
    (F1 : FnOk X.prog X.w X.K X.mg X.base CX k fI fd ps sp) (hr : Room (k + 1) X.A) (hb : Binds X.K fd ps ds) (hd : Vals dvs ds) (hx : Passes CX X (fun _ _ _ => False)) (hg : Gl X x) (hm : X.mg x = some (.ref C)) (ha : PA X (e :: es) ta)
    (hdb : (x == ("__debug__" : Str)) = false := by decide) (he : starEach (e :: es) X.env = (false, eval e X.env) :: starEach es X.env := by rfl) (hpl : (backTo pos (starEach es X.env)).any (·.1) = false := by rfl) : PMk X (.Call (.Name x p) (e :: es) [] pos) (tMkO C sp dvs ta) := by
  intro pins s σ H Q I h
  obtain ⟨nm, q, N, bs, sn, sub, ab, col, dd, k0, k1, k2, k3, k5, hC⟩ := T.cls
  refine wpAny_Call_Name_kw (ld_glob I hg hm (PySem.W.callWith_K (h₀ := X.base) I.ok.mod.kin T.kC (thn (ha.run pos pins s σ H _ I h) fun us s1 ⟨vs, H1, I1, r1, hz, q1⟩ => ⟨I1.kIn, ?_⟩) he hpl) hdb)
  show wpAny (model X.prog X.w) _ (call (.ref C) us) _ _ _
  obtain ⟨hp, g, dr, tk, os⟩ := s1
  have z1 : hp.objs.size ≤ hp.objs.size + 1 := Nat.le_succ _
  have hq := q1 (hp.objs.size + 1) (I1.hok.fresh z1)
  have kk : ∀ b o, hp.get? b = some o → ((hp.push (PySem.W.kdv_tup us)).push (PySem.HandSPX.excO C hp.objs.size)).get? b = some o := fun _ _ e => Heap.get?_push_of_some _ (Heap.get?_push_of_some _ e)
  have gg : ((hp.push (PySem.W.kdv_tup us)).push (PySem.HandSPX.excO C hp.objs.size)).get? (hp.objs.size + 1) = some (PySem.HandSPX.excO C hp.objs.size) := by heap_get
  have I2 : Inv X pins σ (upd H1 (hp.objs.size + 1) (exo (hp.objs.size + 1) C none)) ⟨(hp.push (PySem.W.kdv_tup us)).push (PySem.HandSPX.excO C hp.objs.size), g, dr, tk, os⟩ := I1.laid (t' := tk) (a := hp.objs.size + 1) (o := exo (hp.objs.size + 1) C none) kk z1 (exo_ok gg)
  have r2 : Vals (V.ref (hp.objs.size + 1) :: (vs ++ dvs)) (Value.ref (hp.objs.size + 1) :: (us ++ ds)) := .cons rfl (r1.append hd)
  have hl : (Value.ref (hp.objs.size + 1) :: us ++ ds).length = ps.length := (r2.length.symm.trans (F1.len _ _ _ _ hq))
  have hus : us.length ≤ sizeLine := by rw [← Paired.length r1, sizeLine_eq]; omega
  refine wpAny_call (PySem.HandSPX.call_own T.fac (fun _ => rfl) (I1.kIn _ _ hC) (PySem.W.looks_findIn I1.kIn iC) (fun self => PySem.W.bind_fn I1.kIn self tI) hus
    (codeAny_mono (F1.run _ X.stack _ _ ⟨Value.ref (hp.objs.size + 1) :: us, []⟩ (Value.ref (hp.objs.size + 1) :: (us ++ ds)) _ _ (fun _ _ _ => False) (hr.make C us []) (I2.env0.make C us []) (hb _ (Value.ref (hp.objs.size + 1) :: us) I2.kIn hl) r2 hq) fun r s' hz2 => ?_))
  cases r with
  | error er => exact hx pins σ _ _ er s' I2 hz2
  | ok fl => cases fl with
    | ret u =>
      obtain ⟨v, H2, os2, bare2, un2, hok2, rv, ev, d, fs, ea, ed, hd1, q2⟩ := hz2
      subst ev
      obtain ⟨h2, g2, d2, t2, os'⟩ := s'
      exact ⟨rv, mk_end (raises_own T.exC T.tyC) I1 z1 kk un2 hok2 os2 bare2 ea ed hd1 q2⟩
    | _ => exact False.elim hz2
end
end Z
namespace Z
open PySem PySem.Spec PyProof.Rows L2
/-- a built-in base: what of it is the same in every program -/
structure BaseX (B newId initId : String) (bx : Str) (bmB : List Value) : Prop where
  fac : ExcBaseFacts B newId initId bmB
  pass : ∀ self, refuseLoop self "__setattr__" bmB = pure ()
  hob : bmB.contains (.type "object") = true
  typ : typeOf (.type B) = pure (.type "type")
  stub : Manifest.isStub B = false
  hbt : bootBuiltins bx = some (.type B)
  hh : PySem.W.handedIn (.builtin initId) = true
  kmt : PySem.W.kitMeta B = true
abbrev tl_ValueError : List Value := [.type "ValueError", .type "Exception", .type "BaseException", .type "object"]
theorem bx_ValueError : BaseX "ValueError" "ValueError.__new__" "ValueError.__init__" "ValueError" tl_ValueError := ⟨PySem.F.excBase_ValueError, PySem.F.store_ValueError.passes, by decide +kernel, by kernel_rfl, by decide +kernel, by decide +kernel, by decide +kernel, by decide +kernel⟩
abbrev tl_LookupError : List Value := [.type "LookupError", .type "Exception", .type "BaseException", .type "object"]
theorem bx_LookupError : BaseX "LookupError" "LookupError.__new__" "LookupError.__init__" "LookupError" tl_LookupError := ⟨PySem.F.excBase_LookupError, PySem.F.store_LookupError.passes, by decide +kernel, by kernel_rfl, by decide +kernel, by decide +kernel, by decide +kernel, by decide +kernel⟩
abbrev tl_IndexError : List Value := [.type "IndexError", .type "LookupError", .type "Exception", .type "BaseException", .type "object"]
theorem bx_IndexError : BaseX "IndexError" "IndexError.__new__" "IndexError.__init__" "IndexError" tl_IndexError := ⟨PySem.F.excBase_IndexError, PySem.F.store_IndexError.passes, by decide +kernel, by kernel_rfl, by decide +kernel, by decide +kernel, by decide +kernel, by decide +kernel⟩
abbrev tl_OverflowError : List Value := [.type "OverflowError", .type "ArithmeticError", .type "Exception", .type "BaseException", .type "object"]
theorem bx_OverflowError : BaseX "OverflowError" "OverflowError.__new__" "OverflowError.__init__" "OverflowError" tl_OverflowError := ⟨PySem.F.excBase_OverflowError, PySem.F.store_OverflowError.passes, by decide +kernel, by kernel_rfl, by decide +kernel, by decide +kernel, by decide +kernel, by decide +kernel⟩
abbrev tl_ArithmeticError : List Value := [.type "ArithmeticError", .type "Exception", .type "BaseException", .type "object"]
theorem bx_ArithmeticError : BaseX "ArithmeticError" "ArithmeticError.__new__" "ArithmeticError.__init__" "ArithmeticError" tl_ArithmeticError := ⟨PySem.F.excBase_ArithmeticError, PySem.F.store_ArithmeticError.passes, by decide +kernel, by kernel_rfl, by decide +kernel, by decide +kernel, by decide +kernel, by decide +kernel⟩
abbrev tl_TypeError : List Value := [.type "TypeError", .type "Exception", .type "BaseException", .type "object"]
theorem bx_TypeError : BaseX "TypeError" "TypeError.__new__" "TypeError.__init__" "TypeError" tl_TypeError := ⟨PySem.F.excBase_TypeError, PySem.F.store_TypeError.passes, by decide +kernel, by kernel_rfl, by decide +kernel, by decide +kernel, by decide +kernel, by decide +kernel⟩
abbrev tl_RuntimeError : List Value := [.type "RuntimeError", .type "Exception", .type "BaseException", .type "object"]
theorem bx_RuntimeError : BaseX "RuntimeError" "RuntimeError.__new__" "RuntimeError.__init__" "RuntimeError" tl_RuntimeError := ⟨PySem.F.excBase_RuntimeError, PySem.F.store_RuntimeError.passes, by decide +kernel, by kernel_rfl, by decide +kernel, by decide +kernel, by decide +kernel, by decide +kernel⟩
/-- an own exception class x at C over the base B, its __init__ at fI, its one field n -/
structure ExB (K : PySem.W.Frag) (mg : Str → Option Value) (x n : Str) (C fI : Addr) (B newId initId : String) (bmB : List Value) : Prop where
  gC : mg x = some (.ref C)
  oex : OexB K C B newId initId bmB
  xf : XfC K C
  xc : ExcC K C
  no : PySem.W.findIn K (.ref C) n = some none
  iC : PySem.W.findIn K (.ref C) "__init__" = some (some (.ref fI))
  tI : PySem.W.typeIn K (.ref fI) = some (.type "function")
  te : PySem.W.exmOne K (.ref C) (.ref C) = some true
  kv : PySem.W.kitOne K (.ref C) (.type B) = some true
theorem kvB_of {K : PySem.W.Frag} {C : Addr} {B : String} (hm : PySem.W.kitMeta B = true) (h : PySem.W.subIn K (.ref C) (.type B) = some true) : PySem.W.kitOne K (.ref C) (.type B) = some true := by
  unfold PySem.W.kitOne
  rw [show ((Value.ref C) == (Value.type B)) = false from rfl]
  show PySem.W.kitCls K (.ref C) (.type B) = some true
  unfold PySem.W.kitCls
  show (if PySem.W.kitMeta B = true then _ else none) = some true
  rw [if_pos hm]
  exact h
section
variable {K : PySem.W.Frag} {σ : L2.St} {H : Hp} {B newId initId : String} {bmB : List Value}
theorem st_bei {ta : TA} {Q : VK} (h : ta σ H fun vs H1 => ∃ (a C : Addr) (ws : List V), vs = .ref a :: ws ∧ ws.length ≤ 1000 ∧ OexB K C B newId initId bmB ∧ H1 a = some (exo a C none) ∧ Q .non H1) : tBei K B newId initId bmB ta σ H Q := h
theorem st_bst {f : Str} {to te : TE} {D : Ends} (h : te σ H fun y H1 => to σ H1 fun x H2 => ∃ a C : Addr, x = .ref a ∧ OexB K C B newId initId bmB ∧ PySem.W.findIn K (.ref C) f = some none ∧
    H2 a = some (exo a C none) ∧ ∀ dx, H2 dx = none → dx ≠ a → D.nx σ (upd (upd H2 dx (exd dx [(f, y)])) a (exo a C (some dx)))) : tBst K B newId initId bmB f to te D σ H := h
end
section
variable {K : PySem.W.Frag} {x qual : Str} {params : Arguments} {body : List Stmt} {scope : Scope} {kws : List (Str × V)} {f : Addr} {fd : FuncData} {ps ks : List Str} {n : Nat}
theorem kbnK (F : FunD K x qual params body scope [] kws f fd) (g : List Value → List Value → List Value) {gV : List V → List V → List V} (rel : ∀ {vs : List V} {us : List Value} {zs : List V} {ws : List Value}, Vals vs us → Vals zs ws → Vals (gV vs zs) (g us ws))
    (h : ∀ (kV doc pm : Value) (an : Option Addr) (cdv ct : Value) (us ws : List Value), us.length = n → ws.length = ks.length → bindArgs (PySem.W.fnOf x qual params body scope .none kV doc pm an cdv ct) ⟨us, ks.zip ws⟩ = pure (ps.zip (g us ws))) : KBn K fd ps n ks g gV := by
  obtain ⟨oc, od, dV, kV, doc, pm, an, cdv, ct, osl, rfl, lk, hcd, hD, hK⟩ := F.ex
  rcases hD with ⟨_, rfl⟩ | ⟨e, _⟩
  · exact ⟨fun s us ws _ l1 l2 => .of_eq (h kV doc pm an cdv ct us ws l1 l2), rel⟩
  · exact absurd rfl e
end
/-- f(e, .., k = v, ..) whose exceptions go where the try says -/
def tCallNS (n m : Nat) (sp : Sp) (gV : List V → List V → List V) (E : L2.St → XK) (t tk : TA) : TE := fun σ H Q => t σ H fun vs H1 => tk σ H1 fun zs H2 => vs.length = n ∧ zs.length = m ∧ sp (gV vs zs) H2 Q (E σ)
section
variable {X : Cx} {CX : CXT} {k n : Nat} {f : Addr} {fd : FuncData} {ps ks : List Str} {sp : Sp} {E : L2.St → XK} {x : Str} {p pos : Pos} {e : Expr} {es : List Expr} {kws : List Keyword} {t tk : TA} {g : List Value → List Value → List Value} {gV : List V → List V → List V}
theorem pe_callNS (F : FnOk X.prog X.w X.K X.mg X.base CX k f fd ps sp) (hr : Room k X.A) (hg : Gl X x) (hm : X.mg x = some (.ref f)) (hk : PySem.W.keepIn X.K (.ref f) = true) (hb : KBn X.K fd ps n ks g gV) (hx : ∀ σ, PassesAt CX X σ (E σ)) (ha : PA X (e :: es) t) (hkw : PK X kws tk)
    (hall : (backToKw pos (keywordEach kws X.env)).all (·.1.isSome) = true := by rfl) (hks : (backToKw pos (keywordEach kws X.env)).filterMap (·.1) = ks := by rfl) (hdb : (x == ("__debug__" : Str)) = false := by decide) (he : starEach (e :: es) X.env = (false, eval e X.env) :: starEach es X.env := by rfl) (hpl : ((backTo pos (starEach (e :: es) X.env)).any (·.1) || (backToKw pos (keywordEach kws X.env)).any (·.1.isNone)) = false := by rfl) : PE X (.Call (.Name x p) (e :: es) kws pos) (tCallNS n ks.length sp gV E t tk) := by
  refine ⟨fun pins s σ H Q I h => wpAny_Call_Name_kw (ld_glob I hg hm (PySem.W.callWith_KW (h₀ := X.base) I.ok.mod.kin hk hall (thn (ha.run pos pins s σ H _ I h) fun us s1 ⟨vs, H1, I1, r, q⟩ => thn (hkw.run pos pins s1 σ H1 _ I1 q) fun ws s2 ⟨zs, H2, I2, rz, l1, l2, q2⟩ => ⟨I2.kIn, ?_⟩) hpl he) hdb)⟩
  rw [hks]
  have r2 := hb.rel r rz
  refine wpAny_call (codeAny_mono (F.run X.A X.stack s2 H2 ⟨us, ks.zip ws⟩ (g us ws) (gV vs zs) Q (E σ) hr I2.env0 (hb.to s2 us ws I2.kIn (r.length.symm.trans l1) (rz.length.symm.trans l2)) r2 q2) fun r s' hq => ?_)
  cases r with
  | error e => exact hx σ pins H2 s2 e s' I2 hq
  | ok fl => cases fl with
    | ret u => exact I2.after hq
    | _ => exact False.elim hq
theorem st_callNS {m : Nat} {σ : L2.St} {H : Hp} {Q : VK} (h : t σ H fun vs H1 => tk σ H1 fun zs H2 => vs.length = n ∧ zs.length = m ∧ sp (gV vs zs) H2 Q (E σ)) : tCallNS n m sp gV E t tk σ H Q := h
end
end Z

/-! own classes: made by a local name, methods in a try, len; comprehensions over enumerate, of two parts -/
namespace Z
open PySem PySem.Spec PyProof.Rows L2
section
variable {X : Cx} {CX : CXT} {k : Nat} {f C : Addr} {fd : FuncData} {ps : List Str} {ds : List Value} {dvs : List V} {sp : Sp} {m : Str} {fe o e : Expr} {es : List Expr} {tf ta : TE} {t : TA} {pos apos : Pos} {E : XK}
/-- g(e, ..), g an expression whose value is the class at C -/
def tMakeV (C : Addr) (sp : Sp) (dvs : List V) (E : XK) (tf : TE) (t : TA) : TE := fun σ H Q => tf σ H fun y H1 => y = .ref C ∧ tMake C sp dvs E t σ H1 Q
theorem pe_makeV (hf : PE X fe tf) (M : Mk X.K C f) (F : FnOk X.prog X.w X.K X.mg X.base CX k f fd ps sp) (hr : Room (k + 1) X.A) (hb : Binds X.K fd ps ds) (hd : Vals dvs ds) (hx : Passes CX X E) (ha : PA X (e :: es) t)
    (ht : eval (.Call fe (e :: es) [] pos) X.env = (do callWith pos (← eval fe X.env) [] (backTo pos (starEach (e :: es) X.env)) (backToKw pos (keywordEach [] X.env))) := by rfl)
    (he : starEach (e :: es) X.env = (false, eval e X.env) :: starEach es X.env := by rfl) (hpl : (backTo pos (starEach es X.env)).any (·.1) = false := by rfl) : PE X (.Call fe (e :: es) [] pos) (tMakeV C sp dvs E tf t) := by
  refine ⟨fun pins s σ H Q I h => Call_ (thn (hf.run pins s σ H _ I h) fun u s1 ⟨y, H1, I1, ry, ey, q⟩ => ?_) ht⟩
  subst ey
  obtain rfl : u = Value.ref C := ry
  exact PySem.W.callWith_K (h₀ := X.base) I1.ok.mod.kin M.kp (thn (ha.run pos pins s1 σ H1 _ I1 q) fun us s2 ⟨vs, H2, I2, r, q2⟩ => ⟨I2.kIn, run_make M F hr hb hd hx I2 r q2⟩) he hpl
theorem st_makeV {σ : L2.St} {H : Hp} {Q : VK} (h : tf σ H fun y H1 => y = .ref C ∧ tMake C sp dvs E t σ H1 Q) : tMakeV C sp dvs E tf t σ H Q := h
theorem st_make {σ : L2.St} {H : Hp} {Q : VK} (h : t σ H fun vs H1 => ∀ x dx, H1 x = none → H1 dx = none → dx ≠ x → sp (.ref x :: (vs ++ dvs)) (upd (upd H1 dx (.own x)) x (.ins C dx [])) (fun v H2 => v = .non ∧ Q (.ref x) H2) E) : tMake C sp dvs E t σ H Q := h
theorem st_meth {σ : L2.St} {H : Hp} {Q : VK} (h : ta σ H fun x H1 => ∃ a dx fs, x = .ref a ∧ H1 a = some (.ins C dx fs) ∧ fs.lookup m = none ∧ t σ H1 fun vs H2 => sp (x :: (vs ++ dvs)) H2 Q E) : tMeth C m sp dvs E ta t σ H Q := h
theorem st_fld {K : PySem.W.Frag} {n : Str} {σ : L2.St} {H : Hp} {Q : VK} (h : ta σ H fun x H1 => ∃ a C dx fs v, x = .ref a ∧ H1 a = some (.ins C dx fs) ∧ Cls K C ∧ NoAttr K C n ∧ fs.lookup n = some v ∧ Q v H1) : tFld K ta n σ H Q := h
theorem st_sfld {K : PySem.W.Frag} {tv : TE} {n : Str} {σ : L2.St} {H : Hp} {D : Ends} (h : tv σ H fun y H1 => ta σ H1 fun x H2 => ∃ a C dx fs, x = .ref a ∧ H2 a = some (.ins C dx fs) ∧ Cls K C ∧ NoAttr K C n ∧ fs.length < 1000 ∧ D.nx σ (upd H2 a (.ins C dx (putF n y fs)))) : sFld K ta tv n D σ H := h
theorem st_cval {K : PySem.W.Frag} {n : Str} {σ : L2.St} {H : Hp} {Q : VK} (h : ta σ H fun x H1 => ∃ C mc v u, x = .ref C ∧ ClX.CRead K C mc ∧ ClX.CVal K C mc n v u ∧ Q v H1) : ClX.tCVal K ta n σ H Q := h
theorem st_cmeth {σ : L2.St} {H : Hp} {Q : VK} (h : ta σ H fun x H1 => x = .ref C ∧ t σ H1 fun vs H2 => sp (.ref C :: vs) H2 Q E) : ClX.tCMeth C sp E ta t σ H Q := h
/-- o.m(..) whose exceptions go where the try says -/
def tMethSD (C : Addr) (m : Str) (sp : Sp) (dvs : List V) (E : L2.St → XK) (ta : TE) (t : TA) : TE := fun σ H Q => ta σ H fun x H1 => ∃ a dx fs, x = .ref a ∧ H1 a = some (.ins C dx fs) ∧ fs.lookup m = none ∧ t σ H1 fun vs H2 => sp (x :: (vs ++ dvs)) H2 Q (E σ)
theorem pe_methSD {pl : Sem Bool} {E : L2.St → XK} (he : PE X o ta) (c : Cls X.K C) (hm : Meth X.K C m f) (F : FnOk X.prog X.w X.K X.mg X.base CX k f fd ps sp) (hr : Room k X.A) (hb : Binds X.K fd ps ds) (hd : Vals dvs ds) (hx : ∀ σ, PassesAt CX X σ (E σ)) (ha : PA X (e :: es) t)
    (hst : starEach (e :: es) X.env = (false, eval e X.env) :: starEach es X.env := by rfl) (hpl : (backTo pos (starEach es X.env)).any (·.1) = false := by rfl)
    (ht : eval (.Call (.Attribute o m apos) (e :: es) [] pos) X.env = (do
      let ov ← eval o X.env
      standAt apos.atName
      let (f, first) ← holding [ov] (getMethod ov m pl)
      callWith pos f first (backTo pos (starEach (e :: es) X.env)) (backToKw pos (keywordEach [] X.env))) := by rfl) :
    PE X (.Call (.Attribute o m apos) (e :: es) [] pos) (tMethSD C m sp dvs E ta t) := by
  refine ⟨fun pins s σ H Q I h => PySem.W.methodCall_KW (pl := pl) (thn (he.run pins s σ H _ I h) fun u s1 ⟨x, H1, I1, rx, a, dx, fs, ex, ea, l, q⟩ => ?_) ht⟩
  subst ex
  obtain rfl : u = Value.ref a := rx
  refine getmeth_ok I1 ea c hm l (PySem.W.callWith_K (first := [.ref a]) (h₀ := X.base) I1.ok.mod.kin hm.kp (thn (ha.run pos pins s1 σ H1 _ I1 q) fun us s2 ⟨vs, H2, I2, r, q2⟩ => ⟨I2.kIn, ?_⟩) hst hpl)
  have r2 : Vals (V.ref a :: (vs ++ dvs)) ((Value.ref a :: us) ++ ds) := .cons rfl (r.append hd)
  refine wpAny_call (codeAny_mono (F.run X.A X.stack s2 H2 ⟨Value.ref a :: us, []⟩ _ _ Q (E σ) hr I2.env0 (hb s2 (Value.ref a :: us) I2.kIn (r2.length.symm.trans (F.len _ _ _ _ q2))) r2 q2) fun r s' hq => ?_)
  cases r with
  | error e => exact hx σ pins H2 s2 e s' I2 hq
  | ok fl => cases fl with
    | ret u => exact I2.after hq
    | _ => exact False.elim hq
theorem st_methSD {E : L2.St → XK} {σ : L2.St} {H : Hp} {Q : VK} (h : ta σ H fun x H1 => ∃ a dx fs, x = .ref a ∧ H1 a = some (.ins C dx fs) ∧ fs.lookup m = none ∧ t σ H1 fun vs H2 => sp (x :: (vs ++ dvs)) H2 Q (E σ)) : tMethSD C m sp dvs E ta t σ H Q := h
/-- len of an instance with its own __len__ -/
def rLenO (C : Addr) (sp : Sp) : List V → Hp → VK → Prop := fun vs H Q => ∃ a dx fs, vs = [.ref a] ∧ H a = some (.ins C dx fs) ∧ sp [.ref a] H (fun v H2 => ∃ n : Int, v = .int n ∧ (0 ≤ n ∧ n < 2 ^ 63) ∧ Q (.int n) H2) E0
theorem call_lenO (hm : Meth X.K C "__len__" f) (F : FnOk X.prog X.w X.K X.mg X.base CX0 k f fd ps sp) (hr : Room (k + 1) X.A) (hb : Binds X.K fd ps []) : CallR X (.builtin "len") (rLenO C sp) := by
  intro pins s σ H vs us Q I r h
  obtain ⟨a, dx, fs, rfl, ha, q⟩ := h
  rw [Vals.ref1 r]
  obtain ⟨ox, od, J, _⟩ := StX.insC_at (C := C) I (.inr ⟨dx, fs, ha⟩)
  refine Calls.call_function_entry kind_len plain_len entry_len (args_len1 _) ?_
  unfold Builtin.«len»
  refine wpAny_bind (m := oneArg "len" _) (wpAny_pure ?_)
  have r2 : Vals [V.ref a] ([Value.ref a] ++ []) := .cons rfl .nil
  have run : wpAny (model X.prog X.w) X.A.in1 (call (.ref f) [.ref a]) (EP X pins σ fun v H2 => ∃ n : Int, v = .int n ∧ (0 ≤ n ∧ n < 2 ^ 63) ∧ Q (.int n) H2) X.xe s := by
    refine wpAny_call (codeAny_mono (F.run X.A.in1 X.stack s H ⟨[.ref a], []⟩ _ _ _ E0 hr.in1 I.env0.in1 (hb s [.ref a] I.kIn (r2.length.symm.trans (F.len _ _ _ _ q))) r2 q) fun r s' hq => ?_)
    cases r with
    | error e => exact False.elim hq
    | ok fl => cases fl with
      | ret u => exact I.after hq
      | _ => exact False.elim hq
  refine wpAny_bind (m := callSpecial? (.ref a) (Str.ofString "__len__")) (PySem.W.special_fn I.kIn J hm.at_ (beq_iff_eq.mp hm.fn) (wpAny_mono run (fun u s' hu => ?_) fun _ _ y => y))
  obtain ⟨v, H2, I2, rv, n, rfl, ⟨h0, h1⟩, q2⟩ := hu
  obtain ⟨tk, rfl⟩ := rv
  refine wpAny_bind (wpAny_holding (wpAny_pure ?_))
  refine wpAny_bind (wpAny_letGo ?_)
  show wpAny _ _ (if n < 0 then _ else _) _ _ _
  rw [if_neg (by omega)]
  show wpAny _ _ (if n ≥ 2 ^ 63 then _ else _) _ _ _
  rw [if_neg (by omega)]
  exact wpAny_bind (wpAny_mkInt (wpAny_pure ⟨_, rfl, .int n, H2, I2.tok _, ⟨_, rfl⟩, q2⟩))
end
/-! the ghost heap -/
section
variable {K : PySem.W.Frag} {σ : L2.St} {H G : Hp} {W : Wl} {Q : VK} {a : Addr} {xs : List V} {tt : TT} {te : TE} {vs : List Nat}
theorem new_ins {C : Addr} {P : Addr → Addr → Hp → Prop} (w : Wd G W H) (k : ∀ x dx G1 H1, Same G G1 → G1 dx = some (.own x) → Wd G1 ((x, Is (.ins C dx [])) :: W) H1 → P x dx H1) : ∀ x dx, H x = none → H dx = none → dx ≠ x → P x dx (upd (upd H dx (.own x)) x (.ins C dx [])) := fun x dx hx hd ne =>
  k x dx _ _ (same_upd (w.free hd)) upd_same ((w.new hd).newM (by rw [upd_ne (fun z => ne z.symm)]; exact hx) rfl)
/-- a comprehension over enumerate -/
theorem lc_enumA (hx : SqL K G a xs ∨ SqT K G a xs) {i1 i2 : Nat} (I : Nat → List V → Hp → Prop) (w : Wd G W H) (h0 : I 0 [] G) (hw : ∀ x y, wipe (((wipe σ vs).set i1 x).set i2 y) vs = wipe σ vs)
    (hs : ∀ (i : Nat) x D G' G'' H' acc, xs[i]? = some x → Same G G' → I i acc G' → Same G' G'' → Wd G'' ((D, Is (.lst acc)) :: W) H' → tt (((wipe σ vs).set i1 (some (.int (i : Int)))).set i2 (some x)) H' fun b H3 =>
      if b = true then te (((wipe σ vs).set i1 (some (.int (i : Int)))).set i2 (some x)) H3 fun y H4 => ∃ acc, H4 D = some (.lst acc) ∧ acc.length < sizeLine ∧ LcB I G W D (i + 1) (upd H4 D (.lst (acc ++ [y]))) else LcB I G W D (i + 1) H3)
    (hd : ∀ D G' H' acc, Same G G' → Wd G' ((D, Is (.lst acc)) :: W) H' → I xs.length acc G' → Q (.ref D) H') :
    ∃ a' ys, [V.ref a] = [.ref a'] ∧ ((SqL K H a' ys ∧ LcQ (Ite K a') (gTup K 2 (gCons (gName i1) (gCons (gName i2) gNil))) tt te vs σ H Q) ∨ (SqT K H a' ys ∧ LcQ (IteT K a') (gTup K 2 (gCons (gName i1) (gCons (gName i2) gNil))) tt te vs σ H Q)) := by
  have step : ∀ (i : Nat) (x : V) (D : Addr) (G' H' H'' : Hp) (acc : List V), i < xs.length → Same G G' → Wd G' ((D, Is (.lst acc)) :: W) H' → I i acc G' → YPair (fun i => some (.int (i : Nat))) (fun i => xs[i]?) i H' x H'' →
      gTup K 2 (gCons (gName i1) (gCons (gName i2) gNil)) x (wipe σ vs) H'' fun σ2 H2 => wipe σ2 vs = wipe σ vs ∧ tt σ2 H2 fun b H3 =>
        if b = true then te σ2 H3 fun y H4 => ∃ acc, H4 D = some (.lst acc) ∧ acc.length < sizeLine ∧ LcB I G W D (i + 1) (upd H4 D (.lst (acc ++ [y]))) else LcB I G W D (i + 1) H3 := fun i x D G' H' H'' acc _ e w' h y => by
    obtain ⟨T, x1, x2, rfl, hn, rfl, e1, e2⟩ := y
    cases e1
    refine ⟨T, _, rfl, SqT.of upd_same, rfl, _, _, rfl, ?_⟩
    refine ⟨_, _, rfl, ?_⟩
    exact ⟨rfl, hw _ _, hs i x2 D G' _ _ acc e2 e h (same_upd (w'.free hn)) (w'.new hn)⟩
  rcases hx with hx | hx
  · exact ⟨a, xs, rfl, .inl ⟨seq_up w hx, lc_go walk_enum I w (fun _ _ _ e w' => seq_up w' (e.seq hx)) h0 step hd⟩⟩
  · exact ⟨a, xs, rfl, .inr ⟨tup_up w hx, lc_go walk_enumT I w (fun _ _ _ e w' => tup_up w' (seqT e hx)) h0 step hd⟩⟩
/-- the inner part of a comprehension of two parts -/
def LcIn (J : It) (g : TG) (tt : TT) (te : TE) (vs : List Nat) (D : Addr) (Nx : Hp → Prop) (σ : L2.St) (H4 : Hp) : Prop := ∃ W1 : Nat → Nat → Hp → Prop, (∃ m, W1 0 m H4) ∧ ∀ j k H, W1 j k H →
  (J.stop j H ∧ Nx H) ∨ (J.go j H ∧ ∃ Nx1 : Hp → Prop, (∀ H', Nx1 H' → ∃ k', k' < k ∧ W1 (j + 1) k' H') ∧ ∀ x H', J.yld j H x H' → g x (wipe σ vs) H' fun σ3 H5 => wipe σ3 vs = wipe σ vs ∧ tt σ3 H5 fun b H6 =>
    if b = true then te σ3 H6 fun y H7 => ∃ acc, H7 D = some (.lst acc) ∧ acc.length < sizeLine ∧ Nx1 (upd H7 D (.lst (acc ++ [y]))) else Nx1 H6)
def Lc2Q (J : It) (g : TG) (tt : TT) (wi1 : TI) (g1 : TG) (tt1 : TT) (te : TE) (vs vs1 : List Nat) (σ : L2.St) (H1 : Hp) (Q : VK) : Prop := ∀ D, H1 D = none → ∃ W : Nat → Nat → Hp → Prop, (∃ m, W 0 m (upd H1 D (.lst []))) ∧ ∀ i m H, W i m H →
  (J.stop i H ∧ Q (.ref D) H) ∨ (J.go i H ∧ ∃ Nx : Hp → Prop, (∀ H', Nx H' → ∃ m', m' < m ∧ W (i + 1) m' H') ∧ ∀ x H', J.yld i H x H' → g x (wipe σ vs) H' fun σ2 H2 => wipe σ2 vs = wipe σ vs ∧ tt σ2 H2 fun b H3 =>
    if b = true then wi1 σ2 H3 fun J1 H4 => LcIn J1 g1 tt1 te vs1 D Nx σ2 H4 else Nx H3)
theorem st_lc2 {wi wi1 : TI} {g g1 : TG} {tt1 : TT} {vs1 : List Nat} (h : wi σ H fun J H1 => Lc2Q J g tt wi1 g1 tt1 te vs vs1 σ H1 Q) : tLc2 wi g tt wi1 g1 tt1 te vs vs1 σ H Q := h
theorem lc_in {J : It} {n : Nat} {Gp : Hp → Prop} {Y : Nat → Hp → V → Hp → Prop} (wk : Walk J n Gp Y) {g : TG} {D : Addr} {Nx : Hp → Prop} (Pv : Nat → Hp → Prop) (h0 : Pv 0 H) (hG : ∀ i H, i ≤ n → Pv i H → Gp H)
    (hs : ∀ i x H H', i < n → Pv i H → Y i H x H' → g x (wipe σ vs) H' fun σ2 H2 => wipe σ2 vs = wipe σ vs ∧ tt σ2 H2 fun b H3 =>
      if b = true then te σ2 H3 fun y H4 => ∃ acc, H4 D = some (.lst acc) ∧ acc.length < sizeLine ∧ Pv (i + 1) (upd H4 D (.lst (acc ++ [y]))) else Pv (i + 1) H3) (hd : ∀ H, Pv n H → Nx H) : LcIn J g tt te vs D Nx σ H := by
  refine ⟨fun i m H => m = n - i ∧ i ≤ n ∧ Pv i H, ⟨n, by simp, Nat.zero_le _, h0⟩, ?_⟩
  rintro i m H ⟨rfl, hi, p⟩
  have q := hG i H hi p
  rcases Nat.lt_or_ge i n with hl | hl
  · exact .inr ⟨wk.goes i H hl q, Pv (i + 1), fun H' p' => ⟨n - (i + 1), by omega, rfl, hl, p'⟩, fun x H' y => hs i x H H' hl p (wk.yields i H x H' hl q y)⟩
  · obtain rfl : i = n := by omega
    exact .inl ⟨wk.stops H q, hd H p⟩
/-- .. for j in range(z) -/
theorem lc_in1 {z : Int} {j : Nat} {D : Addr} {Nx : Hp → Prop} {acc0 : List V} (hz : -(2 ^ 62) ≤ z ∧ z < 2 ^ 62) (I : Nat → List V → Hp → Prop) (w : Wd G ((D, Is (.lst acc0)) :: W) H) (h0 : I 0 acc0 G) (hw : ∀ x, wipe ((wipe σ vs).set j x) vs = wipe σ vs)
    (hs : ∀ (i : Nat) G' H' acc, (i : Int) < z → Same G G' → Wd G' ((D, Is (.lst acc)) :: W) H' → I i acc G' → tt ((wipe σ vs).set j (some (.int (i : Int)))) H' fun b H3 =>
      if b = true then te ((wipe σ vs).set j (some (.int (i : Int)))) H3 fun y H4 => ∃ acc, H4 D = some (.lst acc) ∧ acc.length < sizeLine ∧ LcB I G W D (i + 1) (upd H4 D (.lst (acc ++ [y]))) else LcB I G W D (i + 1) H3)
    (hd : ∀ G' H' acc, Same G G' → Wd G' ((D, Is (.lst acc)) :: W) H' → I z.toNat acc G' → Nx H') : ∃ j' : Int, [V.int z] = [.int j'] ∧ -(2 ^ 62) ≤ j' ∧ j' < 2 ^ 62 ∧ LcIn (Itr 0 j'.toNat) (gName j) tt te vs D Nx σ H :=
  ⟨z, rfl, hz.1, hz.2, lc_in walk_range (LcB I G W D) ⟨G, acc0, Same.refl _, w, h0⟩ (fun _ _ _ _ => trivial) (fun i x H' H'' hi ⟨G', acc, e, w', h⟩ y => by
    obtain ⟨rfl, rfl⟩ := y
    have e0 : (0 : Int) + (i : Int) = (i : Int) := Int.zero_add _
    dsimp only
    rw [e0]
    exact ⟨hw _, hs i G' _ acc (by omega) e w' h⟩) fun H' ⟨G', acc, e, w', h⟩ => hd G' H' acc e w' h⟩
/-- the outer part over a list -/
theorem lc2_l {j : Nat} {wi1 : TI} {g1 : TG} {tt1 : TT} {vs1 : List Nat} (hx : SqL K G a xs) (I : Nat → List V → Hp → Prop) (w : Wd G W H) (h0 : I 0 [] G) (hw : ∀ x, wipe ((wipe σ vs).set j x) vs = wipe σ vs)
    (hs : ∀ (i : Nat) x D G' H' acc, xs[i]? = some x → Same G G' → Wd G' ((D, Is (.lst acc)) :: W) H' → I i acc G' → tt ((wipe σ vs).set j (some x)) H' fun b H3 =>
      if b = true then wi1 ((wipe σ vs).set j (some x)) H3 fun J1 H4 => LcIn J1 g1 tt1 te vs1 D (LcB I G W D (i + 1)) ((wipe σ vs).set j (some x)) H4 else LcB I G W D (i + 1) H3)
    (hd : ∀ D G' H' acc, Same G G' → Wd G' ((D, Is (.lst acc)) :: W) H' → I xs.length acc G' → Q (.ref D) H') : ∃ a', V.ref a = .ref a' ∧ (∃ xs, SqL K H a' xs) ∧ Lc2Q (Itl K a') (gName j) tt wi1 g1 tt1 te vs vs1 σ H Q := by
  refine ⟨a, rfl, ⟨xs, seq_up w hx⟩, fun D hD => ⟨fun i m H => m = xs.length - i ∧ i ≤ xs.length ∧ LcB I G W D i H, ⟨xs.length, by simp, Nat.zero_le _, G, [], Same.refl _, w.newM hD rfl, h0⟩, ?_⟩⟩
  rintro i m H1 ⟨rfl, hi, G', acc, e, w', p⟩
  have q := seq_up w' (e.seq hx)
  have wk : Walk (Itl K a) xs.length (fun H => SqL K H a xs) _ := walk_list
  rcases Nat.lt_or_ge i xs.length with hl | hl
  · refine .inr ⟨wk.goes i H1 hl q, LcB I G W D (i + 1), fun H' p' => ⟨xs.length - (i + 1), by omega, rfl, hl, p'⟩, fun x H' y => ?_⟩
    obtain ⟨e3, y2⟩ := wk.yields i H1 x H' hl q y
    subst e3
    exact ⟨hw _, hs i x D G' _ acc y2 e w' p⟩
  · obtain rfl : i = xs.length := by omega
    exact .inl ⟨wk.stops H1 q, hd D G' H1 acc e w' p⟩
end
end Z

local macro_rules | `(tactic| walk_at "cond") => `(tactic| first
  | (show (0 : Int) < _; first | decide | omega) | (show (0 : Int) ≤ _; first | decide | omega) | ((refine (show L2.CDiv _ _ from ⟨?_, ?_⟩)) <;> omega) | ((refine (show L2.CMul _ _ from Or.inl ⟨?_, ?_⟩)) <;> omega) | ((refine (show L2.CMul _ _ from Or.inr ⟨?_, ?_⟩)) <;> omega)
  | (refine (show Z.CPowW _ _ from ⟨?_, ?_⟩) <;> decide) | (refine (show L2.CPow _ _ from ⟨?_, ?_, ?_⟩); omega; omega; decide))
local macro_rules | `(tactic| walk_at "z") => `(tactic| first
  | with_reducible refine Z.st_seq ?_ | with_reducible refine Z.st_asg ?_ | with_reducible refine Z.st_if ?_ | with_reducible refine Z.st_ret ?_ | with_reducible refine Z.st_drop ?_ | with_reducible refine Z.st_next ?_ | with_reducible refine Z.st_retN ?_ | with_reducible refine Z.st_brk ?_ | with_reducible refine Z.st_cont ?_
  | with_reducible refine Z.st_gname ?_ | with_reducible refine Z.st_par ?_ | with_reducible refine Z.st_two ?_
  | ((with_reducible refine' Z.st_var ?hv ?hq); (case hv => exact rfl)) | with_reducible refine Z.st_c ?_ | with_reducible refine Z.st_op ?_ | with_reducible refine Z.st_un ?_ | with_reducible refine Z.st_i0 ?_ | with_reducible refine Z.st_u ?_
  | with_reducible refine Z.st_test ?_ | with_reducible refine Z.st_tB ?_ | with_reducible refine Z.st_bl ?_ | with_reducible refine Z.st_not ?_ | with_reducible refine Z.st_and ?_ | with_reducible refine Z.st_or ?_
  | with_reducible refine Z.st_andV ?_ | with_reducible refine Z.st_orV ?_ | with_reducible refine Z.st_notV ?_
  | with_reducible refine Z.st_nil ?_ | with_reducible refine Z.st_cons ?_ | with_reducible refine Z.st_cb ?_ | with_reducible refine Z.st_call ?_ | with_reducible refine Z.st_callN ?_
  | with_reducible refine Z.st_lst ?_ | with_reducible refine Z.st_tup ?_
  | ((with_reducible refine Z.st_eq ?_ ?_); exact rfl) | ((with_reducible refine Z.st_ne ?_ ?_); exact rfl)
  | with_reducible refine Z.st_for ?_ | with_reducible refine Z.st_iEnumA ?_ | with_reducible refine Z.st_iList ?_ | with_reducible refine Z.st_iTup ?_ | with_reducible refine Z.st_iR1 ?_ | with_reducible refine Z.st_iR2 ?_
  | ((with_reducible refine' Z.st_i ?hc ?hq); (case hc => walk_at "cond"))
  | with_reducible refine Z.st_gsub ?_ | with_reducible refine Z.st_bm ?_ | with_reducible refine Z.st_bm0 ?_
  | with_reducible refine Z.st_lc ?_ | with_reducible refine Z.st_yes ?_ | with_reducible refine Z.st_sl ?_ | with_reducible refine Z.st_chain ?_ | with_reducible refine Z.st_gcons ?_ | with_reducible refine Z.st_gnil ?_ | with_reducible refine Z.st_noPart ?_ | with_reducible refine Z.st_part ?_
  | with_reducible refine L2.iteT ?_ | with_reducible refine L2.iteF ?_ | with_reducible refine Z.iteNT ?_ | with_reducible refine Z.iteNF ?_)
local macro_rules | `(tactic| walk_at "zz") => `(tactic| repeat walk_at "z")
local macro_rules | `(tactic| walk_at "sm") => `(tactic| first | exact L2.Same.refl _ | assumption | (refine' L2.Same.trans ?ha ?hb; (case hb => assumption); (case ha => walk_at "sm")))
local macro_rules | `(tactic| walk_at "up") => `(tactic| first
  | assumption
  | (refine' Z.seq_up ?w ?h; (case w => assumption); (case h => walk_at "up")) | (refine' Z.tup_up ?w ?h; (case w => assumption); (case h => walk_at "up")) | (refine' Z.dUp ?w ?h; (case w => assumption); (case h => walk_at "up")) | (refine' Z.hUp ?w ?h; (case w => assumption); (case h => walk_at "up"))
  | (refine' L2.Same.seq ?e ?h; (case e => assumption); (case h => walk_at "up")) | (refine' Z.seqT ?e ?h; (case e => assumption); (case h => walk_at "up")) | (refine' Z.dmono ?e ?h; (case e => assumption); (case h => walk_at "up")) | (refine' Z.atUp ?e ?h; (case e => assumption); (case h => walk_at "up")))
local macro_rules | `(tactic| walk_at "zi") => `(tactic| with_reducible refine Z.st_ifE ?_)
local macro_rules | `(tactic| walk_at "nw") => `(tactic| first
  | refine ⟨by first | decide | exact Z.small (by simp), Z.NewO.good (by assumption) fun p G1 H1 e1 w1 h1 => ?_⟩
  | refine Z.st_catV (by walk_at "up") (by walk_at "up") (by first | decide | (simp; done) | (simp; omega)) (by assumption) fun p G1 H1 e1 w1 h1 => ?_)
local macro_rules | `(tactic| walk_at "zn") => `(tactic| repeat first
  | walk_at "z"
  | walk_at "nw")
local macro_rules | `(tactic| walk_at "dp") => `(tactic| first
  | exact L2.Dp.non
  | exact L2.Dp.bl _
  | exact L2.Dp.int _
  | exact L2.Dp.str _
  | assumption
  | (refine' L2.Dp.lst (L2.SqL.of ?h) ?t; (case h => walk_at "up"); (case t => walk_at "dps"))
  | (refine' L2.Dp.tup (L2.SqT.of ?h) ?t; (case h => walk_at "up"); (case t => walk_at "dps"))
  | walk_at "up")
local macro_rules | `(tactic| walk_at "dps") => `(tactic| first
  | exact L2.DpAll.nil
  | (refine' L2.DpAll.cons ?a ?b; (case a => walk_at "dp"); (case b => walk_at "dps")))
local macro_rules | `(tactic| walk_at "od") => `(tactic| first
  | decide +kernel
  | (refine Z.Od.int ?_; omega)
  | exact Z.Od.strInt (by omega)
  | exact Z.Od.bool _
  | assumption
  | (refine Z.Od.mono ?_ ?_ <;> first | assumption | decide))
local macro_rules | `(tactic| walk_at "al") => `(tactic| first
  | exact trivial
  | (refine' Z.AllP.app ?a ?b; (case a => walk_at "al"); (case b => walk_at "al"))
  | (refine' And.intro (Exists.intro _ (And.intro ?a ?b)) ?c; (case a => walk_at "dp"); (case b => walk_at "od"); (case c => walk_at "al")))
local macro_rules | `(tactic| walk_at "ib") => `(tactic| first
  | refine Z.iteBT (by rfl) ?_
  | refine Z.iteBF (by rfl) ?_)

namespace Z
open PySem PySem.Spec PyProof.Rows L2

local macro_rules | `(tactic| walk_at "zx") => `(tactic| repeat first
  | walk_at "z"
  | with_reducible refine Z.st_mkO ?_ | with_reducible refine Z.st_vei ?_ | with_reducible refine Z.st_ost ?_ | with_reducible refine Z.st_xf ?_ | with_reducible refine Z.st_callSD ?_)

local macro_rules | `(tactic| walk_at "zy") => `(tactic| repeat first
  | walk_at "z"
  | with_reducible refine Z.st_mkO ?_ | with_reducible refine Z.st_bei ?_ | with_reducible refine Z.st_bst ?_ | with_reducible refine Z.st_xf ?_ | with_reducible refine Z.st_callSD ?_ | with_reducible refine Z.st_callNS ?_)

local macro_rules | `(tactic| walk_at "zb") => `(tactic| repeat first
  | walk_at "z"
  | with_reducible refine Z.st_mkO ?_ | with_reducible refine Z.st_bei ?_ | with_reducible refine Z.st_bst ?_ | with_reducible refine Z.st_xf ?_ | with_reducible refine Z.st_callSD ?_ | with_reducible refine Z.st_callNS ?_
  | with_reducible refine Z.st_make ?_ | with_reducible refine Z.st_makeV ?_ | with_reducible refine Z.st_meth ?_ | with_reducible refine Z.st_methSD ?_ | with_reducible refine Z.st_lc2 ?_ | with_reducible refine Z.st_fld ?_ | with_reducible refine Z.st_sfld ?_ | with_reducible refine Z.st_cval ?_ | with_reducible refine Z.st_cmeth ?_)

def top (i : Nat) : Stmt := PySem.Challenge.pw_deflatehall_k03_fields.main.body.getD i (.Pass ⟨0, 0, 0, 0⟩)
abbrev s_NoBit___init__ : Stmt := inClass (top 4) 0
abbrev s_is_integer : Stmt := top 7
abbrev s_in_range : Stmt := top 8
abbrev s_is_byte : Stmt := top 9
abbrev s_checked_data : Stmt := top 10
abbrev s_Bits___init__ : Stmt := inClass (top 12) 1
abbrev s_Bits_of_data : Stmt := inClass (top 12) 2
abbrev s_Bits___len__ : Stmt := inClass (top 12) 4
abbrev s_Bits_field : Stmt := inClass (top 12) 12
abbrev s__law_bag : Stmt := top 14
abbrev s__law_take : Stmt := top 15
abbrev s__law_told : Stmt := top 16
abbrev s__law_due : Stmt := top 17
abbrev s_law : Stmt := top 18
abbrev sN_NoBit___init__ : List Str := ["self", "index"]
abbrev sP_NoBit___init__ : List Str := ["self", "index"]
theorem sc_NoBit___init__ : FnScope sN_NoBit___init__ sP_NoBit___init__ (defScope s_NoBit___init__) := ⟨rfl, rfl, rfl, by decide +kernel, rfl, by decide +kernel, by decide +kernel⟩
abbrev sN_is_integer : List Str := ["value"]
abbrev sP_is_integer : List Str := ["value"]
theorem sc_is_integer : FnScope sN_is_integer sP_is_integer (defScope s_is_integer) := ⟨rfl, rfl, rfl, by decide +kernel, rfl, by decide +kernel, by decide +kernel⟩
abbrev sN_in_range : List Str := ["value", "least", "most"]
abbrev sP_in_range : List Str := ["value", "least", "most"]
theorem sc_in_range : FnScope sN_in_range sP_in_range (defScope s_in_range) := ⟨rfl, rfl, rfl, by decide +kernel, rfl, by decide +kernel, by decide +kernel⟩
abbrev sN_is_byte : List Str := ["value"]
abbrev sP_is_byte : List Str := ["value"]
theorem sc_is_byte : FnScope sN_is_byte sP_is_byte (defScope s_is_byte) := ⟨rfl, rfl, rfl, by decide +kernel, rfl, by decide +kernel, by decide +kernel⟩
abbrev sN_checked_data : List Str := ["value", "position", "item"]
abbrev sP_checked_data : List Str := ["value"]
theorem sc_checked_data : FnScope sN_checked_data sP_checked_data (defScope s_checked_data) := ⟨rfl, rfl, rfl, by decide +kernel, rfl, by decide +kernel, by decide +kernel⟩
abbrev sN_Bits___init__ : List Str := ["self", "values", "position", "value"]
abbrev sP_Bits___init__ : List Str := ["self", "values"]
theorem sc_Bits___init__ : FnScope sN_Bits___init__ sP_Bits___init__ (defScope s_Bits___init__) := ⟨rfl, rfl, rfl, by decide +kernel, rfl, by decide +kernel, by decide +kernel⟩
abbrev sN_Bits_of_data : List Str := ["cls", "data", "byte", "place"]
abbrev sP_Bits_of_data : List Str := ["cls", "data"]
theorem sc_Bits_of_data : FnScope sN_Bits_of_data sP_Bits_of_data (defScope s_Bits_of_data) := ⟨rfl, rfl, rfl, by decide +kernel, rfl, by decide +kernel, by decide +kernel⟩
abbrev sN_Bits___len__ : List Str := ["self"]
abbrev sP_Bits___len__ : List Str := ["self"]
theorem sc_Bits___len__ : FnScope sN_Bits___len__ sP_Bits___len__ (defScope s_Bits___len__) := ⟨rfl, rfl, rfl, by decide +kernel, rfl, by decide +kernel, by decide +kernel⟩
abbrev sN_Bits_field : List Str := ["self", "start", "count", "place", "bit"]
abbrev sP_Bits_field : List Str := ["self", "start", "count"]
theorem sc_Bits_field : FnScope sN_Bits_field sP_Bits_field (defScope s_Bits_field) := ⟨rfl, rfl, rfl, by decide +kernel, rfl, by decide +kernel, by decide +kernel⟩
abbrev sN__law_bag : List Str := ["_law_script", "_law_at", "_law_cell", "_law_digits"]
abbrev sP__law_bag : List Str := ["_law_script", "_law_at"]
theorem sc__law_bag : FnScope sN__law_bag sP__law_bag (defScope s__law_bag) := ⟨rfl, rfl, rfl, by decide +kernel, rfl, by decide +kernel, by decide +kernel⟩
abbrev sN__law_take : List Str := ["_law_bag_here", "_law_many", "_law_digit"]
abbrev sP__law_take : List Str := ["_law_bag_here", "_law_many"]
theorem sc__law_take : FnScope sN__law_take sP__law_take (defScope s__law_take) := ⟨rfl, rfl, rfl, by decide +kernel, rfl, by decide +kernel, by decide +kernel⟩
abbrev sN__law_told : List Str := ["_law_made", "_law_start", "_law_count", "e"]
abbrev sP__law_told : List Str := ["_law_made", "_law_start", "_law_count"]
theorem sc__law_told : FnScope sN__law_told sP__law_told (defScope s__law_told) := ⟨rfl, rfl, rfl, by decide +kernel, rfl, by decide +kernel, by decide +kernel⟩
abbrev sN__law_due : List Str := ["_law_row", "_law_start", "_law_count", "_law_total", "_law_worth", "_law_bit"]
abbrev sP__law_due : List Str := ["_law_row", "_law_start", "_law_count"]
theorem sc__law_due : FnScope sN__law_due sP__law_due (defScope s__law_due) := ⟨rfl, rfl, rfl, by decide +kernel, rfl, by decide +kernel, by decide +kernel⟩
abbrev sN_law : List Str := ["_law_script", "_law_at", "_law_bag_here", "_law_row", "_law_made", "_law_turn", "_law_some", "_law_k", "_law_start", "_law_count"]
abbrev sP_law : List Str := ["_law_script"]
theorem sc_law : FnScope sN_law sP_law (defScope s_law) := ⟨rfl, rfl, rfl, by decide +kernel, rfl, by decide +kernel, by decide +kernel⟩
structure Adr where
  f_NoBit___init__ : Addr
  fd_NoBit___init__ : FuncData
  f_is_integer : Addr
  fd_is_integer : FuncData
  f_in_range : Addr
  fd_in_range : FuncData
  f_is_byte : Addr
  fd_is_byte : FuncData
  f_checked_data : Addr
  fd_checked_data : FuncData
  f_Bits___init__ : Addr
  fd_Bits___init__ : FuncData
  f_Bits_of_data : Addr
  fd_Bits_of_data : FuncData
  f_Bits___len__ : Addr
  fd_Bits___len__ : FuncData
  f_Bits_field : Addr
  fd_Bits_field : FuncData
  f__law_bag : Addr
  fd__law_bag : FuncData
  f__law_take : Addr
  fd__law_take : FuncData
  f__law_told : Addr
  fd__law_told : FuncData
  f__law_due : Addr
  fd__law_due : FuncData
  f_law : Addr
  fd_law : FuncData
  d_Bits___init___values : Addr
  x_NoBit : Addr
  C_Bits : Addr
  p_Bits_of_data : Addr
  tk_Bits_BYTE : Tok
  t_MOST_DATA : Tok
structure Txt (K : PySem.W.Frag) (mg : Str → Option Value) (A : Adr) : Prop where
  F_NoBit___init__ : FunD K "__init__" "NoBit.__init__" (defArgs s_NoBit___init__) (defBody s_NoBit___init__) (defScope s_NoBit___init__) [] [] A.f_NoBit___init__ A.fd_NoBit___init__
  b_NoBit___init__ : Binds K A.fd_NoBit___init__ sP_NoBit___init__ []
  F_is_integer : FunD K "is_integer" "is_integer" (defArgs s_is_integer) (defBody s_is_integer) (defScope s_is_integer) [] [] A.f_is_integer A.fd_is_integer
  b_is_integer : Binds K A.fd_is_integer sP_is_integer []
  m_is_integer : mg "is_integer" = some (.ref A.f_is_integer)
  F_in_range : FunD K "in_range" "in_range" (defArgs s_in_range) (defBody s_in_range) (defScope s_in_range) [] [] A.f_in_range A.fd_in_range
  b_in_range : Binds K A.fd_in_range sP_in_range []
  m_in_range : mg "in_range" = some (.ref A.f_in_range)
  F_is_byte : FunD K "is_byte" "is_byte" (defArgs s_is_byte) (defBody s_is_byte) (defScope s_is_byte) [] [] A.f_is_byte A.fd_is_byte
  b_is_byte : Binds K A.fd_is_byte sP_is_byte []
  m_is_byte : mg "is_byte" = some (.ref A.f_is_byte)
  F_checked_data : FunD K "checked_data" "checked_data" (defArgs s_checked_data) (defBody s_checked_data) (defScope s_checked_data) [] [] A.f_checked_data A.fd_checked_data
  b_checked_data : Binds K A.fd_checked_data sP_checked_data []
  m_checked_data : mg "checked_data" = some (.ref A.f_checked_data)
  F_Bits___init__ : FunD K "__init__" "Bits.__init__" (defArgs s_Bits___init__) (defBody s_Bits___init__) (defScope s_Bits___init__) [.ref A.d_Bits___init___values] [] A.f_Bits___init__ A.fd_Bits___init__
  dt_Bits___init___values : ∀ H, SqT K H A.d_Bits___init___values []
  b_Bits___init__ : Binds K A.fd_Bits___init__ sP_Bits___init__ []
  F_Bits_of_data : FunD K "of_data" "Bits.of_data" (defArgs s_Bits_of_data) (defBody s_Bits_of_data) (defScope s_Bits_of_data) [] [] A.f_Bits_of_data A.fd_Bits_of_data
  b_Bits_of_data : Binds K A.fd_Bits_of_data sP_Bits_of_data []
  F_Bits___len__ : FunD K "__len__" "Bits.__len__" (defArgs s_Bits___len__) (defBody s_Bits___len__) (defScope s_Bits___len__) [] [] A.f_Bits___len__ A.fd_Bits___len__
  b_Bits___len__ : Binds K A.fd_Bits___len__ sP_Bits___len__ []
  F_Bits_field : FunD K "field" "Bits.field" (defArgs s_Bits_field) (defBody s_Bits_field) (defScope s_Bits_field) [] [] A.f_Bits_field A.fd_Bits_field
  b_Bits_field : Binds K A.fd_Bits_field sP_Bits_field []
  F__law_bag : FunD K "_law_bag" "_law_bag" (defArgs s__law_bag) (defBody s__law_bag) (defScope s__law_bag) [] [] A.f__law_bag A.fd__law_bag
  b__law_bag : Binds K A.fd__law_bag sP__law_bag []
  m__law_bag : mg "_law_bag" = some (.ref A.f__law_bag)
  F__law_take : FunD K "_law_take" "_law_take" (defArgs s__law_take) (defBody s__law_take) (defScope s__law_take) [] [] A.f__law_take A.fd__law_take
  b__law_take : Binds K A.fd__law_take sP__law_take []
  m__law_take : mg "_law_take" = some (.ref A.f__law_take)
  F__law_told : FunD K "_law_told" "_law_told" (defArgs s__law_told) (defBody s__law_told) (defScope s__law_told) [] [] A.f__law_told A.fd__law_told
  b__law_told : Binds K A.fd__law_told sP__law_told []
  m__law_told : mg "_law_told" = some (.ref A.f__law_told)
  F__law_due : FunD K "_law_due" "_law_due" (defArgs s__law_due) (defBody s__law_due) (defScope s__law_due) [] [] A.f__law_due A.fd__law_due
  b__law_due : Binds K A.fd__law_due sP__law_due []
  m__law_due : mg "_law_due" = some (.ref A.f__law_due)
  F_law : FunD K "law" "law" (defArgs s_law) (defBody s_law) (defScope s_law) [] [] A.f_law A.fd_law
  b_law : Binds K A.fd_law sP_law []
  m_law : mg "law" = some (.ref A.f_law)
  b1_Bits___init__ : ∃ ds, Vals [.ref A.d_Bits___init___values] ds ∧ Binds K A.fd_Bits___init__ sP_Bits___init__ ds
  m_MOST_DATA : mg "MOST_DATA" = some (.int 70000 A.t_MOST_DATA)
  z_IndexError : mg "IndexError" = none
  z_isinstance : mg "isinstance" = none
  z_int : mg "int" = none
  z_bool : mg "bool" = none
  z_enumerate : mg "enumerate" = none
  z_list : mg "list" = none
  z_len : mg "len" = none
  z_tuple : mg "tuple" = none
  z_range : mg "range" = none
  z_sum : mg "sum" = none
  z_max : mg "max" = none
  z_abs : mg "abs" = none
  z_min : mg "min" = none
  x_NoBit : ExB K mg "NoBit" "index" A.x_NoBit A.f_NoBit___init__ "IndexError" "IndexError.__new__" "IndexError.__init__" tl_IndexError
  gC_Bits : mg "Bits" = some (.ref A.C_Bits)
  cl_Bits : Cls K A.C_Bits
  nf_Bits_row : NoAttr K A.C_Bits "row"
  M_Bits : Mk K A.C_Bits A.f_Bits___init__
  cm_Bits_of_data : ClX.CMet K A.C_Bits (.type "type") "of_data" A.p_Bits_of_data A.f_Bits_of_data
  mt_Bits___len__ : Meth K A.C_Bits "__len__" A.f_Bits___len__
  mt_Bits_field : Meth K A.C_Bits "field" A.f_Bits_field
  cr_Bits : ClX.CRead K A.C_Bits (.type "type")
  cv_Bits_BYTE : ClX.CVal K A.C_Bits (.type "type") "BYTE" (.int 8) (.int 8 A.tk_Bits_BYTE)
  vV_IndexError : PySem.W.findCls K (.type "IndexError") (.type "type") "__init__" = some (.val (.builtin "IndexError.__init__"))
section
variable {P : Program} {w : World} {K : PySem.W.Frag} {mg : Str → Option Value} {base : Heap} {A : Adr}
/-! ### integers, bytes -/
def sp_is_integer (K : PySem.W.Frag) : Sp := fun vs H Q _ => ∃ x, vs = [x] ∧ Knd K H x ∧ Q (.bl (isInt x)) H
theorem ok_is_integer (T : Txt K mg A) : FnOk P w K mg base CX0 1 A.f_is_integer A.fd_is_integer sP_is_integer (sp_is_integer K) := by
  refine okD T.F_is_integer sc_is_integer (fun vs H Q E h => ?_) (fun cdv Ar outer s H vs Q E hr h => ⟨_, (pss_one (ps_ret ((pe_and (pe_callB call_isi (by rfl) T.z_isinstance (by decide +kernel) (pa_cons (pv 0) (pa_cons (pe_bltn (v := .ty "int") (u := .type "int") (by rfl) T.z_int (by decide +kernel) rfl) pa_nil))) (pe_one (pe_not (pe_callB call_isi (by rfl) T.z_isinstance (by decide +kernel) (pa_cons (pv 0) (pa_cons (pe_bltn (v := .ty "bool") (u := .type "bool") (by rfl) T.z_bool (by decide +kernel) rfl) pa_nil))))))))), ?_⟩)
  · obtain ⟨x, rfl, _⟩ := h
    rfl
  · obtain ⟨x, rfl, hk, k⟩ := h
    obtain ⟨n, b1, b2, ty, e1, e2, e⟩ := hk.ty
    rw [e] at k
    repeat walk_at "z"
    refine ⟨_, _, _, _, b1, rfl, .ty _, ty, kit_ty e1, _, rfl, ?_⟩
    cases b1 with
    | false => exact k
    | true =>
      refine iteT ?_
      repeat walk_at "z"
      exact ⟨_, _, _, _, b2, rfl, .ty _, ty, kit_ty e2, _, rfl, k⟩

def sp_in_range (K : PySem.W.Frag) : Sp := fun vs H Q _ => ∃ x lo hi, vs = [x, .int lo, .int hi] ∧ Knd K H x ∧ Q (.bl (inRange lo hi x)) H
theorem ok_in_range (T : Txt K mg A) : FnOk P w K mg base CX0 2 A.f_in_range A.fd_in_range sP_in_range (sp_in_range K) := by
  refine okD T.F_in_range sc_in_range (fun vs H Q E h => ?_) (fun cdv Ar outer s H vs Q E hr h => ⟨_, (pss_one (ps_ret ((pe_and (pe_call (ok_is_integer T) (hr.mono (by decide)) rfl T.m_is_integer T.F_is_integer.kp T.b_is_integer .nil pass0 (pa_cons (pv 0) pa_nil)) (pe_one (pe_chain op_le op_le (pv 1) (pv 0) (pv 2))))))), ?_⟩)
  · obtain ⟨x, lo, hi, rfl, _⟩ := h
    rfl
  · obtain ⟨x, lo, hi, rfl, hk, k⟩ := h
    repeat walk_at "z"
    refine ⟨_, rfl, hk, _, rfl, ?_⟩
    cases hk with
    | int i =>
      refine iteT ?_
      refine ⟨_, rfl, _, rfl, _, _, rfl, rfl, _, rfl, ?_⟩
      by_cases h1 : lo ≤ i
      · rw [decide_eq_true h1] 
        refine iteT ⟨_, rfl, _, _, rfl, rfl, ?_⟩
        have e : inRange lo hi (.int i) = decide (i ≤ hi) := by simp [inRange, h1]
        rw [e] at k
        exact k
      · rw [decide_eq_false h1]
        have e : inRange lo hi (.int i) = false := by simp [inRange, h1]
        rw [e] at k
        exact iteF k
    | _ => exact iteF k
def sp_is_byte (K : PySem.W.Frag) : Sp := fun vs H Q _ => ∃ x, vs = [x] ∧ Knd K H x ∧ Q (.bl (inRange 0 255 x)) H
theorem ok_is_byte (T : Txt K mg A) : FnOk P w K mg base CX0 3 A.f_is_byte A.fd_is_byte sP_is_byte (sp_is_byte K) := by
  refine okD T.F_is_byte sc_is_byte (fun vs H Q E h => ?_) (fun cdv Ar outer s H vs Q E hr h => ⟨_, (pss_one (ps_ret (pe_call (ok_in_range T) (hr.mono (by decide)) rfl T.m_in_range T.F_in_range.kp T.b_in_range .nil pass0 (pa_cons (pv 0) (pa_cons (pe_int) (pa_cons (pe_int) pa_nil)))))), ?_⟩)
  · obtain ⟨x, rfl, _⟩ := h
    rfl
  · obtain ⟨x, rfl, hk, k⟩ := h
    repeat walk_at "z"
    exact ⟨_, _, _, rfl, hk, k⟩

/-! ### data -/
def Byt (ns : List Int) : Prop := ∀ n ∈ ns, 0 ≤ n ∧ n ≤ 255
def sp_checked_data (K : PySem.W.Frag) : Sp := fun vs H Q _ => ∃ G W a ns, Wd G W H ∧ vs = [.ref a] ∧ SqL K G a (ns.map V.int) ∧ Byt ns ∧ ns.length ≤ 70000 ∧
  ∀ p G' H', Same G G' → Wd G' ((p, Is (.lst (ns.map V.int))) :: W) H' → Q (.ref p) H'
theorem ok_checked_data (T : Txt K mg A) : FnOk P w K mg base CX0 4 A.f_checked_data A.fd_checked_data sP_checked_data (sp_checked_data K) := by
  refine okD T.F_checked_data sc_checked_data (fun vs H Q E h => ?_) (fun cdv Ar outer s H vs Q E hr h => ⟨_, (pss_cons (ps_if (PW.pt (pw_or (pt_not (pt_val (pe_callB call_isiT (by rfl) T.z_isinstance (by decide +kernel) (pa_cons (pv 0) (pa_cons (pe_tup (pa_cons (pe_bltn (v := .ty "list") (u := .type "list") (by rfl) T.z_list (by decide +kernel) rfl) (pa_cons (pe_bltn (v := .ty "tuple") (u := .type "tuple") (by rfl) T.z_tuple (by decide +kernel) rfl) pa_nil))) pa_nil))))) (pw_or1 (pt_cmpR op_gt (pe_callB call_len_seq (by rfl) T.z_len PySem.boot_len (pa_cons (pv 0) pa_nil)) (pe_glob (v := .int 70000) rfl T.m_MOST_DATA ⟨_, rfl⟩) (nomark _))))) (pss_one (ps_never)) pss_nil)
      (pss_cons (ps_for PassesOwn.never rfl (pi_enumA (by rfl) T.z_enumerate (pa_cons (pv 0) pa_nil)) (pg_tup rfl (pgs_cons (pg_name (i := 1) sc_checked_data.nd rfl (Or.inl rfl)) (pgs_cons (pg_name (i := 2) sc_checked_data.nd rfl (Or.inl rfl)) pgs_nil))) (pss_one (ps_if (pt_not (pt_val (pe_call (ok_is_byte T) (hr.mono (by decide)) rfl T.m_is_byte T.F_is_byte.kp T.b_is_byte .nil pass0 (pa_cons (pv 2) pa_nil)))) (pss_one (ps_never)) pss_nil)))
      (pss_one (ps_ret (pe_callTy call_list_of (by rfl) T.z_list (by decide +kernel) (pa_cons (pv 0) pa_nil)))))), ?_⟩)
  · obtain ⟨G, W, a, ns, _, rfl, _⟩ := h
    rfl
  · obtain ⟨G, W, a, ns, w, rfl, ha, hb, hl, k⟩ := h
    walk_at "zz"
    refine ⟨by decide, NewO.good w fun p G1 H1 e1 w1 hp => ?_⟩
    walk_at "zz"
    refine isiSeq (w1.at hp) (.inl (by walk_at "up")) ⟨_, rfl, ?_⟩
    refine iteF ?_
    walk_at "zz"
    refine ⟨_, _, rfl, .inl (by walk_at "up"), ?_⟩
    walk_at "zz"
    have hl' : ¬ (70000 < ((ns.map V.int).length : Int)) := by rw [List.length_map]; omega
    rw [decide_eq_false hl']
    refine iteF ?_
    walk_at "zz"
    refine for_enumA (i1 := 1) (i2 := 2) (.inl (e1.seq ha)) (fun i σ G' W' => W' = W ∧ ∃ x y, σ = [some (.ref a), x, y]) w1 ⟨rfl, _, _, rfl⟩ ?_ ?_
    · rintro i x σ' G2 G3 W' H3 hx e2 ⟨rfl, x1, x2, rfl⟩ e3 w3
      obtain ⟨n, _, rfl, hn⟩ := getI hx
      walk_at "zz"
      refine ⟨_, rfl, .int n, _, rfl, ?_⟩
      have e : inRange 0 255 (.int n) = true := by
        have := hb n hn
        simp [inRange, this]
      rw [e]
      refine iteF ?_
      walk_at "zz"
      exact st_btw (by walk_at "sm") w3 ⟨rfl, _, _, rfl⟩
    · rintro σ' G2 W' H3 e2 w2 ⟨rfl, x1, x2, rfl⟩
      walk_at "zz"
      exact ⟨_, _, rfl, .inl (by walk_at "up"), fun l hn => k l G2 _ (by walk_at "sm") (w2.newM hn rfl)⟩

/-! ### draws -/
def BagI : HO → Prop := fun o => ∃ x y z : Int, o = .lst [.int x, .int y, .int z] ∧ 0 ≤ x ∧ 0 ≤ y ∧ y ≤ 2147483600
def sp_take : Sp := fun vs H Q _ => ∃ G W b m, Wd G W H ∧ (b, BagI) ∈ W ∧ vs = [.ref b, .int m] ∧ 0 < m ∧ m < 1073741824 ∧ ∀ r H', 0 ≤ r → r < m → Wd G W H' → Q (.int r) H'
theorem ok__law_take (T : Txt K mg A) : FnOk P w K mg base CX0 1 A.f__law_take A.fd__law_take sP__law_take sp_take := by
  refine okD T.F__law_take sc__law_take (fun vs H Q E h => ?_) (fun cdv Ar outer s H vs Q E hr h => ⟨_, (pss_cons (ps_if (pt_cmpR op_gt (pe_ix ix_list (pv 0) (pe_int) (fun _ _ => rfl)) (pe_int) (nomark _)) (pss_cons (ps_set (i := 2) sc__law_take.nd rfl (Or.inl rfl) (pe_op op_mod (pe_ix ix_list (pv 0) (pe_int) (fun _ _ => rfl)) (pv 1)))
      (pss_cons (ps_asg (pe_op op_fdiv (pe_ix ix_list (pv 0) (pe_int) (fun _ _ => rfl)) (pv 1)) (pg_sub (pv 0) (pe_int) set_list))
      (pss_one (ps_ret (pv 2))))) pss_nil)
      (pss_cons (ps_asg (pe_op op_add (pe_ix ix_list (pv 0) (pe_int) (fun _ _ => rfl)) (pe_int)) (pg_sub (pv 0) (pe_int) set_list))
      (pss_cons (ps_asg (pe_op op_add (pe_op op_mod (pe_op op_add (pe_op op_mul (pe_ix ix_list (pv 0) (pe_int) (fun _ _ => rfl)) (pe_int)) (pe_op op_mul (pe_int) (pe_ix ix_list (pv 0) (pe_int) (fun _ _ => rfl)))) (pe_int)) (pe_int)) (pg_sub (pv 0) (pe_int) set_list))
      (pss_one (ps_ret (pe_op op_mod (pe_op op_fdiv (pe_op op_mod (pe_op op_mul (pe_ix ix_list (pv 0) (pe_int) (fun _ _ => rfl)) (pe_op op_add (pe_op op_fdiv (pe_ix ix_list (pv 0) (pe_int) (fun _ _ => rfl)) (pe_int)) (pe_int))) (pe_int)) (pe_int)) (pv 1))))))), ?_⟩)
  · obtain ⟨G, W, b, m, _, _, rfl, _⟩ := h
    rfl
  · obtain ⟨G, W, b, m, w, hm, rfl, h0, h1, k⟩ := h
    obtain ⟨o, hb, x, y, z, rfl, hx, hy, hy2⟩ := w.get hm
    walk_at "zz"
    refine st_ixL (SqL.of hb) rfl ?_
    walk_at "zz"
    by_cases hx0 : 0 < x
    · rw [decide_eq_true hx0]
      refine iteT ?_
      walk_at "zz"
      refine st_ixL (SqL.of hb) rfl ?_
      walk_at "zz"
      refine st_ixL (SqL.of hb) rfl ?_
      walk_at "zz"
      refine st_setL hb rfl ?_
      walk_at "zz"
      refine k _ _ (Int.emod_nonneg _ (by omega)) (Int.emod_lt_of_pos _ h0) (w.put' hm ⟨_, _, _, rfl, Int.ediv_nonneg hx (by omega), hy, hy2⟩)
    · rw [decide_eq_false hx0]
      refine iteF ?_
      walk_at "zz"
      refine st_ixL (SqL.of hb) rfl ?_
      walk_at "zz"
      refine st_setL hb rfl ?_
      walk_at "zz"
      refine st_ixL (SqL.of upd_same) rfl ?_
      walk_at "zz"
      refine st_ixL (SqL.of upd_same) rfl ?_
      walk_at "zz"
      refine st_setL upd_same rfl ?_
      walk_at "zz"
      refine st_ixL (SqL.of upd_same) rfl ?_
      walk_at "zz"
      refine st_ixL (SqL.of upd_same) rfl ?_
      walk_at "zz"
      refine k _ _ (Int.emod_nonneg _ (by omega)) (Int.emod_lt_of_pos _ h0) ((w.put' hm ⟨_, _, _, rfl, hx, hy, hy2⟩).put' hm ⟨_, _, _, rfl, hx, ?_, ?_⟩) <;> omega
def sp_bag (K : PySem.W.Frag) : Sp := fun vs H Q _ => ∃ (G : Hp) (W : Wl) (a : Addr) (ns : List Int) (i : Int), Wd G W H ∧ vs = [.ref a, .int i] ∧ SqL K G a (ns.map V.int) ∧ 0 ≤ i ∧ i < 1000000 ∧ ∀ p H', Wd G ((p, BagI) :: W) H' → Q (.ref p) H'
theorem ok__law_bag (T : Txt K mg A) : FnOk P w K mg base CX0 1 A.f__law_bag A.fd__law_bag sP__law_bag (sp_bag K) := by
  refine okD T.F__law_bag sc__law_bag (fun vs H Q E h => ?_) (fun cdv Ar outer s H vs Q E hr h => ⟨_, (pss_cons (ps_set (i := 2) sc__law_bag.nd rfl (Or.inl rfl) (pe_int))
      (pss_cons (ps_if (pt_cmpR op_lt (pv 1) (pe_callB call_len_seq (by rfl) T.z_len PySem.boot_len (pa_cons (pv 0) pa_nil)) (nomark _)) (pss_one (ps_set (i := 2) sc__law_bag.nd rfl (Or.inl rfl) (pe_ix ix_list (pv 0) (pv 1) (fun _ _ => rfl)))) pss_nil)
      (pss_cons (ps_set (i := 3) sc__law_bag.nd rfl (Or.inl rfl) (pe_op op_mul (pe_callB call_abs (by rfl) T.z_abs (by decide +kernel) (pa_cons (pv 2) pa_nil)) (pe_callTy call_int1 (by rfl) T.z_int (by decide +kernel) (pa_cons (pe_cmpR op_ge (pe_callB call_abs (by rfl) T.z_abs (by decide +kernel) (pa_cons (pv 2) pa_nil)) (pe_op op_powW (pe_int) (pe_int)) (nomark _)) pa_nil))))
      (pss_one (ps_ret (pe_lst (pa_cons (pv 3) (pa_cons (pe_op op_add (pe_op op_mod (pe_op op_add (pe_op op_add (pe_op op_mul (pe_op op_mod (pv 2) (pe_int)) (pe_int)) (pe_op op_mul (pe_int) (pv 1))) (pe_int)) (pe_int)) (pe_int)) (pa_cons (pe_int) pa_nil))))))))), ?_⟩)
  · obtain ⟨G, W, a, ns, i, _, rfl, _⟩ := h
    rfl
  · obtain ⟨G, W, a, ns, i, w, rfl, ha, h0, h1, k⟩ := h
    walk_at "zz"
    refine ⟨_, _, rfl, .inl (by walk_at "up"), ?_⟩
    walk_at "zz"
    by_cases hi : i < ((ns.map V.int).length : Int)
    case' pos =>
      rw [decide_eq_true hi]
      refine iteT ?_
      walk_at "zz"
      obtain ⟨n, hn⟩ : ∃ n, ns[i.toNat]? = some n := ⟨_, List.getElem?_eq_getElem (by rw [List.length_map] at hi; omega)⟩
      refine st_ixL (v := .int n) (by walk_at "up") (by rw [show i = (i.toNat : Int) by omega]; exact atI_nat (by rw [List.getElem?_map, hn]; rfl)) ?_
    case' neg =>
      rw [decide_eq_false hi]
      refine iteF ?_
    all_goals
      walk_at "zz"
      refine ⟨_, rfl, ?_⟩
      walk_at "zz"
      refine ⟨_, rfl, ?_⟩
      walk_at "zz"
      refine .inr ⟨_, rfl, ?_⟩
      refine st_i (.inr (by split <;> omega)) ?_
      walk_at "zz"
      refine ⟨small (by simp), fun p hp => k p _ (w.newM hp ⟨_, _, _, rfl, ?_, ?_, ?_⟩)⟩
      · refine Int.mul_nonneg ?_ ?_
        · split <;> omega
        · split <;> omega
      all_goals omega

/-! ### rows of bits -/
def BitsAt (K : PySem.W.Frag) (C : Addr) (G : Hp) (x : Addr) (bs : List Int) : Prop := ∃ dx t, G x = some (.ins C dx [("row", .ref t)]) ∧ SqT K G t (bs.map V.int)
theorem BitsAt.up {C : Addr} {G G' : Hp} {x : Addr} {bs : List Int} (h : BitsAt K C G x bs) (e : Same G G') : BitsAt K C G' x bs := let ⟨dx, t, h1, h2⟩ := h; ⟨dx, t, e _ _ h1, seqT e h2⟩
theorem BitsAt.at {C : Addr} {G H : Hp} {W : Wl} {x : Addr} {bs : List Int} (h : BitsAt K C G x bs) (w : Wd G W H) : BitsAt K C H x bs := let ⟨dx, t, h1, h2⟩ := h; ⟨dx, t, w.at h1, tup_up w h2⟩
def Bit01 (bs : List Int) : Prop := ∀ n ∈ bs, 0 ≤ n ∧ n ≤ 1
def SqA (K : PySem.W.Frag) (H : Hp) (a : Addr) (xs : List V) : Prop := SqL K H a xs ∨ SqT K H a xs
theorem SqA.up {G H : Hp} {a : Addr} {xs : List V} (e : Same G H) (h : SqA K G a xs) : SqA K H a xs := h.imp (fun h => e.seq h) fun h => seqT e h
def sp_binit (K : PySem.W.Frag) (C : Addr) : Sp := fun vs H Q _ => ∃ (G : Hp) (W : Wl) (x dx a : Addr) (bs : List Int), Wd G ((x, Is (.ins C dx [])) :: W) H ∧ vs = [.ref x, .ref a] ∧ SqA K G a (bs.map V.int) ∧ Bit01 bs ∧ bs.length ≤ 100000 ∧
  ∀ t G' H', Same G G' → Wd G' ((x, Is (.ins C dx [("row", .ref t)])) :: W) H' → SqT K G' t (bs.map V.int) → Q .non H'
theorem ok_Bits___init__ (T : Txt K mg A) : FnOk P w K mg base CX0 3 A.f_Bits___init__ A.fd_Bits___init__ sP_Bits___init__ (sp_binit K A.C_Bits) := by
  refine okD T.F_Bits___init__ sc_Bits___init__ (fun vs H Q E h => ?_) (fun cdv Ar outer s H vs Q E hr h => ⟨_, (pss_cons (ps_if (pt_not (pt_val (pe_callB call_isiT (by rfl) T.z_isinstance (by decide +kernel) (pa_cons (pv 1) (pa_cons (pe_tup (pa_cons (pe_bltn (v := .ty "list") (u := .type "list") (by rfl) T.z_list (by decide +kernel) rfl) (pa_cons (pe_bltn (v := .ty "tuple") (u := .type "tuple") (by rfl) T.z_tuple (by decide +kernel) rfl) pa_nil))) pa_nil))))) (pss_one (ps_never)) pss_nil)
      (pss_cons (ps_for PassesOwn.never rfl (pi_enumA (by rfl) T.z_enumerate (pa_cons (pv 1) pa_nil)) (pg_tup rfl (pgs_cons (pg_name (i := 2) sc_Bits___init__.nd rfl (Or.inl rfl)) (pgs_cons (pg_name (i := 3) sc_Bits___init__.nd rfl (Or.inl rfl)) pgs_nil))) (pss_one (ps_if (pt_not (pt_val (pe_call (ok_in_range T) (hr.mono (by decide)) rfl T.m_in_range T.F_in_range.kp T.b_in_range .nil pass0 (pa_cons (pv 3) (pa_cons (pe_int) (pa_cons (pe_int) pa_nil)))))) (pss_one (ps_never)) pss_nil)))
      (pss_one (ps_fld (pv 0) (pe_callTy call_tuple_of (by rfl) T.z_tuple (by decide +kernel) (pa_cons (pv 1) pa_nil)) rfl)))), ?_⟩)
  · obtain ⟨G, W, x, dx, a, bs, _, rfl, _⟩ := h
    rfl
  · obtain ⟨G, W, x, dx, a, bs, w, rfl, ha, hb, hl, k⟩ := h
    walk_at "zb"
    refine ⟨by decide, NewO.good w fun p G1 H1 e1 w1 hp => ?_⟩
    walk_at "zb"
    refine isiSeq (w1.at hp) ((ha.up e1).up w1.ex) ⟨_, rfl, ?_⟩
    walk_at "zb"
    refine for_enumA (i1 := 2) (i2 := 3) (ha.up e1) (fun i σ G' W' => W' = (x, Is (.ins A.C_Bits dx [])) :: W ∧ ∃ y z, σ = [some (.ref x), some (.ref a), y, z]) w1 ⟨rfl, _, _, rfl⟩ ?_ ?_
    · rintro i y σ' G2 G3 W' H3 hx e2 ⟨rfl, x1, x2, rfl⟩ e3 w3
      obtain ⟨n, _, rfl, hn⟩ := getI hx
      walk_at "zb"
      refine ⟨_, _, _, rfl, .int n, ?_⟩
      have e : inRange 0 1 (.int n) = true := by
        have := hb n hn
        simp [inRange, this]
      rw [e]
      walk_at "zb"
      exact st_btw (by walk_at "sm") w3 ⟨rfl, _, _, rfl⟩
    · rintro σ' G2 W' H2 e2 w2 ⟨rfl, x1, x2, rfl⟩
      walk_at "zb"
      rcases ha.up (e1.trans e2) with ha | ha
      · refine ⟨a, _, rfl, .inl ⟨seq_up w2 ha, fun t ht => ?_⟩⟩
        have e3 : Same G2 (upd G2 t (.tup (bs.map V.int))) := same_upd (w2.free ht)
        have w3 : Wd _ _ (upd H2 t (.tup (bs.map V.int))) := w2.new ht
        have h3 : SqT K (upd G2 t (.tup (bs.map V.int))) t (bs.map V.int) := SqT.of upd_same
        generalize upd G2 t (.tup (bs.map V.int)) = G3 at e3 w3 h3
        generalize upd H2 t (.tup (bs.map V.int)) = H3 at w3
        walk_at "zb"
        refine ⟨x, A.C_Bits, dx, [], rfl, Wd.is1 w3, T.cl_Bits, T.nf_Bits_row, by decide, ?_⟩
        exact k t G3 _ (by walk_at "sm") w3.put1 h3
      · refine ⟨a, _, rfl, .inr ⟨tup_up w2 ha, ?_⟩⟩
        walk_at "zb"
        refine ⟨x, A.C_Bits, dx, [], rfl, Wd.is1 w2, T.cl_Bits, T.nf_Bits_row, by decide, ?_⟩
        exact k a G2 _ (by walk_at "sm") w2.put1 ha
def sp_blen (K : PySem.W.Frag) (C : Addr) : Sp := fun vs H Q _ => ∃ x bs, vs = [.ref x] ∧ BitsAt K C H x bs ∧ Q (.int bs.length) H
theorem ok_Bits___len__ (T : Txt K mg A) : FnOk P w K mg base CX0 1 A.f_Bits___len__ A.fd_Bits___len__ sP_Bits___len__ (sp_blen K A.C_Bits) := by
  refine okD T.F_Bits___len__ sc_Bits___len__ (fun vs H Q E h => ?_) (fun cdv Ar outer s H vs Q E hr h => ⟨_, (pss_one (ps_ret (pe_callB call_len_seq (by rfl) T.z_len PySem.boot_len (pa_cons (pe_fld (pv 0) rfl) pa_nil)))), ?_⟩)
  · obtain ⟨x, bs, rfl, _⟩ := h
    rfl
  · obtain ⟨x, bs, rfl, ⟨dx, t, hx, ht⟩, k⟩ := h
    walk_at "zb"
    refine ⟨x, A.C_Bits, dx, _, _, rfl, hx, T.cl_Bits, T.nf_Bits_row, rfl, ?_⟩
    walk_at "zb"
    refine ⟨t, _, rfl, .inr ht, ?_⟩
    rw [List.length_map]
    exact k

theorem ok_NoBit___init__ (T : Txt K mg A) : FnOk P w K mg base CX0 1 A.f_NoBit___init__ A.fd_NoBit___init__ sP_NoBit___init__ (sp_init K A.x_NoBit "index") := by
  refine okD T.F_NoBit___init__ sc_NoBit___init__ (fun vs H Q E h => ?_) (fun cdv Ar outer s H vs Q E hr h => ⟨_, (pss_cons (ps_expr (pe_beinit (B := "IndexError") (newId := "IndexError.__new__") (initId := "IndexError.__init__") (bmB := tl_IndexError) bx_IndexError.typ bx_IndexError.stub bx_IndexError.hbt bx_IndexError.hh rfl T.z_IndexError T.vV_IndexError (pa_cons (pv 0) (pa_cons (pe_str) pa_nil))))
      (pss_one (ps_bst (B := "IndexError") (newId := "IndexError.__new__") (initId := "IndexError.__init__") (bmB := tl_IndexError) (pv 0) (pv 1)))), ?_⟩)
  · obtain ⟨a, v, rfl, _⟩ := h
    rfl
  · obtain ⟨a, v, rfl, ha, k⟩ := h
    walk_at "zy"
    refine ⟨a, A.x_NoBit, _, rfl, by simp, T.x_NoBit.oex, ha, ?_⟩
    walk_at "zy"
    exact ⟨a, A.x_NoBit, rfl, T.x_NoBit.oex, T.x_NoBit.no, ha, fun d h1 h2 => k d h1 h2⟩
/-! ### fields -/
/-- the first i bits as a number -/
def fldN (cs : List Int) (i : Nat) : Int := (((List.range i).map fun j => cs.getD j 0 * 2 ^ j)).sum
def fld (cs : List Int) : Int := fldN cs cs.length
theorem fldN_succ (cs : List Int) (i : Nat) : fldN cs (i + 1) = fldN cs i + cs.getD i 0 * 2 ^ i := by
  unfold fldN
  rw [List.range_succ, List.map_append, List.sum_append]
  simp
def OutI (C : Addr) (G : Hp) (W : Wl) (i : Int) (E : XK) : Prop := ∀ d G' H', Same G G' → Wd G' W H' → G' d = some (.xd [("index", .int i)]) → E (.ref C) (some d) H'
def part (bs : List Int) (s c : Int) : List Int := (bs.drop s.toNat).take c.toNat
theorem cut_part {bs : List Int} {s c : Int} (h0 : 0 ≤ s) (h1 : 0 ≤ c) : cutV (bs.map V.int) (some s) (some (s + c)) = (part bs s c).map V.int := by
  unfold cutV part
  simp only [HT.sIx, if_neg (show ¬ s < 0 by omega), if_neg (show ¬ s + c < 0 by omega), List.length_map]
  rw [List.map_take, List.map_drop]
  rcases Nat.le_total s.toNat bs.length with h | h
  · rw [Nat.min_eq_left h]
    rcases Nat.le_total (s + c).toNat bs.length with h2 | h2
    · rw [Nat.min_eq_left h2]
      congr 1
      omega
    · rw [Nat.min_eq_right h2, List.take_of_length_le (by rw [List.length_drop, List.length_map]; omega), List.take_of_length_le (by rw [List.length_drop, List.length_map]; omega)]
  · rw [Nat.min_eq_right h, List.drop_of_length_le (by rw [List.length_map]; omega), List.drop_of_length_le (by rw [List.length_map]; omega)]
    simp
theorem part_mem {bs : List Int} {s c : Int} {n : Int} (h : n ∈ part bs s c) : n ∈ bs := List.mem_of_mem_drop (List.mem_of_mem_take h)
theorem part_len (bs : List Int) (s c : Int) : (part bs s c).length ≤ bs.length := by
  unfold part
  rw [List.length_take, List.length_drop]
  omega
theorem st_slTI {G H : Hp} {W : Wl} {Q : VK} {t : Addr} {bs : List Int} {s c : Int} (ht : SqT K H t (bs.map V.int)) (h0 : 0 ≤ s) (h1 : 0 ≤ c) (w : Wd G W H)
    (k : ∀ q G' H', Same G G' → Wd G' W H' → SqT K G' q ((part bs s c).map V.int) → Q (.ref q) H') (hG : SqT K G t (bs.map V.int)) : rSlA K (.ref t) (some s) (some (s + c)) H Q := by
  refine ⟨t, _, rfl, ht, fun h => ?_, fun _ p hp => ?_⟩
  · refine k t G H (Same.refl _) w ?_
    rw [← cut_part h0 h1]
    unfold cutV
    rw [h.1, h.2, List.drop_zero, Nat.sub_zero, List.take_length]
    exact hG
  · rw [cut_part h0 h1]
    exact k p _ _ (same_upd (w.free hp)) (w.new hp) (SqT.of upd_same)
def sp_field (K : PySem.W.Frag) (C D : Addr) : Sp := fun vs H Q E => ∃ (G : Hp) (W : Wl) (x : Addr) (bs : List Int) (s c : Int), Wd G W H ∧ vs = [.ref x, .int s, .int c] ∧ BitsAt K C G x bs ∧ Bit01 bs ∧ bs.length ≤ 10000 ∧ 0 ≤ s ∧ 0 ≤ c ∧
  ((¬ (0 < c ∧ bs.length < s + c) ∧ ∀ G' H', Same G G' → Wd G' W H' → Q (.int (fld (part bs s c))) H') ∨ (0 < c ∧ bs.length < s + c ∧ OutI D G W (max s bs.length) E))
theorem ok_Bits_field (T : Txt K mg A) : FnOk P w K mg base (L2.CX P w) 3 A.f_Bits_field A.fd_Bits_field sP_Bits_field (sp_field K A.C_Bits A.x_NoBit) := by
  refine okX T.F_Bits_field sc_Bits_field (fun vs H Q E h => ?_) (fun cdv Ar outer s H vs Q E hr h => ⟨_, (C8.pss_cut (ps_if (PW.pt (pw_and (pt_cmpR op_gt (pv 2) (pe_int) (nomark _)) (pw_and1 (pt_cmpR op_gt (pe_op op_add (pv 1) (pv 2)) (pe_callB call_len_seq (by rfl) T.z_len PySem.boot_len (pa_cons (pe_fld (pv 0) rfl) pa_nil)) (nomark _))))) (pss_one (ps_raise rfl (takes_of rfl rfl rfl rfl) (pmk_bex T.x_NoBit.oex T.x_NoBit.iC T.x_NoBit.tI (ok_NoBit___init__ T) (hr.mono (by decide)) T.b_NoBit___init__ .nil pass0 rfl T.x_NoBit.gC (pa_cons (pe_callB (call_max2 rfl) (by rfl) T.z_max (by decide +kernel) (pa_cons (pv 1) (pa_cons (pe_callB call_len_seq (by rfl) T.z_len PySem.boot_len (pa_cons (pe_fld (pv 0) rfl) pa_nil)) pa_nil))) pa_nil)))) pss_nil)
      (pss_one (ps_ret (pe_callB (cr_sum rfl) (by rfl) T.z_sum (by decide +kernel) (pa_cons (pe_lc (own := [("place", 3), ("bit", 4)]) (g := gTup K 2 (gCons (gName 3) (gCons (gName 4) (gNil)))) (tt := tYes) rfl sc_Bits_field.nd (pi_enumA (by rfl) T.z_enumerate (pa_cons (pe_slice sl_tupA (pe_fld (pv 0) rfl) (po_some (pv 1)) (po_some (pe_op op_add (pv 1) (pv 2)))) pa_nil)) (blkOk_by (own := [("place", 3), ("bit", 4)]) (N := sN_Bits_field) (sc := defScope s_Bits_field) (by decide +kernel)) (fun _ _ _ _ _ => pg_tup rfl (pgs_cons (pg_name (i := 3) sc_Bits_field.nd rfl (Or.inl rfl)) (pgs_cons (pg_name (i := 4) sc_Bits_field.nd rfl (Or.inl rfl)) pgs_nil))) (fun _ _ _ _ _ => pts_nil) (fun _ _ _ _ _ => (pe_op op_shl (pv 4) (pv 3)))) pa_nil))))), ?_⟩)
  · obtain ⟨G, W, x, bs, s, c, _, rfl, _⟩ := h
    rfl
  · obtain ⟨G, W, x, bs, s, c, w, rfl, hb, h01, hl, hs0, hc0, h⟩ := h
    obtain ⟨dx, t, hx, ht⟩ := hb
    have fldH : ∀ {G' H' : Hp} {W' : Wl}, Same G G' → Wd G' W' H' → H' x = some (.ins A.C_Bits dx [("row", .ref t)]) := fun e w => w.at (e _ _ hx)
    refine st_cut (fun σ H' => σ = [some (.ref x), some (.int s), some (.int c), none, none] ∧ Wd G W H' ∧ ¬ (0 < c ∧ (bs.length : Int) < s + c)) ?_ ?_
    · walk_at "zb"
      by_cases h1 : 0 < c
      · rw [decide_eq_true h1]
        walk_at "zb"
        refine ⟨x, A.C_Bits, dx, _, _, rfl, fldH (Same.refl _) w, T.cl_Bits, T.nf_Bits_row, rfl, ?_⟩
        walk_at "zb"
        refine ⟨t, _, rfl, .inr (tup_up w ht), ?_⟩
        walk_at "zb"
        rw [List.length_map]
        by_cases h2 : (bs.length : Int) < s + c
        · rw [decide_eq_true h2]
          rcases h with ⟨h, _⟩ | ⟨_, _, k⟩
          · exact absurd ⟨h1, h2⟩ h
          walk_at "zb"
          refine ⟨x, A.C_Bits, dx, _, _, rfl, fldH (Same.refl _) w, T.cl_Bits, T.nf_Bits_row, rfl, ?_⟩
          walk_at "zb"
          refine ⟨t, _, rfl, .inr (tup_up w ht), ?_⟩
          walk_at "zb"
          rw [List.length_map]
          refine ⟨_, _, rfl, ?_⟩
          rw [show (if (bs.length : Int) > s then (bs.length : Int) else s) = max s bs.length by split <;> omega]
          exact ⟨by simp, fun b hb => mk_done w (fun d' G' H' e w hd' => k d' G' H' e w hd') b hb⟩
        · rw [decide_eq_false h2]
          walk_at "zb"
          exact ⟨rfl, w, fun h => h2 h.2⟩
      · rw [decide_eq_false h1]
        walk_at "zb"
        exact ⟨rfl, w, fun h => h1 h.1⟩
    · clear w
      rintro σ1 H1 ⟨rfl, w, hn⟩
      rcases h with ⟨_, k⟩ | ⟨h1, h2, _⟩
      · walk_at "zb"
        refine ⟨x, A.C_Bits, dx, _, _, rfl, fldH (Same.refl _) w, T.cl_Bits, T.nf_Bits_row, rfl, ?_⟩
        walk_at "zb"
        refine ⟨_, rfl, ?_⟩
        walk_at "zb"
        refine ⟨_, rfl, ?_⟩
        refine st_slTI (tup_up w ht) hs0 hc0 w (fun q G2 H2 e2 w2 h2 => ?_) ht
        walk_at "zb"
        refine lc_enumA (.inr h2) (fun i acc _ => acc = ((List.range i).map fun j => (part bs s c).getD j 0 * 2 ^ j).map V.int) w2 rfl (fun _ _ => rfl) ?_ ?_
        · rintro i y D G3 G4 H4 acc hy e3 rfl e4 w4
          obtain ⟨n, hn0, rfl, hn⟩ := getI hy
          have hn1 := h01 n (part_mem hn)
          have hi : i < (part bs s c).length := (List.getElem?_eq_some_iff.mp hn0).1
          have hpl := part_len bs s c
          walk_at "zb"
          refine ⟨_, _, rfl, rfl, ⟨by omega, by omega, by omega⟩, ?_⟩
          refine lc_put w4 (by walk_at "sm") (by simp; omega) ?_
          rw [List.range_succ, List.map_append, List.map_append]
          congr 1
          show [V.int (n * 2 ^ i)] = [V.int ((part bs s c).getD i 0 * 2 ^ i)]
          rw [List.getD_eq_getElem?_getD, hn0]
          rfl
        · rintro D G3 H3 acc e3 w3 rfl
          walk_at "zb"
          refine ⟨D, _, rfl, SqL.of (Wd.is1 w3), ?_⟩
          rw [List.length_map]
          exact k G3 H3 (by walk_at "sm") (Wd.drop1 w3)
      · exact absurd ⟨h1, h2⟩ hn
/-! ### the bits of data -/
def bits8 (n : Int) : List Int := (List.range 8).map fun j => n / 2 ^ j % 2
def bitsOf (ns : List Int) : List Int := ns.flatMap bits8
theorem bits_len (ns : List Int) : (bitsOf ns).length = 8 * ns.length := by
  induction ns with
  | nil => rfl
  | cons n ns ih =>
    show (bits8 n ++ bitsOf ns).length = _
    rw [List.length_append, ih, List.length_cons]
    show 8 + 8 * ns.length = 8 * (ns.length + 1)
    omega
theorem bits_01 (ns : List Int) : Bit01 (bitsOf ns) := fun b hb => by
  obtain ⟨n, _, h⟩ := List.mem_flatMap.mp hb
  obtain ⟨j, _, rfl⟩ := List.mem_map.mp h
  have := Int.emod_nonneg (n / 2 ^ j) (show (2 : Int) ≠ 0 by decide)
  have := Int.emod_lt_of_pos (n / 2 ^ j) (show (0 : Int) < 2 by decide)
  omega
theorem mk_bits {C : Addr} {G H : Hp} {W : Wl} {Qx : Addr → Hp → Prop} {D : Addr} {bs : List Int} (w : Wd G W H) (ha : SqA K G D (bs.map V.int)) (hb : Bit01 bs) (hl : bs.length ≤ 100000) (k : ∀ x G' H', Same G G' → Wd G' W H' → BitsAt K C G' x bs → Qx x H') :
    ∀ x dx, H x = none → H dx = none → dx ≠ x → sp_binit K C [.ref x, .ref D] (upd (upd H dx (.own x)) x (.ins C dx [])) (fun v H2 => v = .non ∧ Qx x H2) E0 :=
  new_ins (P := fun x dx H1 => sp_binit K C [.ref x, .ref D] H1 (fun v H2 => v = .non ∧ Qx x H2) E0) w fun x dx G1 H1 e1 hdx w1 => ⟨G1, W, x, dx, D, bs, w1, rfl, ha.up e1, hb, hl, fun t G2 H2 e2 w2 ht => ⟨rfl, by
    obtain ⟨o, rfl, _, e3, w3⟩ := w2.freeze1
    exact k x _ H2 ((e1.trans e2).trans e3) w3 ⟨dx, t, upd_same, seqT e3 ht⟩⟩⟩
def sp_ofdata (K : PySem.W.Frag) (C : Addr) : Sp := fun vs H Q _ => ∃ (G : Hp) (W : Wl) (a : Addr) (ns : List Int), Wd G W H ∧ vs = [.ref C, .ref a] ∧ SqL K G a (ns.map V.int) ∧ Byt ns ∧ ns.length ≤ 1000 ∧ ∀ x G' H', Same G G' → Wd G' W H' → BitsAt K C G' x (bitsOf ns) → Q (.ref x) H'
theorem take_flat {ns : List Int} {i : Nat} {n : Int} (h : ns[i]? = some n) : (ns.take (i + 1)).flatMap bits8 = (ns.take i).flatMap bits8 ++ bits8 n := by
  rw [List.take_add_one, h, List.flatMap_append]
  simp
theorem ok_Bits_of_data (T : Txt K mg A) : FnOk P w K mg base CX0 5 A.f_Bits_of_data A.fd_Bits_of_data sP_Bits_of_data (sp_ofdata K A.C_Bits) := by
  refine okD T.F_Bits_of_data sc_Bits_of_data (fun vs H Q E h => ?_) (fun cdv Ar outer s H vs Q E hr h => ⟨_, (pss_one (ps_ret (pe_makeV (pv 0) T.M_Bits (ok_Bits___init__ T) (hr.mono (by decide)) T.b_Bits___init__ .nil pass0 (pa_cons (pe_lc2 (own := [("byte", 2), ("place", 3)]) (g := gName 2) (g1 := gName 3) (vs1 := [3]) (tt := tYes) (tt1 := tYes) rfl sc_Bits_of_data.nd (pi_list (pe_call (ok_checked_data T) (hr.mono (by decide)) rfl T.m_checked_data T.F_checked_data.kp T.b_checked_data .nil pass0 (pa_cons (pv 1) pa_nil))) (blkOk_by (own := [("byte", 2), ("place", 3)]) (N := sN_Bits_of_data) (sc := defScope s_Bits_of_data) (by decide +kernel)) (by decide) (fun _ _ _ _ _ => pg_name (i := 2) sc_Bits_of_data.nd rfl (Or.inl rfl)) (fun _ _ _ _ _ => pts_nil) (fun _ _ _ _ _ => (pi_range1 (by rfl) T.z_range (pa_cons ((show PE _ _ (ClX.tCVal K (tVar 0) "BYTE") from ClX.pe_cval (pv 0))) pa_nil))) (fun _ _ _ _ _ => pg_name (i := 3) sc_Bits_of_data.nd rfl (Or.inl rfl)) (fun _ _ _ _ _ => pts_nil) (fun _ _ _ _ _ => (pe_op op_and (pe_op op_shr (pv 2) (pv 3)) (pe_int)))) pa_nil)))), ?_⟩)
  · obtain ⟨G, W, a, ns, _, rfl, _⟩ := h
    rfl
  · obtain ⟨G, W, a, ns, w, rfl, ha, hB, hl, k⟩ := h
    walk_at "zb"
    refine ⟨rfl, ?_⟩
    walk_at "zb"
    refine ⟨G, W, a, ns, w, rfl, ha, hB, by omega, fun p G1 H1 e1 w1 => ?_⟩
    obtain ⟨o, rfl, _, e2, w2⟩ := w1.freeze1
    have hp : HL (upd G1 p (.lst (ns.map V.int))) p ns := upd_same
    generalize upd G1 p (.lst (ns.map V.int)) = G2 at e2 w2 hp
    refine lc2_l hp.seq (fun i acc _ => acc = ((ns.take i).flatMap bits8).map V.int) w2 rfl (fun _ => rfl) ?_ ?_
    · rintro i x D G3 H3 acc hx e3 w3 rfl
      obtain ⟨n, hn, rfl, hmem⟩ := getI hx
      have hlen : ((ns.take i).flatMap bits8).length ≤ 8000 := by
        have h1 := bits_len (ns.take i)
        unfold bitsOf at h1
        rw [h1, List.length_take]
        omega
      walk_at "zb"
      refine ⟨A.C_Bits, _, .int 8, _, rfl, T.cr_Bits, T.cv_Bits_BYTE, ?_⟩
      walk_at "zb"
      refine lc_in1 (by decide) (fun j acc _ => acc = (((ns.take i).flatMap bits8) ++ (List.range j).map fun j => n / 2 ^ j % 2).map V.int) w3 (by simp) (fun _ => rfl) ?_ ?_
      · rintro j G4 H4 acc hj e4 w4 rfl
        walk_at "zb"
        refine lc_put w4 e4 (by simp; simp at hlen; omega) ?_
        rw [bitAnd_m1, List.range_succ, List.map_append, List.map_append, List.map_append, List.map_append, List.append_assoc]
        rfl
      · rintro G4 H4 acc e4 w4 rfl
        refine lc_skip w4 (by walk_at "sm") ?_
        rw [take_flat hn]
        rfl
    · rintro D G3 H3 acc e3 w3 rfl
      obtain ⟨o, rfl, _, e4, w4⟩ := w3.freeze1
      rw [List.length_map, List.take_length] at w4 e4
      have hD : HL (upd G3 D (.lst ((ns.flatMap bits8).map V.int))) D (ns.flatMap bits8) := upd_same
      generalize upd G3 D (.lst ((ns.flatMap bits8).map V.int)) = G4 at e4 w4 hD
      walk_at "zb"
      refine mk_bits w4 (.inl hD.seq) (bits_01 ns) ?_ fun x G5 H5 e5 w5 h5 => ?_
      · have := bits_len ns
        unfold bitsOf at this
        omega
      · exact k x G5 H5 (by walk_at "sm") w5 h5
/-! ### told and due -/
def ans (bs : List Int) (s c : Int) : Str × Int := if 0 < c ∧ (bs.length : Int) < s + c then ("none", max s bs.length) else ("field", fld (part bs s c))
def sp_told (K : PySem.W.Frag) (C : Addr) : Sp := fun vs H Q _ => ∃ (G : Hp) (W : Wl) (x : Addr) (bs : List Int) (s c : Int), Wd G W H ∧ vs = [.ref x, .int s, .int c] ∧ BitsAt K C G x bs ∧ Bit01 bs ∧ bs.length ≤ 10000 ∧ 0 ≤ s ∧ 0 ≤ c ∧
  ∀ p G' H', Same G G' → Wd G' W H' → G' p = some (.tup [.str (ans bs s c).1, .int (ans bs s c).2]) → Q (.ref p) H'
theorem ok__law_told (T : Txt K mg A) : FnOk P w K mg base CX0 4 A.f__law_told A.fd__law_told sP__law_told (sp_told K A.C_Bits) := by
  refine okD T.F__law_told sc__law_told (fun vs H Q E h => ?_) (fun cdv Ar outer s H vs Q E hr h => ⟨_, (pss_one (ps_try_as (i := 3) (Wout := fun _ _ _ _ => False) rfl rfl sc__law_told.nd rfl rfl ⟨rfl, by decide, Or.inl T.x_NoBit.gC⟩ takes0 (fun W pn xe tk po => (pss_one (ps_ret (pe_tup (pa_cons (pe_str) (pa_cons (pe_methSD (pv 0) T.cl_Bits T.mt_Bits_field (ok_Bits_field T) (hr.mono (by decide)) T.b_Bits_field .nil (fun σ => passAt tk σ) (pa_cons (pv 1) (pa_cons (pv 2) pa_nil))) pa_nil)))))) (fun a oe cls d pn hz hf => (pss_one (ps_ret (pe_tup (pa_cons (pe_str) (pa_cons (pe_xf T.x_NoBit.xf T.x_NoBit.no hz hf (pv 3)) pa_nil)))))))), ?_⟩)
  · obtain ⟨G, W, x, bs, s, c, _, rfl, _⟩ := h
    rfl
  · obtain ⟨G, W, x, bs, s, c, w, rfl, hb, h01, hl, hs0, hc0, k⟩ := h
    obtain ⟨dx, t, hx, ht⟩ := id hb
    walk_at "zb"
    refine ⟨x, dx, _, rfl, w.at hx, rfl, ?_⟩
    walk_at "zb"
    refine ⟨G, W, x, bs, s, c, w, rfl, hb, h01, hl, hs0, hc0, ?_⟩
    unfold ans at k
    by_cases hf : 0 < c ∧ (bs.length : Int) < s + c
    · rw [if_pos hf] at k
      refine .inr ⟨hf.1, hf.2, fun d G1 H1 e1 w1 hd => ?_⟩
      refine ⟨true, T.x_NoBit.te, fun _ b hb => ?_, fun h => nomatch h⟩
      walk_at "zb"
      refine ⟨rfl, rfl, d, _, _, rfl, w1.at hd, rfl, ?_⟩
      walk_at "zb"
      exact ⟨small (by simp), NewO.good w1 fun p G2 H2 e2 w2 h2 => k p G2 H2 (by walk_at "sm") w2 h2⟩
    · rw [if_neg hf] at k
      refine .inl ⟨hf, fun G1 H1 e1 w1 => ?_⟩
      walk_at "zb"
      exact ⟨small (by simp), NewO.good w1 fun p G2 H2 e2 w2 h2 => k p G2 H2 (by walk_at "sm") w2 h2⟩
def sp_due (K : PySem.W.Frag) : Sp := fun vs H Q _ => ∃ (G : Hp) (W : Wl) (r : Addr) (bs : List Int) (s c : Int), Wd G W H ∧ vs = [.ref r, .int s, .int c] ∧ SqL K G r (bs.map V.int) ∧ Bit01 bs ∧ bs.length ≤ 10000 ∧ 0 ≤ s ∧ 0 ≤ c ∧
  ∀ p G' H', Same G G' → Wd G' W H' → G' p = some (.tup [.str (ans bs s c).1, .int (ans bs s c).2]) → Q (.ref p) H'
theorem ok__law_due (T : Txt K mg A) : FnOk P w K mg base CX0 1 A.f__law_due A.fd__law_due sP__law_due (sp_due K) := by
  refine okD T.F__law_due sc__law_due (fun vs H Q E h => ?_) (fun cdv Ar outer s H vs Q E hr h => ⟨_, (C8.pss_cut (ps_if (PW.pt (pw_and (pt_cmpR op_gt (pv 2) (pe_int) (nomark _)) (pw_and1 (pt_cmpR op_gt (pe_op op_add (pv 1) (pv 2)) (pe_callB call_len_seq (by rfl) T.z_len PySem.boot_len (pa_cons (pv 0) pa_nil)) (nomark _))))) (pss_one (ps_ret (pe_tup (pa_cons (pe_str) (pa_cons (pe_callB (call_max2 rfl) (by rfl) T.z_max (by decide +kernel) (pa_cons (pv 1) (pa_cons (pe_callB call_len_seq (by rfl) T.z_len PySem.boot_len (pa_cons (pv 0) pa_nil)) pa_nil))) pa_nil))))) pss_nil)
      (pss_cons (ps_asg (pe_tup (pa_cons (pe_int) (pa_cons (pe_int) pa_nil))) (pg_tup rfl (pgs_cons (pg_name (i := 3) sc__law_due.nd rfl (Or.inl rfl)) (pgs_cons (pg_name (i := 4) sc__law_due.nd rfl (Or.inl rfl)) pgs_nil))))
      (pss_cons (ps_for PassesOwn.never rfl (pi_list (pe_slice sl_list (pv 0) (po_some (pv 1)) (po_some (pe_op op_add (pv 1) (pv 2))))) (pg_name (i := 5) sc__law_due.nd rfl (Or.inl rfl)) (pss_cons (ps_set (i := 3) sc__law_due.nd rfl (Or.inl rfl) (pe_op op_add (pv 3) (pe_op op_mul (pv 5) (pv 4))))
      (pss_one (ps_set (i := 4) sc__law_due.nd rfl (Or.inl rfl) (pe_op op_mul (pv 4) (pe_int))))))
      (pss_one (ps_ret (pe_tup (pa_cons (pe_str) (pa_cons (pv 3) pa_nil)))))))), ?_⟩)
  · obtain ⟨G, W, x, bs, s, c, _, rfl, _⟩ := h
    rfl
  · obtain ⟨G, W, r, bs, s, c, w, rfl, ha, h01, hl, hs0, hc0, k⟩ := h
    unfold ans at k
    refine st_cut (fun σ H' => σ = [some (.ref r), some (.int s), some (.int c), none, none, none] ∧ Wd G W H' ∧ ¬ (0 < c ∧ (bs.length : Int) < s + c)) ?_ ?_
    · walk_at "zb"
      by_cases h1 : 0 < c
      · rw [decide_eq_true h1]
        walk_at "zb"
        refine ⟨r, _, rfl, .inl (seq_up w ha), ?_⟩
        walk_at "zb"
        rw [List.length_map]
        by_cases h2 : (bs.length : Int) < s + c
        · rw [decide_eq_true h2]
          rw [if_pos ⟨h1, h2⟩] at k
          walk_at "zb"
          refine ⟨r, _, rfl, .inl (seq_up w ha), ?_⟩
          walk_at "zb"
          rw [List.length_map]
          refine ⟨_, _, rfl, ?_⟩
          rw [show (if (bs.length : Int) > s then (bs.length : Int) else s) = max s bs.length by split <;> omega]
          walk_at "zb"
          exact ⟨small (by simp), NewO.good w fun p G2 H2 e2 w2 h2 => k p G2 H2 (by walk_at "sm") w2 h2⟩
        · rw [decide_eq_false h2]
          walk_at "zb"
          exact ⟨rfl, w, fun h => h2 h.2⟩
      · rw [decide_eq_false h1]
        walk_at "zb"
        exact ⟨rfl, w, fun h => h1 h.1⟩
    · clear w
      rintro σ1 H1 ⟨rfl, w, hn⟩
      rw [if_neg hn] at k
      walk_at "zb"
      refine ⟨by decide, NewO.good w fun p0 G0 H0 e0 w0 h0 => ?_⟩
      refine st_gtup (SqT.of (w0.at h0)) rfl ?_
      walk_at "zb"
      refine ⟨_, rfl, ?_⟩
      walk_at "zb"
      refine ⟨_, rfl, ?_⟩
      refine st_slL (seq_up w0 (e0.seq ha)) w0 fun q G2 H2 e2 w2 h2 => ?_
      rw [cut_part hs0 hc0] at h2
      refine for_l (SqL.of h2) (fun i σ G' W' => W' = W ∧ ∃ z, σ = [some (.ref r), some (.int s), some (.int c), some (.int (fldN (part bs s c) i)), some (.int (2 ^ i)), z]) w2 ⟨rfl, _, rfl⟩ ?_ ?_
      · rintro i y σ' G3 W3 H3 hy e3 w3 ⟨rfl, z, rfl⟩
        obtain ⟨n, hn0, rfl, hmem⟩ := getI hy
        have hn1 := h01 n (part_mem hmem)
        walk_at "zb"
        refine st_btw e3 w3 ⟨rfl, some (.int n), ?_⟩
        rw [fldN_succ, List.getD_eq_getElem?_getD, hn0, Int.pow_succ]
        rfl
      · rintro σ' G3 W3 H3 e3 w3 ⟨rfl, z, rfl⟩
        rw [List.length_map]
        walk_at "zb"
        exact ⟨small (by simp), NewO.good w3 fun p G4 H4 e4 w4 h4 => k p G4 H4 (by walk_at "sm") w4 h4⟩
/-! ### fields of bytes -/
theorem fldN_append (a b : List Int) (i : Nat) : fldN (a ++ b) (a.length + i) = fld a + 2 ^ a.length * fldN b i := by
  induction i with
  | zero =>
    show fldN (a ++ b) a.length = fldN a a.length + 2 ^ a.length * 0
    rw [Int.mul_zero, Int.add_zero]
    unfold fldN
    congr 1
    refine List.map_congr_left fun j hj => ?_
    have := List.mem_range.mp hj
    rw [List.getD_eq_getElem?_getD, List.getD_eq_getElem?_getD, List.getElem?_append_left this]
  | succ i ih =>
    rw [← Nat.add_assoc, fldN_succ, ih, fldN_succ, List.getD_eq_getElem?_getD, List.getD_eq_getElem?_getD, List.getElem?_append_right (by omega), show a.length + i - a.length = i by omega, Int.mul_add, Int.pow_add, ← Int.add_assoc]
    congr 1
    rw [Int.mul_comm (2 ^ a.length) (2 ^ i), ← Int.mul_assoc, Int.mul_comm]
theorem fld_append (a b : List Int) : fld (a ++ b) = fld a + 2 ^ a.length * fld b := by
  unfold fld
  rw [List.length_append]
  exact fldN_append a b b.length
theorem bits8_len (n : Int) : (bits8 n).length = 8 := rfl
theorem fld_bits8 {n : Int} (h : 0 ≤ n ∧ n ≤ 255) : fld (bits8 n) = n := by
  have h2 := (show ∀ k : Nat, k < 256 → fld (bits8 (k : Int)) = k by decide +kernel) n.toNat (by omega)
  rwa [show ((n.toNat : Nat) : Int) = n by omega] at h2
theorem part_bits : ∀ (ns : List Int) (k : Nat) (n : Int), ns[k]? = some n → ∀ c : Int, 0 ≤ c → c ≤ 8 → part (bitsOf ns) (8 * k) c = (bits8 n).take c.toNat
  | [], k, n, h => by simp at h
  | m :: ns, 0, n, h => fun c h0 h1 => by
    cases h
    show ((bits8 m ++ bitsOf ns).drop 0).take c.toNat = _
    rw [List.drop_zero, List.take_append_of_le_length (by rw [bits8_len]; omega)]
  | m :: ns, k + 1, n, h => fun c h0 h1 => by
    have ih := part_bits ns k n h c h0 h1
    unfold part at ih ⊢
    show ((bits8 m ++ bitsOf ns).drop _).take _ = _
    rw [show (8 * ((k + 1 : Nat) : Int)).toNat = (bits8 m).length + (8 * (k : Int)).toNat by rw [bits8_len]; omega, ← List.drop_drop, List.drop_left]
    exact ih
theorem fld_bits : ∀ ns : List Int, Byt ns → fld (bitsOf ns) = ((List.range ns.length).map fun k => ns.getD k 0 * 2 ^ (8 * k)).sum
  | [], _ => rfl
  | n :: ns, h => by
    have ih := fld_bits ns fun m hm => h m (List.mem_cons_of_mem _ hm)
    show fld (bits8 n ++ bitsOf ns) = _
    rw [fld_append, ih, fld_bits8 (h n List.mem_cons_self), bits8_len, List.length_cons, List.range_succ_eq_map, List.map_cons, List.sum_cons, List.map_map]
    congr 1
    · simp
    · have key : ∀ l : List Nat, 2 ^ 8 * (l.map fun k => ns.getD k 0 * 2 ^ (8 * k)).sum = (l.map ((fun k => (n :: ns).getD k 0 * 2 ^ (8 * k)) ∘ Nat.succ)).sum := by
        intro l
        induction l with
        | nil => rfl
        | cons k l ih =>
          rw [List.map_cons, List.sum_cons, List.map_cons, List.sum_cons, Int.mul_add, ih]
          congr 1
          show (2 : Int) ^ 8 * (ns.getD k 0 * 2 ^ (8 * k)) = ns.getD k 0 * 2 ^ (8 * (k + 1))
          rw [show 8 * (k + 1) = 8 * k + 8 by omega, Int.pow_add, Int.mul_comm ((2 : Int) ^ 8), Int.mul_assoc]
      exact key _
/-! ### the law -/
def dA (q : Str × Int) : PyData := .tuple [.str q.1, .int q.2]
theorem sh_dA (q : Str × Int) (hq : PyData.strOk q.1 = true) : SeqAt.shaped (dA q) = true := by
  refine Sh.ok (n := 1) ?_ (by decide)
  refine Sh.tuple fun d hd => ?_
  rcases List.mem_cons.mp hd with rfl | hd
  · exact ⟨by unfold PyData.canLay0; exact hq, by unfold PyData.depth; exact Nat.zero_le _⟩
  · rw [List.mem_singleton.mp hd]
    exact Sh.int _
theorem eqv_dA (q : Str × Int) : PyData.eqv (dA q) (dA q) = true := by
  unfold dA
  simp [PyData.eqv, PyData.eqvAll]
theorem st_neA {H : Hp} {Q : VK} {a b : Addr} (q : Str × Int) (hq : PyData.strOk q.1 = true) (h1 : SqT K H a [.str q.1, .int q.2]) (h2 : SqT K H b [.str q.1, .int q.2]) (k : Q (.bl false) H) : rNeD K (.ref a) (.ref b) H Q :=
  st_neD (d := dA q) (e := dA q) (b := true) (.tup h1 (.cons (.str _) (.cons (.int _) .nil))) (.tup h2 (.cons (.str _) (.cons (.int _) .nil))) (sh_dA q hq) (sh_dA q hq) (eqv_dA q) k
theorem part00 (bs : List Int) : fld (part bs 0 0) = 0 := by simp [part, fld, fldN]
theorem part_all (bs : List Int) : part bs 0 bs.length = bs := by simp [part]
theorem fld_one (n : Int) : fld [n / 2 ^ 0 % 2] = n % 2 := by simp [fld, fldN]
theorem ans_ok (bs : List Int) (s c : Int) : PyData.strOk (ans bs s c).1 = true := by
  unfold ans
  split <;> exact strOk_of _
theorem ans_len (bs : List Int) : ans bs bs.length 1 = (("none" : Str), (bs.length : Int)) := by
  unfold ans
  rw [if_pos ⟨by decide, by omega⟩, Int.max_self]
theorem ans_more (bs : List Int) : (ans bs 0 (bs.length + 1)).1 = "none" := by
  unfold ans
  rw [if_pos ⟨by omega, by omega⟩]
def spLaw (K : PySem.W.Frag) : Sp := fun vs H Q _ => ∃ (a : Addr) (ns : List Int), vs = [.ref a] ∧ SqL K H a (ns.map V.int) ∧ ns.length ≤ 63 ∧ ∀ H', Q (.bl true) H'
theorem ok_law (T : Txt K mg A) : FnG P w K mg base 7 A.f_law A.fd_law sP_law (spLaw K) := by
  refine okG T.F_law sc_law (fun vs H Q E h => ?_) (fun cdv Ar outer s H vs Q E hgd hr h => ⟨_, (pss_cons (ps_for PassesOwn.never rfl (pi_range1 (by rfl) T.z_range (pa_cons (pe_callB (call_max2 rfl) (by rfl) T.z_max (by decide +kernel) (pa_cons (pe_int) (pa_cons (pe_callB (call_min2 rfl) (by rfl) T.z_min (by decide +kernel) (pa_cons (pe_int) (pa_cons (pe_callB call_len_seq (by rfl) T.z_len PySem.boot_len (pa_cons (pv 0) pa_nil)) pa_nil))) pa_nil))) pa_nil)) (pg_name (i := 1) sc_law.nd rfl (Or.inl rfl)) (pss_cons (ps_set (i := 2) sc_law.nd rfl (Or.inr rfl) (pe_call (ok__law_bag T) (hr.mono (by decide)) rfl T.m__law_bag T.F__law_bag.kp T.b__law_bag .nil pass0 (pa_cons (pv 0) (pa_cons (pv 1) pa_nil))))
      (pss_cons (ps_setLc (i := 3) (own := [("_law_turn", 5)]) (g := gName 5) (tt := tYes) rfl sc_law.nd rfl rfl (sw_true rfl rfl rfl (by decide +kernel)) (pi_range1 (by rfl) T.z_range (pa_cons (pe_call (ok__law_take T) (hr.mono (by decide)) rfl T.m__law_take T.F__law_take.kp T.b__law_take .nil pass0 (pa_cons (pv 2) (pa_cons (pe_int) pa_nil))) pa_nil)) (blkOk_by (own := [("_law_turn", 5)]) (N := sN_law) (sc := defScope s_law) (by decide +kernel)) (fun _ _ _ _ _ => pg_name (i := 5) sc_law.nd rfl (Or.inl rfl)) (fun _ _ _ _ _ => pts_nil) (fun _ _ _ _ _ => (pe_call (ok__law_take T) (hr.mono (by decide)) rfl T.m__law_take T.F__law_take.kp T.b__law_take .nil pass0 (pa_cons (pv 2) (pa_cons (pe_int) pa_nil)))))
      (pss_cons (ps_set (i := 4) sc_law.nd rfl (Or.inl rfl) (pe_make T.M_Bits (ok_Bits___init__ T) (hr.mono (by decide)) rfl T.gC_Bits T.b_Bits___init__ .nil pass0 (pa_cons (pv 3) pa_nil)))
      (pss_cons (ps_for PassesOwn.never rfl (pi_range1 (by rfl) T.z_range (pa_cons (pe_int) pa_nil)) (pg_name (i := 5) sc_law.nd rfl (Or.inl rfl)) (pss_cons (ps_par (i := 8) (j := 9) (by rfl) sc_law.nd rfl rfl (by decide) rfl rfl (pa_cons (pe_call (ok__law_take T) (hr.mono (by decide)) rfl T.m__law_take T.F__law_take.kp T.b__law_take .nil pass0 (pa_cons (pv 2) (pa_cons (pe_op op_add (pe_callB call_len_seq (by rfl) T.z_len PySem.boot_len (pa_cons (pv 3) pa_nil)) (pe_int)) pa_nil))) (pa_cons (pe_call (ok__law_take T) (hr.mono (by decide)) rfl T.m__law_take T.F__law_take.kp T.b__law_take .nil pass0 (pa_cons (pv 2) (pa_cons (pe_int) pa_nil))) pa_nil)) (by rfl))
      (pss_cons (ps_if (pt_cmpR (op_neD hr.units) (pe_call (ok__law_told T) (hr.mono (by decide)) rfl T.m__law_told T.F__law_told.kp T.b__law_told .nil pass0 (pa_cons (pv 4) (pa_cons (pv 8) (pa_cons (pv 9) pa_nil)))) (pe_call (ok__law_due T) (hr.mono (by decide)) rfl T.m__law_due T.F__law_due.kp T.b__law_due .nil pass0 (pa_cons (pv 3) (pa_cons (pv 8) (pa_cons (pv 9) pa_nil)))) (nomark _)) (pss_one (ps_ret (pe_bl))) pss_nil)
      (pss_one (ps_if (PW.pt (pw_and (pt_cmpR op_gt (pv 9) (pe_int) (nomark _)) (pw_and1 (pt_cmpR op_ne (pe_meth (pv 4) T.cl_Bits T.mt_Bits_field (ok_Bits_field T) (hr.mono (by decide)) T.b_Bits_field .nil passX0 (pa_cons (pe_int) (pa_cons (pe_int) pa_nil))) (pe_int) (nomark _))))) (pss_one (ps_ret (pe_bl))) pss_nil)))))
      (pss_cons (ps_asg (pe_lc (own := [("_law_turn", 5)]) (g := gName 5) (tt := tYes) rfl sc_law.nd (pi_range1 (by rfl) T.z_range (pa_cons (pe_op op_add (pe_int) (pe_call (ok__law_take T) (hr.mono (by decide)) rfl T.m__law_take T.F__law_take.kp T.b__law_take .nil pass0 (pa_cons (pv 2) (pa_cons (pe_int) pa_nil)))) pa_nil)) (blkOk_by (own := [("_law_turn", 5)]) (N := sN_law) (sc := defScope s_law) (by decide +kernel)) (fun _ _ _ _ _ => pg_name (i := 5) sc_law.nd rfl (Or.inl rfl)) (fun _ _ _ _ _ => pts_nil) (fun _ _ _ _ _ => (pe_call (ok__law_take T) (hr.mono (by decide)) rfl T.m__law_take T.F__law_take.kp T.b__law_take .nil pass0 (pa_cons (pv 2) (pa_cons (pe_int) pa_nil))))) (pg_name (i := 6) sc_law.nd rfl (Or.inr rfl)))
      (pss_cons (ps_set (i := 4) sc_law.nd rfl (Or.inl rfl) (ClX.pe_cmeth (pe_glob (v := .ref A.C_Bits) rfl T.gC_Bits rfl) T.cr_Bits T.cm_Bits_of_data ((ok_Bits_of_data T).raw T.b_Bits_of_data .nil) (hr.mono (by decide)) pass0 (pa_cons (pv 6) pa_nil)))
      (pss_cons (ps_for PassesOwn.never rfl (pi_range1 (by rfl) T.z_range (pa_cons (pe_callB call_len_seq (by rfl) T.z_len PySem.boot_len (pa_cons (pv 6) pa_nil)) pa_nil)) (pg_name (i := 7) sc_law.nd rfl (Or.inl rfl)) (pss_one (ps_if (PW.pt (pw_or (pt_cmpR op_ne (pe_meth (pv 4) T.cl_Bits T.mt_Bits_field (ok_Bits_field T) (hr.mono (by decide)) T.b_Bits_field .nil passX0 (pa_cons (pe_op op_mul (pe_int) (pv 7)) (pa_cons (pe_int) pa_nil))) (pe_ix ix_list (pv 6) (pv 7) (fun _ _ => rfl)) (nomark _)) (pw_or1 (pt_cmpR op_ne (pe_meth (pv 4) T.cl_Bits T.mt_Bits_field (ok_Bits_field T) (hr.mono (by decide)) T.b_Bits_field .nil passX0 (pa_cons (pe_op op_mul (pe_int) (pv 7)) (pa_cons (pe_int) pa_nil))) (pe_op op_mod (pe_ix ix_list (pv 6) (pv 7) (fun _ _ => rfl)) (pe_int)) (nomark _))))) (pss_one (ps_ret (pe_bl))) pss_nil)))
      (pss_cons (ps_if (pt_cmpR op_ne (pe_meth (pv 4) T.cl_Bits T.mt_Bits_field (ok_Bits_field T) (hr.mono (by decide)) T.b_Bits_field .nil passX0 (pa_cons (pe_int) (pa_cons (pe_callB (call_lenO T.mt_Bits___len__ (ok_Bits___len__ T) (hr.mono (by decide)) T.b_Bits___len__) (by rfl) T.z_len PySem.boot_len (pa_cons (pv 4) pa_nil)) pa_nil))) (pe_callB (cr_sum rfl) (by rfl) T.z_sum (by decide +kernel) (pa_cons (pe_lc (own := [("_law_k", 7)]) (g := gName 7) (tt := tYes) rfl sc_law.nd (pi_range1 (by rfl) T.z_range (pa_cons (pe_callB call_len_seq (by rfl) T.z_len PySem.boot_len (pa_cons (pv 6) pa_nil)) pa_nil)) (blkOk_by (own := [("_law_k", 7)]) (N := sN_law) (sc := defScope s_law) (by decide +kernel)) (fun _ _ _ _ _ => pg_name (i := 7) sc_law.nd rfl (Or.inl rfl)) (fun _ _ _ _ _ => pts_nil) (fun _ _ _ _ _ => (pe_op op_mul (pe_ix (show IxR _ (rIxL K) from ix_list) (pv 6) (pv 7) (fun _ _ => rfl)) (pe_op op_shl (pe_int) (pe_op op_mul (pe_int) (pv 7)))))) pa_nil)) (nomark _)) (pss_one (ps_ret (pe_bl))) pss_nil)
      (pss_one (ps_if (PW.pt (pw_or (pt_cmpR (op_neD hr.units) (pe_call (ok__law_told T) (hr.mono (by decide)) rfl T.m__law_told T.F__law_told.kp T.b__law_told .nil pass0 (pa_cons (pv 4) (pa_cons (pe_callB (call_lenO T.mt_Bits___len__ (ok_Bits___len__ T) (hr.mono (by decide)) T.b_Bits___len__) (by rfl) T.z_len PySem.boot_len (pa_cons (pv 4) pa_nil)) (pa_cons (pe_int) pa_nil)))) (pe_tup (pa_cons (pe_str) (pa_cons (pe_callB (call_lenO T.mt_Bits___len__ (ok_Bits___len__ T) (hr.mono (by decide)) T.b_Bits___len__) (by rfl) T.z_len PySem.boot_len (pa_cons (pv 4) pa_nil)) pa_nil))) (nomark _)) (pw_or1 (pt_cmpR op_ne (pe_ix ix_tup (pe_call (ok__law_told T) (hr.mono (by decide)) rfl T.m__law_told T.F__law_told.kp T.b__law_told .nil pass0 (pa_cons (pv 4) (pa_cons (pe_int) (pa_cons (pe_op op_add (pe_callB (call_lenO T.mt_Bits___len__ (ok_Bits___len__ T) (hr.mono (by decide)) T.b_Bits___len__) (by rfl) T.z_len PySem.boot_len (pa_cons (pv 4) pa_nil)) (pe_int)) pa_nil)))) (pe_int) (fun _ _ => rfl)) (pe_str) (nomark _))))) (pss_one (ps_ret (pe_bl))) pss_nil)))))))))))
      (pss_one (ps_ret (pe_cmpR op_eq (pe_meth (pe_make0 T.M_Bits (ok_Bits___init__ T) (hr.mono (by decide)) rfl T.gC_Bits T.b1_Bits___init__.choose_spec.2 T.b1_Bits___init__.choose_spec.1 pass0) T.cl_Bits T.mt_Bits_field (ok_Bits_field T) (hr.mono (by decide)) T.b_Bits_field .nil passX0 (pa_cons (pe_int) (pa_cons (pe_int) pa_nil))) (pe_int) (nomark _))))), ?_⟩)
  · obtain ⟨a, ns, rfl, _⟩ := h
    rfl
  · obtain ⟨a, ns, rfl, hS, hn, k⟩ := h
    have w0 : Wd H [] H := ⟨Same.refl _, (fun _ h => nomatch h), List.nodup_nil⟩
    walk_at "zb"
    refine ⟨a, _, rfl, .inl hS, ?_⟩
    walk_at "zb"
    rw [List.length_map]
    refine ⟨_, _, rfl, ?_⟩
    walk_at "zb"
    refine ⟨_, _, rfl, ?_⟩
    walk_at "zb"
    refine for_r1 (by split <;> split <;> omega) (fun i σ G' W' => W' = [] ∧ ∃ x1 x2 x3 x4 x5 x6 x7 x8 x9, σ = [some (.ref a), x1, x2, x3, x4, x5, x6, x7, x8, x9]) w0 ⟨rfl, _, _, _, _, _, _, _, _, _, rfl⟩ ?_ ?_
    · rintro i σ' G1 W1 H1 hi e1 w1 ⟨rfl, x1, x2, x3, x4, x5, x6, x7, x8, x9, rfl⟩
      have hi6 : (i : Int) < 6 := by split at hi <;> split at hi <;> omega
      clear w0
      walk_at "zb"
      refine ⟨G1, [], a, ns, _, w1, rfl, e1.seq hS, by omega, by omega, fun b H2 w2 => ?_⟩
      have hm : (b, BagI) ∈ [(b, BagI)] := List.mem_cons_self
      walk_at "zb"
      refine ⟨G1, _, b, _, w2, hm, rfl, by decide, by decide, fun r H3 hr0 hr1 w3 => ?_⟩
      refine lc_r1 (by omega) (fun i acc _ => ∃ ns : List Int, acc = ns.map V.int ∧ Bit01 ns ∧ ns.length = i) w3 ⟨[], rfl, (fun _ h => nomatch h), rfl⟩ (fun _ => rfl) ?_ ?_
      · rintro i D G' H' acc hi e w' ⟨ns, rfl, hL, hl⟩
        walk_at "zb"
        refine ⟨G', _, b, _, w', by simp, rfl, by decide, by decide, fun r4 H4 hr4 hr5 w4 => ?_⟩
        refine lc_put w4 (by walk_at "sm") (by rw [List.length_map]; omega) ⟨ns ++ [r4], by simp, fun n hn => ?_, by simp [hl]⟩
        rcases List.mem_append.mp hn with hn | hn
        · exact hL n hn
        · rw [List.mem_singleton.mp hn]
          omega
      rintro p3 G4 H4 acc e4 w4 ⟨row, rfl, hB, hl⟩
      obtain ⟨o, rfl, _, e5, w5⟩ := w4.freeze1
      have h3 : HL (upd G4 p3 (.lst (row.map V.int))) p3 row := upd_same
      generalize upd G4 p3 (.lst (row.map V.int)) = G5 at e5 w5 h3
      walk_at "zb"
      refine mk_bits w5 (.inl h3.seq) hB (by omega) fun m G6 H6 e6 w6 hmd => ?_
      have h3 := h3.up e6
      have e16 := (e4.trans e5).trans e6
      clear w2 w3 w4 w5
      walk_at "zb"
      refine for_r1 (by decide) (fun i2 σ G' W' => W' = [(b, BagI)] ∧ ∃ x5 x6 x7 x8 x9, σ = [some (.ref a), some (.int i), some (.ref b), some (.ref p3), some (.ref m), x5, x6, x7, x8, x9]) w6 ⟨rfl, _, _, _, _, _, rfl⟩ ?_ ?_
      · rintro i2 σ' G7 W7 H7 hi2 e7 w7 ⟨rfl, y5, y6, y7, y8, y9, rfl⟩
        walk_at "zb"
        refine ⟨p3, _, rfl, .inl (seq_up w7 (h3.up e7).seq), ?_⟩
        walk_at "zb"
        rw [List.length_map]
        refine ⟨G7, _, b, _, w7, hm, rfl, by omega, by omega, fun s H8 hs0 hs1 w8 => ?_⟩
        walk_at "zb"
        refine ⟨G7, _, b, _, w8, hm, rfl, by decide, by decide, fun c H9 hc0 hc1 w9 => ?_⟩
        walk_at "zb"
        refine ⟨G7, _, m, row, s, c, w9, rfl, hmd.up e7, hB, by omega, hs0, hc0, fun p10 G10 H10 e10 w10 h10 => ?_⟩
        walk_at "zb"
        refine ⟨G10, _, p3, row, s, c, w10, rfl, (h3.up (e7.trans e10)).seq, hB, by omega, hs0, hc0, fun p11 G11 H11 e11 w11 h11 => ?_⟩
        walk_at "zb"
        refine st_neA (ans row s c) (ans_ok _ _ _) (SqT.of (w11.at (e11 _ _ h10))) (SqT.of (w11.at h11)) ?_
        have e711 := e7.trans (e10.trans e11)
        walk_at "zb"
        refine ite2 (fun _ => ?_) (fun _ => ?_)
        · obtain ⟨dx, t, hx, ht⟩ := hmd.up e711
          walk_at "zb"
          refine ⟨m, dx, _, rfl, w11.at hx, rfl, ?_⟩
          walk_at "zb"
          refine ⟨G11, _, m, row, 0, 0, w11, rfl, ⟨dx, t, hx, ht⟩, hB, by omega, by decide, by decide, .inl ⟨by omega, fun G12 H12 e12 w12 => ?_⟩⟩
          rw [part00]
          walk_at "zb"
          rw [ne_self]
          walk_at "zb"
          exact st_btw (by walk_at "sm") w12 ⟨rfl, _, _, _, _, _, rfl⟩
        · walk_at "zb"
          exact st_btw (by walk_at "sm") w11 ⟨rfl, _, _, _, _, _, rfl⟩
      · clear w6 hmd h3 hB
        rintro σ' G7 W7 H7 e7 w7 ⟨rfl, y5, y6, y7, y8, y9, rfl⟩
        walk_at "zb"
        refine ⟨G7, _, b, _, w7, hm, rfl, by decide, by decide, fun r8 H8 hr2 hr3 w8 => ?_⟩
        walk_at "zb"
        refine lc_r1 (by omega) (fun i acc _ => ∃ ns : List Int, acc = ns.map V.int ∧ Byt ns ∧ ns.length = i) w8 ⟨[], rfl, (fun _ h => nomatch h), rfl⟩ (fun _ => rfl) ?_ ?_
        · rintro i D G' H' acc hi e w' ⟨ns, rfl, hL, hl⟩
          walk_at "zb"
          refine ⟨G', _, b, _, w', by simp, rfl, by decide, by decide, fun r4 H4 hr4 hr5 w4 => ?_⟩
          refine lc_put w4 (by walk_at "sm") (by rw [List.length_map]; omega) ⟨ns ++ [r4], by simp, fun n hn => ?_, by simp [hl]⟩
          rcases List.mem_append.mp hn with hn | hn
          · exact hL n hn
          · rw [List.mem_singleton.mp hn]
            omega
        rintro p9 G9 H9 acc e9 w9 ⟨some9, rfl, hB, hl9⟩
        obtain ⟨o, rfl, _, e10, w10⟩ := w9.freeze1
        have h9 : HL (upd G9 p9 (.lst (some9.map V.int))) p9 some9 := upd_same
        generalize upd G9 p9 (.lst (some9.map V.int)) = G10 at e10 w10 h9
        walk_at "zb"
        refine ⟨rfl, ?_⟩
        walk_at "zb"
        refine ⟨G10, _, p9, some9, w10, rfl, h9.seq, hB, by omega, fun m2 G11 H11 e11 w11 hmd => ?_⟩
        have h9 := h9.up e11
        have h01 := bits_01 some9
        have hbl := bits_len some9
        have e711 := (e9.trans e10).trans e11
        clear w7 w8 w9 w10
        walk_at "zb"
        refine ⟨p9, _, rfl, .inl (seq_up w11 h9.seq), ?_⟩
        walk_at "zb"
        rw [List.length_map]
        refine for_r1 (by omega) (fun i2 σ G' W' => W' = [(b, BagI)] ∧ ∃ x7, σ = [some (.ref a), some (.int i), some (.ref b), some (.ref p3), some (.ref m2), y5, some (.ref p9), x7, y8, y9]) w11 ⟨rfl, _, rfl⟩ ?_ ?_
        · rintro k2 σ' G12 W12 H12 hk2 e12 w12 ⟨rfl, x7, rfl⟩
          obtain ⟨n, hn, hmem, hn2⟩ := atI_map (ns := some9) (i := (k2 : Int)) (by omega) (by omega)
          rw [Int.toNat_natCast] at hn2
          obtain ⟨dx, t, hx, ht⟩ := hmd.up e12
          have hn3 := hB n hmem
          walk_at "zb"
          refine ⟨m2, dx, _, rfl, w12.at hx, rfl, ?_⟩
          walk_at "zb"
          refine ⟨G12, _, m2, bitsOf some9, _, 8, w12, rfl, ⟨dx, t, hx, ht⟩, h01, by omega, by omega, by decide, .inl ⟨by omega, fun G13 H13 e13 w13 => ?_⟩⟩
          rw [part_bits some9 k2 n hn2 8 (by decide) (by decide), show (bits8 n).take (8 : Int).toNat = bits8 n from rfl, fld_bits8 hn3]
          walk_at "zb"
          refine st_ixL (seq_up w13 (h9.up (e12.trans e13)).seq) hn ?_
          walk_at "zb"
          rw [ne_self]
          walk_at "zb"
          refine ⟨m2, dx, _, rfl, w13.at (e13 _ _ hx), rfl, ?_⟩
          walk_at "zb"
          refine ⟨G13, _, m2, bitsOf some9, _, 1, w13, rfl, hmd.up (e12.trans e13), h01, by omega, by omega, by decide, .inl ⟨by omega, fun G14 H14 e14 w14 => ?_⟩⟩
          rw [part_bits some9 k2 n hn2 1 (by decide) (by decide), show fld ((bits8 n).take (1 : Int).toNat) = n % 2 from fld_one n]
          walk_at "zb"
          refine st_ixL (seq_up w14 (h9.up ((e12.trans e13).trans e14)).seq) hn ?_
          walk_at "zb"
          rw [ne_self]
          walk_at "zb"
          exact st_btw (by walk_at "sm") w14 ⟨rfl, _, rfl⟩
        · clear w11
          rintro σ' G12 W12 H12 e12 w12 ⟨rfl, x7, rfl⟩
          have hmd := hmd.up e12
          have h9 := h9.up e12
          obtain ⟨dx, t, hx, ht⟩ := id hmd
          walk_at "zb"
          refine ⟨m2, dx, _, rfl, w12.at hx, rfl, ?_⟩
          walk_at "zb"
          refine ⟨m2, dx, _, rfl, w12.at hx, m2, bitsOf some9, rfl, hmd.at w12, _, rfl, by omega, ?_⟩
          walk_at "zb"
          refine ⟨G12, _, m2, bitsOf some9, 0, _, w12, rfl, hmd, h01, by omega, by decide, by omega, .inl ⟨by omega, fun G13 H13 e13 w13 => ?_⟩⟩
          rw [part_all, fld_bits some9 hB]
          walk_at "zb"
          refine ⟨p9, _, rfl, .inl (seq_up w13 (h9.up e13).seq), ?_⟩
          walk_at "zb"
          rw [List.length_map]
          refine lc_r1 (by omega) (fun i acc _ => acc = ((List.range i).map fun k => some9.getD k 0 * 2 ^ (8 * k)).map V.int) w13 rfl (fun _ => rfl) ?_ ?_
          · rintro k2 D G14 H14 acc hk2 e14 w14 rfl
            obtain ⟨n, hn, hmem, hn2⟩ := atI_map (ns := some9) (i := (k2 : Int)) (by omega) (by omega)
            rw [Int.toNat_natCast] at hn2
            have hn3 := hB n hmem
            walk_at "zb"
            refine st_ixL (seq_up w14 (h9.up (e13.trans e14)).seq) hn ?_
            walk_at "zb"
            refine lc_put w14 (by walk_at "sm") (by simp; omega) ?_
            rw [List.range_succ, List.map_append, List.map_append]
            congr 1
            show [V.int (n * (1 * 2 ^ (8 * (k2 : Int)).toNat))] = [V.int (some9.getD k2 0 * 2 ^ (8 * k2))]
            rw [List.getD_eq_getElem?_getD, hn2, Int.one_mul, show (8 * (k2 : Int)).toNat = 8 * k2 by omega]
            rfl
          · rintro D G14 H14 acc e14 w14 rfl
            walk_at "zb"
            refine ⟨D, _, rfl, SqL.of (Wd.is1 w14), ?_⟩
            rw [Int.toNat_natCast]
            walk_at "zb"
            rw [ne_self]
            have w14 := Wd.drop1 w14
            have f14 := e13.trans e14
            walk_at "zb"
            refine ⟨m2, dx, _, rfl, w14.at (f14 _ _ hx), m2, bitsOf some9, rfl, (hmd.up f14).at w14, _, rfl, by omega, ?_⟩
            walk_at "zb"
            refine ⟨G14, _, m2, bitsOf some9, _, 1, w14, rfl, hmd.up f14, h01, by omega, by omega, by decide, fun p15 G15 H15 e15 w15 h15 => ?_⟩
            rw [ans_len] at h15
            have f15 := f14.trans e15
            walk_at "zb"
            refine ⟨m2, dx, _, rfl, w15.at (f15 _ _ hx), m2, bitsOf some9, rfl, (hmd.up f15).at w15, _, rfl, by omega, ?_⟩
            walk_at "zb"
            refine ⟨small (by simp), NewO.good w15 fun p16 G16 H16 e16 w16 h16 => ?_⟩
            walk_at "zb"
            refine st_neA ((("none" : Str), ((bitsOf some9).length : Int))) (strOk_of _) (SqT.of (w16.at (e16 _ _ h15))) (SqT.of (w16.at h16)) ?_
            have f16 := f15.trans e16
            walk_at "zb"
            refine ⟨m2, dx, _, rfl, w16.at (f16 _ _ hx), m2, bitsOf some9, rfl, (hmd.up f16).at w16, _, rfl, by omega, ?_⟩
            walk_at "zb"
            refine ⟨G16, _, m2, bitsOf some9, 0, _, w16, rfl, hmd.up f16, h01, by omega, by decide, by omega, fun p17 G17 H17 e17 w17 h17 => ?_⟩
            walk_at "zb"
            refine st_ixT (v := .str (ans (bitsOf some9) 0 ((bitsOf some9).length + 1)).1) (SqT.of (w17.at h17)) rfl ?_
            rw [ans_more]
            walk_at "zb"
            rw [ne_self]
            walk_at "zb"
            exact st_btw (by walk_at "sm") (Wd.drop1 w17) ⟨rfl, _, _, _, _, _, _, _, _, _, rfl⟩
    · rintro σ' G5 W5 H5 e5 w5 ⟨rfl, x1, x2, x3, x4, x5, x6, x7, x8, x9, rfl⟩
      clear w0
      walk_at "zb"
      refine mk_bits (bs := []) w5 (.inr (T.dt_Bits___init___values _)) (fun _ h => nomatch h) (by decide) fun m G6 H6 e6 w6 hm => ?_
      obtain ⟨dx, t, hx, ht⟩ := id hm
      walk_at "zb"
      refine ⟨m, dx, _, rfl, w6.at hx, rfl, ?_⟩
      walk_at "zb"
      refine ⟨G6, _, m, [], 0, 0, w6, rfl, hm, (fun _ h => nomatch h), by decide, by decide, by decide, .inl ⟨by decide, fun G7 H7 e7 w7 => ?_⟩⟩
      rw [part00]
      walk_at "zb"
      exact k H7

end
theorem all_mk {l : PySem.W.OpenLaw} {w : World} {K : PySem.W.Frag} {h : Heap} {mg : Str → Option Value} {fa : Addr} (X : K.In h) (G : h.Ns mainGlobals mg) (hfa : mg "law" = some (.ref fa))
    {CNoBit : Addr} {nmNoBit qnNoBit : Str} {NNoBit : Addr} {bsNoBit : List Value} {snNoBit : List Str} {subNoBit : List Value} {abNoBit : Bool} {colNoBit : Option Bool} {ddNoBit : Option Addr} {k0NoBit k1NoBit k2NoBit k3NoBit k5NoBit : Option Value}
    {A0 : Addr} {od0 an0 : Option Addr} {sl0 : Array (Option Value)} {oc0 kV0 dc0 pm0 cd0 ct0 : Value}
    {A1 : Addr} {od1 an1 : Option Addr} {sl1 : Array (Option Value)} {oc1 kV1 dc1 pm1 cd1 ct1 : Value}
    {A2 : Addr} {od2 an2 : Option Addr} {sl2 : Array (Option Value)} {oc2 kV2 dc2 pm2 cd2 ct2 : Value}
    {A3 : Addr} {od3 an3 : Option Addr} {sl3 : Array (Option Value)} {oc3 kV3 dc3 pm3 cd3 ct3 : Value}
    {A4 : Addr} {od4 an4 : Option Addr} {sl4 : Array (Option Value)} {oc4 kV4 dc4 pm4 cd4 ct4 : Value}
    {CBits : Addr}
    {tkBits_BYTE : Tok}
    {A5 : Addr} {od5 an5 : Option Addr} {sl5 : Array (Option Value)} {oc5 kV5 dc5 pm5 cd5 ct5 : Value}
    {T5 : Addr} {oT5 : Value} {odT5 : Option Addr} {slT5 : Array (Option Value)} {nT5 : Nat}
    {KP5_0 : Addr} {pn5_0 : Nat} {pq5_0 : Array (Option Value)} {pd5_0 : Option Addr}
    {A6 : Addr} {od6 an6 : Option Addr} {sl6 : Array (Option Value)} {oc6 kV6 dc6 pm6 cd6 ct6 : Value}
    {P6 : Addr} {R6 : List Value}
    {A7 : Addr} {od7 an7 : Option Addr} {sl7 : Array (Option Value)} {oc7 kV7 dc7 pm7 cd7 ct7 : Value}
    {A8 : Addr} {od8 an8 : Option Addr} {sl8 : Array (Option Value)} {oc8 kV8 dc8 pm8 cd8 ct8 : Value}
    {A9 : Addr} {od9 an9 : Option Addr} {sl9 : Array (Option Value)} {oc9 kV9 dc9 pm9 cd9 ct9 : Value}
    {A10 : Addr} {od10 an10 : Option Addr} {sl10 : Array (Option Value)} {oc10 kV10 dc10 pm10 cd10 ct10 : Value}
    {A11 : Addr} {od11 an11 : Option Addr} {sl11 : Array (Option Value)} {oc11 kV11 dc11 pm11 cd11 ct11 : Value}
    {A12 : Addr} {od12 an12 : Option Addr} {sl12 : Array (Option Value)} {oc12 kV12 dc12 pm12 cd12 ct12 : Value}
    {A13 : Addr} {od13 an13 : Option Addr} {sl13 : Array (Option Value)} {oc13 kV13 dc13 pm13 cd13 ct13 : Value}
    {tc0 : Tok}
    (xg_NoBit : PySem.W.nsIn K mainGlobals "NoBit" = some (some (.ref CNoBit)))
    (xl_NoBit : K.lookup CNoBit = some (excClassObj nmNoBit qnNoBit CNoBit NNoBit bsNoBit tl_IndexError true snNoBit subNoBit abNoBit colNoBit ddNoBit k0NoBit k1NoBit k2NoBit k3NoBit k5NoBit "IndexError.__new__"))
    (xsa_NoBit : PySem.W.findIn K (.ref CNoBit) "__setattr__" = some (some (.builtin "object.__setattr__")))
    (xga_NoBit : PySem.W.findIn K (.ref CNoBit) "__getattribute__" = some (some (.builtin "BaseException.__getattribute__")))
    (xgg_NoBit : PySem.W.findIn K (.ref CNoBit) "__getattr__" = some none)
    (xno_NoBit : PySem.W.findIn K (.ref CNoBit) "index" = some none)
    (xk_NoBit : PySem.W.keepIn K (.ref CNoBit) = true)
    (xe_NoBit : PySem.W.subIn K (.ref CNoBit) (.type "BaseException") = some true)
    (xt_NoBit : PySem.W.typeIn K (.ref CNoBit) = some (.type "type"))
    (xh_NoBit : PySem.W.hasDictIn K CNoBit = true)
    (xs_NoBit : PySem.W.subIn K (.ref CNoBit) (.ref CNoBit) = some true)
    (xca_NoBit : PySem.W.findIn K (.ref CNoBit) "__class__" = some (some (.builtin "object.__class__")))
    (xv_NoBit : PySem.W.subIn K (.ref CNoBit) (.type "IndexError") = some true)
    (xcm_NoBit : PySem.W.mroIn K CNoBit (.type "object") = some true)
    (a0 : PySem.W.findIn K (.ref CNoBit) "__init__" = some (some (.ref A0)))
    (u0 : PySem.W.typeIn K (.ref A0) = some (.type "function"))
    (l0 : K.lookup A0 = some ⟨oc0, od0, .func (PySem.W.fnOf "__init__" "NoBit.__init__" (defArgs s_NoBit___init__) (defBody s_NoBit___init__) (defScope s_NoBit___init__) .none kV0 dc0 pm0 an0 cd0 ct0), sl0⟩)
    (c0 : PySem.W.codeIn K cd0 "NoBit.__init__" = true) (k0 : PySem.W.keepIn K (.ref A0) = true)
    (a1 : PySem.W.nsIn K mainGlobals "is_integer" = some (some (.ref A1)))
    (l1 : K.lookup A1 = some ⟨oc1, od1, .func (PySem.W.fnOf "is_integer" "is_integer" (defArgs s_is_integer) (defBody s_is_integer) (defScope s_is_integer) .none kV1 dc1 pm1 an1 cd1 ct1), sl1⟩)
    (c1 : PySem.W.codeIn K cd1 "is_integer" = true) (k1 : PySem.W.keepIn K (.ref A1) = true)
    (a2 : PySem.W.nsIn K mainGlobals "in_range" = some (some (.ref A2)))
    (l2 : K.lookup A2 = some ⟨oc2, od2, .func (PySem.W.fnOf "in_range" "in_range" (defArgs s_in_range) (defBody s_in_range) (defScope s_in_range) .none kV2 dc2 pm2 an2 cd2 ct2), sl2⟩)
    (c2 : PySem.W.codeIn K cd2 "in_range" = true) (k2 : PySem.W.keepIn K (.ref A2) = true)
    (a3 : PySem.W.nsIn K mainGlobals "is_byte" = some (some (.ref A3)))
    (l3 : K.lookup A3 = some ⟨oc3, od3, .func (PySem.W.fnOf "is_byte" "is_byte" (defArgs s_is_byte) (defBody s_is_byte) (defScope s_is_byte) .none kV3 dc3 pm3 an3 cd3 ct3), sl3⟩)
    (c3 : PySem.W.codeIn K cd3 "is_byte" = true) (k3 : PySem.W.keepIn K (.ref A3) = true)
    (a4 : PySem.W.nsIn K mainGlobals "checked_data" = some (some (.ref A4)))
    (l4 : K.lookup A4 = some ⟨oc4, od4, .func (PySem.W.fnOf "checked_data" "checked_data" (defArgs s_checked_data) (defBody s_checked_data) (defScope s_checked_data) .none kV4 dc4 pm4 an4 cd4 ct4), sl4⟩)
    (c4 : PySem.W.codeIn K cd4 "checked_data" = true) (k4 : PySem.W.keepIn K (.ref A4) = true)
    (yg_Bits : PySem.W.nsIn K mainGlobals "Bits" = some (some (.ref CBits)))
    (ypg_Bits : PySem.W.plainGet K CBits Str.empty = true)
    (yhd_Bits : PySem.W.hasDictIn K CBits = true)
    (ypo_Bits : PySem.W.plainOver K CBits = true)
    (ysa_Bits : PySem.W.findIn K (.ref CBits) "__setattr__" = some (some (.builtin "object.__setattr__")))
    (ymk_Bits : PySem.W.makesIn K CBits = true)
    (ykc_Bits : PySem.W.keepIn K (.ref CBits) = true)
    (yf_row_Bits : PySem.W.findIn K (.ref CBits) "row" = some none)
    (yrd_Bits : PySem.W.readsIn K CBits (.type "type") = true)
    (yra_Bits : PySem.W.specialIn K (.ref CBits) "__getattribute__" = some (some (.builtin "type.__getattribute__")))
    (yv_BYTE_Bits : PySem.W.findCls K (.ref CBits) (.type "type") "BYTE" = some (.val (.int 8 tkBits_BYTE)))
    (a5 : PySem.W.findIn K (.ref CBits) "__init__" = some (some (.ref A5)))
    (u5 : PySem.W.isFn K (.ref A5) = true)
    (l5 : K.lookup A5 = some ⟨oc5, od5, .func (PySem.W.fnOf "__init__" "Bits.__init__" (defArgs s_Bits___init__) (defBody s_Bits___init__) (defScope s_Bits___init__) (.ref T5) kV5 dc5 pm5 an5 cd5 ct5), sl5⟩)
    (lT5 : K.lookup T5 = some ⟨oT5, odT5, .seq #[(.ref KP5_0)] nT5, slT5⟩)
    (pl5_0 : K.lookup KP5_0 = some ⟨.type "tuple", pd5_0, .seq #[] pn5_0, pq5_0⟩)
    (c5 : PySem.W.codeIn K cd5 "Bits.__init__" = true) (k5 : PySem.W.keepIn K (.ref A5) = true)
    (a6 : PySem.W.findCls K (.ref CBits) (.type "type") "of_data" = some (.get (.builtin "classmethod.__get__") (.ref P6) .none (.ref CBits)))
    (u6 : PySem.W.recIn K P6 "classmethod" = some (.ref A6 :: R6)) (w6 : PySem.W.fnIn K A6 = true)
    (l6 : K.lookup A6 = some ⟨oc6, od6, .func (PySem.W.fnOf "of_data" "Bits.of_data" (defArgs s_Bits_of_data) (defBody s_Bits_of_data) (defScope s_Bits_of_data) .none kV6 dc6 pm6 an6 cd6 ct6), sl6⟩)
    (c6 : PySem.W.codeIn K cd6 "Bits.of_data" = true) (k6 : PySem.W.keepIn K (.ref A6) = true)
    (a7 : PySem.W.findIn K (.ref CBits) "__len__" = some (some (.ref A7)))
    (u7 : PySem.W.isFn K (.ref A7) = true)
    (l7 : K.lookup A7 = some ⟨oc7, od7, .func (PySem.W.fnOf "__len__" "Bits.__len__" (defArgs s_Bits___len__) (defBody s_Bits___len__) (defScope s_Bits___len__) .none kV7 dc7 pm7 an7 cd7 ct7), sl7⟩)
    (c7 : PySem.W.codeIn K cd7 "Bits.__len__" = true) (k7 : PySem.W.keepIn K (.ref A7) = true)
    (a8 : PySem.W.findIn K (.ref CBits) "field" = some (some (.ref A8)))
    (u8 : PySem.W.isFn K (.ref A8) = true)
    (l8 : K.lookup A8 = some ⟨oc8, od8, .func (PySem.W.fnOf "field" "Bits.field" (defArgs s_Bits_field) (defBody s_Bits_field) (defScope s_Bits_field) .none kV8 dc8 pm8 an8 cd8 ct8), sl8⟩)
    (c8 : PySem.W.codeIn K cd8 "Bits.field" = true) (k8 : PySem.W.keepIn K (.ref A8) = true)
    (a9 : PySem.W.nsIn K mainGlobals "_law_bag" = some (some (.ref A9)))
    (l9 : K.lookup A9 = some ⟨oc9, od9, .func (PySem.W.fnOf "_law_bag" "_law_bag" (defArgs s__law_bag) (defBody s__law_bag) (defScope s__law_bag) .none kV9 dc9 pm9 an9 cd9 ct9), sl9⟩)
    (c9 : PySem.W.codeIn K cd9 "_law_bag" = true) (k9 : PySem.W.keepIn K (.ref A9) = true)
    (a10 : PySem.W.nsIn K mainGlobals "_law_take" = some (some (.ref A10)))
    (l10 : K.lookup A10 = some ⟨oc10, od10, .func (PySem.W.fnOf "_law_take" "_law_take" (defArgs s__law_take) (defBody s__law_take) (defScope s__law_take) .none kV10 dc10 pm10 an10 cd10 ct10), sl10⟩)
    (c10 : PySem.W.codeIn K cd10 "_law_take" = true) (k10 : PySem.W.keepIn K (.ref A10) = true)
    (a11 : PySem.W.nsIn K mainGlobals "_law_told" = some (some (.ref A11)))
    (l11 : K.lookup A11 = some ⟨oc11, od11, .func (PySem.W.fnOf "_law_told" "_law_told" (defArgs s__law_told) (defBody s__law_told) (defScope s__law_told) .none kV11 dc11 pm11 an11 cd11 ct11), sl11⟩)
    (c11 : PySem.W.codeIn K cd11 "_law_told" = true) (k11 : PySem.W.keepIn K (.ref A11) = true)
    (a12 : PySem.W.nsIn K mainGlobals "_law_due" = some (some (.ref A12)))
    (l12 : K.lookup A12 = some ⟨oc12, od12, .func (PySem.W.fnOf "_law_due" "_law_due" (defArgs s__law_due) (defBody s__law_due) (defScope s__law_due) .none kV12 dc12 pm12 an12 cd12 ct12), sl12⟩)
    (c12 : PySem.W.codeIn K cd12 "_law_due" = true) (k12 : PySem.W.keepIn K (.ref A12) = true)
    (a13 : PySem.W.nsIn K mainGlobals "law" = some (some (.ref A13)))
    (l13 : K.lookup A13 = some ⟨oc13, od13, .func (PySem.W.fnOf "law" "law" (defArgs s_law) (defBody s_law) (defScope s_law) .none kV13 dc13 pm13 an13 cd13 ct13), sl13⟩)
    (c13 : PySem.W.codeIn K cd13 "law" = true) (k13 : PySem.W.keepIn K (.ref A13) = true)
    (co0 : PySem.W.nsIn K mainGlobals "MOST_DATA" = some (some (.int 70000 tc0)))
    (z_IndexError : PySem.W.nsIn K mainGlobals "IndexError" = some none)
    (z_isinstance : PySem.W.nsIn K mainGlobals "isinstance" = some none)
    (z_int : PySem.W.nsIn K mainGlobals "int" = some none)
    (z_bool : PySem.W.nsIn K mainGlobals "bool" = some none)
    (z_enumerate : PySem.W.nsIn K mainGlobals "enumerate" = some none)
    (z_list : PySem.W.nsIn K mainGlobals "list" = some none)
    (z_len : PySem.W.nsIn K mainGlobals "len" = some none)
    (z_tuple : PySem.W.nsIn K mainGlobals "tuple" = some none)
    (z_range : PySem.W.nsIn K mainGlobals "range" = some none)
    (z_sum : PySem.W.nsIn K mainGlobals "sum" = some none)
    (z_max : PySem.W.nsIn K mainGlobals "max" = some none)
    (z_abs : PySem.W.nsIn K mainGlobals "abs" = some none)
    (z_min : PySem.W.nsIn K mainGlobals "min" = some none)
    (ecn : PySem.W.specialIn K (.builtin "object.__class__") "__get__" = some (some (.builtin "getset_descriptor.__get__")))
    (ect : PySem.W.takesIn K (.builtin "object.__class__") = some true)
    (evv_IndexError : PySem.W.findCls K (.type "IndexError") (.type "type") "__init__" = some (.val (.builtin "IndexError.__init__"))) :
    ∃ fd : FuncData, (∀ (s : Shared) (v : Value), BindsTo s fd ⟨[v], []⟩ [("_law_script", v)]) ∧ ∀ base : Heap, K.In base → base.Ns mainGlobals mg → FnG l.prog w K mg base 7 fa fd ["_law_script"] (spLaw K) := by
  have e := hfa.symm.trans (PySem.W.mg_of X G a13)
  cases e
  have F0 : FunD K "__init__" "NoBit.__init__" (defArgs s_NoBit___init__) (defBody s_NoBit___init__) (defScope s_NoBit___init__) [] [] A0 (PySem.W.fnOf "__init__" "NoBit.__init__" (defArgs s_NoBit___init__) (defBody s_NoBit___init__) (defScope s_NoBit___init__) .none kV0 dc0 pm0 an0 cd0 ct0) :=
    ⟨⟨oc0, od0, .none, kV0, dc0, pm0, an0, cd0, ct0, sl0, rfl, l0, c0, (.inl ⟨rfl, rfl⟩), .inl rfl⟩, k0⟩
  have F1 : FunD K "is_integer" "is_integer" (defArgs s_is_integer) (defBody s_is_integer) (defScope s_is_integer) [] [] A1 (PySem.W.fnOf "is_integer" "is_integer" (defArgs s_is_integer) (defBody s_is_integer) (defScope s_is_integer) .none kV1 dc1 pm1 an1 cd1 ct1) :=
    ⟨⟨oc1, od1, .none, kV1, dc1, pm1, an1, cd1, ct1, sl1, rfl, l1, c1, (.inl ⟨rfl, rfl⟩), .inl rfl⟩, k1⟩
  have F2 : FunD K "in_range" "in_range" (defArgs s_in_range) (defBody s_in_range) (defScope s_in_range) [] [] A2 (PySem.W.fnOf "in_range" "in_range" (defArgs s_in_range) (defBody s_in_range) (defScope s_in_range) .none kV2 dc2 pm2 an2 cd2 ct2) :=
    ⟨⟨oc2, od2, .none, kV2, dc2, pm2, an2, cd2, ct2, sl2, rfl, l2, c2, (.inl ⟨rfl, rfl⟩), .inl rfl⟩, k2⟩
  have F3 : FunD K "is_byte" "is_byte" (defArgs s_is_byte) (defBody s_is_byte) (defScope s_is_byte) [] [] A3 (PySem.W.fnOf "is_byte" "is_byte" (defArgs s_is_byte) (defBody s_is_byte) (defScope s_is_byte) .none kV3 dc3 pm3 an3 cd3 ct3) :=
    ⟨⟨oc3, od3, .none, kV3, dc3, pm3, an3, cd3, ct3, sl3, rfl, l3, c3, (.inl ⟨rfl, rfl⟩), .inl rfl⟩, k3⟩
  have F4 : FunD K "checked_data" "checked_data" (defArgs s_checked_data) (defBody s_checked_data) (defScope s_checked_data) [] [] A4 (PySem.W.fnOf "checked_data" "checked_data" (defArgs s_checked_data) (defBody s_checked_data) (defScope s_checked_data) .none kV4 dc4 pm4 an4 cd4 ct4) :=
    ⟨⟨oc4, od4, .none, kV4, dc4, pm4, an4, cd4, ct4, sl4, rfl, l4, c4, (.inl ⟨rfl, rfl⟩), .inl rfl⟩, k4⟩
  have F5 : FunD K "__init__" "Bits.__init__" (defArgs s_Bits___init__) (defBody s_Bits___init__) (defScope s_Bits___init__) [.ref KP5_0] [] A5 (PySem.W.fnOf "__init__" "Bits.__init__" (defArgs s_Bits___init__) (defBody s_Bits___init__) (defScope s_Bits___init__) (.ref T5) kV5 dc5 pm5 an5 cd5 ct5) :=
    ⟨⟨oc5, od5, (.ref T5), kV5, dc5, pm5, an5, cd5, ct5, sl5, rfl, l5, c5, (.inr ⟨by simp, T5, _, [(.ref KP5_0)], nT5, rfl, lT5, rfl, (.cons rfl .nil)⟩), .inl rfl⟩, k5⟩
  have F6 : FunD K "of_data" "Bits.of_data" (defArgs s_Bits_of_data) (defBody s_Bits_of_data) (defScope s_Bits_of_data) [] [] A6 (PySem.W.fnOf "of_data" "Bits.of_data" (defArgs s_Bits_of_data) (defBody s_Bits_of_data) (defScope s_Bits_of_data) .none kV6 dc6 pm6 an6 cd6 ct6) :=
    ⟨⟨oc6, od6, .none, kV6, dc6, pm6, an6, cd6, ct6, sl6, rfl, l6, c6, (.inl ⟨rfl, rfl⟩), .inl rfl⟩, k6⟩
  have F7 : FunD K "__len__" "Bits.__len__" (defArgs s_Bits___len__) (defBody s_Bits___len__) (defScope s_Bits___len__) [] [] A7 (PySem.W.fnOf "__len__" "Bits.__len__" (defArgs s_Bits___len__) (defBody s_Bits___len__) (defScope s_Bits___len__) .none kV7 dc7 pm7 an7 cd7 ct7) :=
    ⟨⟨oc7, od7, .none, kV7, dc7, pm7, an7, cd7, ct7, sl7, rfl, l7, c7, (.inl ⟨rfl, rfl⟩), .inl rfl⟩, k7⟩
  have F8 : FunD K "field" "Bits.field" (defArgs s_Bits_field) (defBody s_Bits_field) (defScope s_Bits_field) [] [] A8 (PySem.W.fnOf "field" "Bits.field" (defArgs s_Bits_field) (defBody s_Bits_field) (defScope s_Bits_field) .none kV8 dc8 pm8 an8 cd8 ct8) :=
    ⟨⟨oc8, od8, .none, kV8, dc8, pm8, an8, cd8, ct8, sl8, rfl, l8, c8, (.inl ⟨rfl, rfl⟩), .inl rfl⟩, k8⟩
  have F9 : FunD K "_law_bag" "_law_bag" (defArgs s__law_bag) (defBody s__law_bag) (defScope s__law_bag) [] [] A9 (PySem.W.fnOf "_law_bag" "_law_bag" (defArgs s__law_bag) (defBody s__law_bag) (defScope s__law_bag) .none kV9 dc9 pm9 an9 cd9 ct9) :=
    ⟨⟨oc9, od9, .none, kV9, dc9, pm9, an9, cd9, ct9, sl9, rfl, l9, c9, (.inl ⟨rfl, rfl⟩), .inl rfl⟩, k9⟩
  have F10 : FunD K "_law_take" "_law_take" (defArgs s__law_take) (defBody s__law_take) (defScope s__law_take) [] [] A10 (PySem.W.fnOf "_law_take" "_law_take" (defArgs s__law_take) (defBody s__law_take) (defScope s__law_take) .none kV10 dc10 pm10 an10 cd10 ct10) :=
    ⟨⟨oc10, od10, .none, kV10, dc10, pm10, an10, cd10, ct10, sl10, rfl, l10, c10, (.inl ⟨rfl, rfl⟩), .inl rfl⟩, k10⟩
  have F11 : FunD K "_law_told" "_law_told" (defArgs s__law_told) (defBody s__law_told) (defScope s__law_told) [] [] A11 (PySem.W.fnOf "_law_told" "_law_told" (defArgs s__law_told) (defBody s__law_told) (defScope s__law_told) .none kV11 dc11 pm11 an11 cd11 ct11) :=
    ⟨⟨oc11, od11, .none, kV11, dc11, pm11, an11, cd11, ct11, sl11, rfl, l11, c11, (.inl ⟨rfl, rfl⟩), .inl rfl⟩, k11⟩
  have F12 : FunD K "_law_due" "_law_due" (defArgs s__law_due) (defBody s__law_due) (defScope s__law_due) [] [] A12 (PySem.W.fnOf "_law_due" "_law_due" (defArgs s__law_due) (defBody s__law_due) (defScope s__law_due) .none kV12 dc12 pm12 an12 cd12 ct12) :=
    ⟨⟨oc12, od12, .none, kV12, dc12, pm12, an12, cd12, ct12, sl12, rfl, l12, c12, (.inl ⟨rfl, rfl⟩), .inl rfl⟩, k12⟩
  have F13 : FunD K "law" "law" (defArgs s_law) (defBody s_law) (defScope s_law) [] [] fa (PySem.W.fnOf "law" "law" (defArgs s_law) (defBody s_law) (defScope s_law) .none kV13 dc13 pm13 an13 cd13 ct13) :=
    ⟨⟨oc13, od13, .none, kV13, dc13, pm13, an13, cd13, ct13, sl13, rfl, l13, c13, (.inl ⟨rfl, rfl⟩), .inl rfl⟩, k13⟩
  have T : Txt K mg ⟨A0, (PySem.W.fnOf "__init__" "NoBit.__init__" (defArgs s_NoBit___init__) (defBody s_NoBit___init__) (defScope s_NoBit___init__) .none kV0 dc0 pm0 an0 cd0 ct0),
      A1, (PySem.W.fnOf "is_integer" "is_integer" (defArgs s_is_integer) (defBody s_is_integer) (defScope s_is_integer) .none kV1 dc1 pm1 an1 cd1 ct1),
      A2, (PySem.W.fnOf "in_range" "in_range" (defArgs s_in_range) (defBody s_in_range) (defScope s_in_range) .none kV2 dc2 pm2 an2 cd2 ct2),
      A3, (PySem.W.fnOf "is_byte" "is_byte" (defArgs s_is_byte) (defBody s_is_byte) (defScope s_is_byte) .none kV3 dc3 pm3 an3 cd3 ct3),
      A4, (PySem.W.fnOf "checked_data" "checked_data" (defArgs s_checked_data) (defBody s_checked_data) (defScope s_checked_data) .none kV4 dc4 pm4 an4 cd4 ct4),
      A5, (PySem.W.fnOf "__init__" "Bits.__init__" (defArgs s_Bits___init__) (defBody s_Bits___init__) (defScope s_Bits___init__) (.ref T5) kV5 dc5 pm5 an5 cd5 ct5),
      A6, (PySem.W.fnOf "of_data" "Bits.of_data" (defArgs s_Bits_of_data) (defBody s_Bits_of_data) (defScope s_Bits_of_data) .none kV6 dc6 pm6 an6 cd6 ct6),
      A7, (PySem.W.fnOf "__len__" "Bits.__len__" (defArgs s_Bits___len__) (defBody s_Bits___len__) (defScope s_Bits___len__) .none kV7 dc7 pm7 an7 cd7 ct7),
      A8, (PySem.W.fnOf "field" "Bits.field" (defArgs s_Bits_field) (defBody s_Bits_field) (defScope s_Bits_field) .none kV8 dc8 pm8 an8 cd8 ct8),
      A9, (PySem.W.fnOf "_law_bag" "_law_bag" (defArgs s__law_bag) (defBody s__law_bag) (defScope s__law_bag) .none kV9 dc9 pm9 an9 cd9 ct9),
      A10, (PySem.W.fnOf "_law_take" "_law_take" (defArgs s__law_take) (defBody s__law_take) (defScope s__law_take) .none kV10 dc10 pm10 an10 cd10 ct10),
      A11, (PySem.W.fnOf "_law_told" "_law_told" (defArgs s__law_told) (defBody s__law_told) (defScope s__law_told) .none kV11 dc11 pm11 an11 cd11 ct11),
      A12, (PySem.W.fnOf "_law_due" "_law_due" (defArgs s__law_due) (defBody s__law_due) (defScope s__law_due) .none kV12 dc12 pm12 an12 cd12 ct12),
      fa, (PySem.W.fnOf "law" "law" (defArgs s_law) (defBody s_law) (defScope s_law) .none kV13 dc13 pm13 an13 cd13 ct13),
      KP5_0,
      CNoBit,
      CBits,
      P6,
      tkBits_BYTE,
      tc0⟩ :=
   ⟨F0,
    F0.bindsN fun _ _ _ _ _ _ us hl => match us, hl with | [_, _], _ => rfl,
    F1,
    F1.bindsN fun _ _ _ _ _ _ us hl => match us, hl with | [_], _ => rfl,
    PySem.W.mg_of X G a1,
    F2,
    F2.bindsN fun _ _ _ _ _ _ us hl => match us, hl with | [_, _, _], _ => rfl,
    PySem.W.mg_of X G a2,
    F3,
    F3.bindsN fun _ _ _ _ _ _ us hl => match us, hl with | [_], _ => rfl,
    PySem.W.mg_of X G a3,
    F4,
    F4.bindsN fun _ _ _ _ _ _ us hl => match us, hl with | [_], _ => rfl,
    PySem.W.mg_of X G a4,
    F5,
    fun H => .inr ⟨_, #[], pn5_0, pl5_0, rfl, rfl, Nat.zero_le _, .nil⟩,
    bAll (F5.binds1 (ps := sP_Bits___init__) 2 1 (by simp) rfl fun _ _ _ _ _ _ _ us its hl hi => match us, its, hl, hi with | [_, _], [_], _, _ => ⟨_, rfl, rfl⟩),
    F6,
    F6.bindsN fun _ _ _ _ _ _ us hl => match us, hl with | [_, _], _ => rfl,
    F7,
    F7.bindsN fun _ _ _ _ _ _ us hl => match us, hl with | [_], _ => rfl,
    F8,
    F8.bindsN fun _ _ _ _ _ _ us hl => match us, hl with | [_, _, _], _ => rfl,
    F9,
    F9.bindsN fun _ _ _ _ _ _ us hl => match us, hl with | [_, _], _ => rfl,
    PySem.W.mg_of X G a9,
    F10,
    F10.bindsN fun _ _ _ _ _ _ us hl => match us, hl with | [_, _], _ => rfl,
    PySem.W.mg_of X G a10,
    F11,
    F11.bindsN fun _ _ _ _ _ _ us hl => match us, hl with | [_, _, _], _ => rfl,
    PySem.W.mg_of X G a11,
    F12,
    F12.bindsN fun _ _ _ _ _ _ us hl => match us, hl with | [_, _, _], _ => rfl,
    PySem.W.mg_of X G a12,
    F13,
    F13.bindsN fun _ _ _ _ _ _ us hl => match us, hl with | [_], _ => rfl,
    PySem.W.mg_of X G a13,
    F5.binds1 (ps := sP_Bits___init__) 1 0 (by simp) rfl fun _ _ _ _ _ _ _ us its hl hi => match us, its, hl, hi with | [_], [_], _, _ => ⟨_, rfl, rfl⟩,
    PySem.W.mg_of X G co0,
    PySem.W.mg_none_of X G z_IndexError,
    PySem.W.mg_none_of X G z_isinstance,
    PySem.W.mg_none_of X G z_int,
    PySem.W.mg_none_of X G z_bool,
    PySem.W.mg_none_of X G z_enumerate,
    PySem.W.mg_none_of X G z_list,
    PySem.W.mg_none_of X G z_len,
    PySem.W.mg_none_of X G z_tuple,
    PySem.W.mg_none_of X G z_range,
    PySem.W.mg_none_of X G z_sum,
    PySem.W.mg_none_of X G z_max,
    PySem.W.mg_none_of X G z_abs,
    PySem.W.mg_none_of X G z_min,
    ⟨PySem.W.mg_of X G xg_NoBit, ⟨⟨nmNoBit, qnNoBit, NNoBit, bsNoBit, snNoBit, subNoBit, abNoBit, colNoBit, ddNoBit, k0NoBit, k1NoBit, k2NoBit, k3NoBit, k5NoBit, xl_NoBit⟩, xsa_NoBit, xe_NoBit, xt_NoBit, xk_NoBit, bx_IndexError.fac, bx_IndexError.pass, bx_IndexError.hob⟩, ⟨xga_NoBit, xgg_NoBit, xe_NoBit, xh_NoBit⟩, ⟨xga_NoBit, xgg_NoBit, xe_NoBit, xh_NoBit, xca_NoBit, ecn, ect, xcm_NoBit⟩, xno_NoBit, a0, u0, PySem.W.exm_ref xe_NoBit xh_NoBit xt_NoBit xs_NoBit, kvB_of bx_IndexError.kmt xv_NoBit⟩,
    PySem.W.mg_of X G yg_Bits,
    ⟨ypg_Bits, yhd_Bits, ypo_Bits, ysa_Bits⟩,
    yf_row_Bits,
    ⟨ymk_Bits, a5, u5, ykc_Bits⟩,
    ⟨a6, ⟨_, u6⟩, w6⟩,
    ⟨a7, u7, k7⟩,
    ⟨a8, u8, k8⟩,
    ⟨yrd_Bits, yra_Bits⟩,
    ⟨yv_BYTE_Bits, ⟨_, rfl⟩⟩,
    evv_IndexError⟩
  exact ⟨_, fun s v => F13.bindsA (ps := ["_law_script"]) (fun _ _ _ _ _ _ us hl => match us, hl with | [_], _ => rfl) s [v] rfl, fun base _ _ => ok_law T⟩
theorem walk {l : PySem.W.OpenLaw} {q : Program} {loose : List Str} {XP : (Str → Option Value) → Heap → Prop} {YP : World → Heap → Prop} {d : DefRec} {K : Params → PySem.W.Frag}
    (hn : l.most = some 63) (hdf : d.params.defaults = []) (hY : ∀ (w : World) (h : Heap), YP w h → (K w.params).In h)
    (F : ∀ (w : World) (mg : Str → Option Value) (fa : Addr) (h : Heap), (K w.params).In h → h.Ns mainGlobals mg → mg d.name = some (.ref fa) →
      ∃ fd : FuncData, (∀ (s : Shared) (u : Value), BindsTo s fd ⟨[u], []⟩ [("_law_script", u)]) ∧
        ∀ base : Heap, (K w.params).In base → base.Ns mainGlobals mg → FnG l.prog w (K w.params) mg base 7 fa fd ["_law_script"] (spLaw (K w.params))) :
    PySem.W.WalkO q loose XP YP l.row.toRowW d [] (fun f vs => PySem.call f vs) :=
  walk_G (n := 63) (k := 7) (x := "_law_script") (sp := fun w => spLaw (K w.params)) hn (by decide) hdf ⟨rfl, by decide, by decide⟩ hY F
    (fun _ _ a ns hl _ hS => ⟨a, ns, rfl, hS, hl, fun _ => rfl⟩)
end Z
open PySem PySem.W PyProof.Rows
set_option maxRecDepth 100000 in
set_option maxHeartbeats 0 in
theorem PySem.Challenge.cw_deflatehall_k03_fields_holds : PySem.Challenge.rw_deflatehall_k03_fields.Holds := by
  w_on; o_law; k_head; (case hw => w_witness2)
  k_fill
  refine Z.walk (l := PySem.Challenge.rw_deflatehall_k03_fields) rfl rfl (fun w h Y => PySem.W.kIn_of Y) ?F
  case F =>
    intro w mg fa h KX G hmg
    refine' Z.all_mk KX G hmg ?xg_NoBit ?xl_NoBit ?xsa_NoBit ?xga_NoBit ?xgg_NoBit ?xno_NoBit ?xk_NoBit ?xe_NoBit ?xt_NoBit ?xh_NoBit ?xs_NoBit ?xca_NoBit ?xv_NoBit ?xcm_NoBit ?a0 ?u0 ?l0 ?c0 ?k0 ?a1 ?l1 ?c1 ?k1 ?a2 ?l2 ?c2 ?k2 ?a3 ?l3 ?c3 ?k3 ?a4 ?l4 ?c4 ?k4 ?yg_Bits ?ypg_Bits ?yhd_Bits ?ypo_Bits ?ysa_Bits ?ymk_Bits ?ykc_Bits ?yf_row_Bits ?yrd_Bits ?yra_Bits ?yv_BYTE_Bits ?a5 ?u5 ?l5 ?lT5 ?pl5_0 ?c5 ?k5 ?a6 ?u6 ?w6 ?l6 ?c6 ?k6 ?a7 ?u7 ?l7 ?c7 ?k7 ?a8 ?u8 ?l8 ?c8 ?k8 ?a9 ?l9 ?c9 ?k9 ?a10 ?l10 ?c10 ?k10 ?a11 ?l11 ?c11 ?k11 ?a12 ?l12 ?c12 ?k12 ?a13 ?l13 ?c13 ?k13 ?co0 ?z_IndexError ?z_isinstance ?z_int ?z_bool ?z_enumerate ?z_list ?z_len ?z_tuple ?z_range ?z_sum ?z_max ?z_abs ?z_min ?ecn ?ect ?evv_IndexError
    (case xg_NoBit => k_is)
    (case xl_NoBit => k_is)
    (case xsa_NoBit => k_is)
    (case xga_NoBit => k_is)
    (case xgg_NoBit => k_is)
    (case xno_NoBit => k_is)
    (case xk_NoBit => k_is)
    (case xe_NoBit => k_is)
    (case xt_NoBit => k_is)
    (case xh_NoBit => k_is)
    (case xs_NoBit => k_is)
    (case xca_NoBit => k_is)
    (case xv_NoBit => k_is)
    (case xcm_NoBit => k_is)
    (case a0 => k_is)
    (case u0 => k_is)
    (case l0 => k_is)
    (case c0 => k_is)
    (case k0 => k_is)
    (case a1 => k_is)
    (case l1 => k_is)
    (case c1 => k_is)
    (case k1 => k_is)
    (case a2 => k_is)
    (case l2 => k_is)
    (case c2 => k_is)
    (case k2 => k_is)
    (case a3 => k_is)
    (case l3 => k_is)
    (case c3 => k_is)
    (case k3 => k_is)
    (case a4 => k_is)
    (case l4 => k_is)
    (case c4 => k_is)
    (case k4 => k_is)
    (case yg_Bits => k_is)
    (case ypg_Bits => k_is)
    (case yhd_Bits => k_is)
    (case ypo_Bits => k_is)
    (case ysa_Bits => k_is)
    (case ymk_Bits => k_is)
    (case ykc_Bits => k_is)
    (case yf_row_Bits => k_is)
    (case yrd_Bits => k_is)
    (case yra_Bits => k_is)
    (case yv_BYTE_Bits => k_is)
    (case a5 => k_is)
    (case u5 => k_is)
    (case l5 => k_is)
    (case lT5 => k_is)
    (case pl5_0 => k_is)
    (case c5 => k_is)
    (case k5 => k_is)
    (case a6 => k_is)
    (case u6 => k_is)
    (case w6 => k_is)
    (case l6 => k_is)
    (case c6 => k_is)
    (case k6 => k_is)
    (case a7 => k_is)
    (case u7 => k_is)
    (case l7 => k_is)
    (case c7 => k_is)
    (case k7 => k_is)
    (case a8 => k_is)
    (case u8 => k_is)
    (case l8 => k_is)
    (case c8 => k_is)
    (case k8 => k_is)
    (case a9 => k_is)
    (case l9 => k_is)
    (case c9 => k_is)
    (case k9 => k_is)
    (case a10 => k_is)
    (case l10 => k_is)
    (case c10 => k_is)
    (case k10 => k_is)
    (case a11 => k_is)
    (case l11 => k_is)
    (case c11 => k_is)
    (case k11 => k_is)
    (case a12 => k_is)
    (case l12 => k_is)
    (case c12 => k_is)
    (case k12 => k_is)
    (case a13 => k_is)
    (case l13 => k_is)
    (case c13 => k_is)
    (case k13 => k_is)
    (case co0 => k_is)
    (case z_IndexError => k_is)
    (case z_isinstance => k_is)
    (case z_int => k_is)
    (case z_bool => k_is)
    (case z_enumerate => k_is)
    (case z_list => k_is)
    (case z_len => k_is)
    (case z_tuple => k_is)
    (case z_range => k_is)
    (case z_sum => k_is)
    (case z_max => k_is)
    (case z_abs => k_is)
    (case z_min => k_is)
    (case ecn => k_is)
    (case ect => k_is)
    (case evv_IndexError => k_is)
