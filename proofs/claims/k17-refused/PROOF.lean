import PyProof.Rows.All
import Wide.All
import OpenK.AllK
import Wide.FinOn
import HandS.ForMost
import HandS.Defaults
import HandS.IsInst
import HandS.TupAny
import HandS.Codes
import HandS.Wide
import HandS.Walk
import HandS.More
import KE.GoesMore
import HandS.SetFor
import HandS.Strs
import HandS.ExcInit
import HandS.ExcField
import HandS.ExcIs
import HandS.WordsExc
import HandS.ExcOwn
import KE.KExcInit
import HandS.ClsMeth
import HandS.Star
import KE.KCallOwn
import KE.KFmtOwn
import OpenK.KMeth
import OpenK.KOps
import PyProof.InstEq
import HandS.SortRule
import HandS.Style
import HandS.Iter
import HandS.TupLen
import HandS.TupMul
import KE.KDictDisplayH
import HandS.Text
import PyProof.SliceStr2
import HandS.MakeKw
import HandS.Lambda
import HandS.EndTab
import KE.KNest
import HandS.EndBits
import HandS.FStr
import HandS.Steps
import HandS.Records
import PyProof.Rows.Range3
import KE.SortData
import PyProof.ListIndex
import HandS.SortKw
import HandS.CallLocal
import KE.KDictKeyed
import PySem.Challenge.RW_deflatehall_k17_tokens_refused
set_option Elab.async false
set_option linter.all false
set_option maxRecDepth 100000
set_option maxHeartbeats 4000000
/-! Ghost heaps over the hand layer: what stands for good (G), what may change (W). -/
namespace Z
open PySem PySem.Spec PyProof.Rows L2

/-- it is o -/
def Is (o : HO) : HO → Prop := fun x => x = o
/-- what may change: an address, and what holds of the object there -/
abbrev Wl := List (Addr × (HO → Prop))
structure Wd (G : Hp) (W : Wl) (H : Hp) : Prop where
  ex : Same G H
  own : ∀ p ∈ W, G p.1 = none ∧ ∃ o, H p.1 = some o ∧ p.2 o
  nd : (W.map (·.1)).Nodup

theorem same_upd {H : Hp} {p : Addr} {o : HO} (h : H p = none) : Same H (upd H p o) := fun a u e => by
  rw [upd_ne (ne_of_none e h)]
  exact e
section
variable {G G' H H' : Hp} {W W1 W2 : Wl} {a p : Addr} {o : HO} {P P' : HO → Prop}
theorem Wd.free (w : Wd G W H) (h : H p = none) : G p = none := w.ex.free h
theorem Wd.ext (w : Wd G W H) (e : Same H H') : Wd G W H' :=
  ⟨w.ex.trans e, fun q hq => ⟨(w.own q hq).1, let ⟨o, h1, h2⟩ := (w.own q hq).2; ⟨o, e _ _ h1, h2⟩⟩, w.nd⟩
theorem Wd.at (w : Wd G W H) (h : G a = some o) : H a = some o := w.ex _ _ h
theorem Wd.neOwn (w : Wd G W H) (hp : H p = none) {q : Addr × (HO → Prop)} (hq : q ∈ W) : q.1 ≠ p := by
  obtain ⟨_, o, h, _⟩ := w.own q hq
  exact ne_of_none h hp
/-- a new object that stands for good -/
theorem Wd.new (w : Wd G W H) (hp : H p = none) : Wd (upd G p o) W (upd H p o) := by
  refine ⟨fun b u e => ?_, fun q hq => ?_, w.nd⟩
  · by_cases hb : b = p
    · subst hb
      rw [upd_same] at e ⊢
      exact e
    · rw [upd_ne hb] at e ⊢
      exact w.ex _ _ e
  · have hn := w.neOwn hp hq
    rw [upd_ne hn, upd_ne hn]
    exact w.own q hq
/-- a new object that may change -/
theorem Wd.newM (w : Wd G W H) (hp : H p = none) (h : P o) : Wd G ((p, P) :: W) (upd H p o) := by
  refine ⟨w.ex.trans (same_upd hp), fun q hq => ?_, ?_⟩
  · rcases List.mem_cons.mp hq with rfl | hq
    · exact ⟨w.free hp, o, upd_same, h⟩
    · have hn := w.neOwn hp hq
      rw [upd_ne hn]
      exact w.own q hq
  · rw [List.map_cons, List.nodup_cons]
    refine ⟨fun hm => ?_, w.nd⟩
    obtain ⟨q, hq, e⟩ := List.mem_map.mp hm
    exact w.neOwn hp hq e
theorem mem_mid {α : Type} {A B : List α} {x : α} : x ∈ A ++ x :: B := List.mem_append_right _ List.mem_cons_self
/-- the object at a changes -/
theorem Wd.put (w : Wd G (W1 ++ (a, P) :: W2) H) (h : P' o) : Wd G (W1 ++ (a, P') :: W2) (upd H a o) := by
  have h0 := w.own (a, P) mem_mid
  have nd : ((W1 ++ (a, P) :: W2).map (·.1)).Nodup := w.nd
  rw [List.map_append, List.map_cons, List.nodup_append] at nd
  obtain ⟨n1, n2, n3⟩ := nd
  rw [List.nodup_cons] at n2
  refine ⟨fun b u e => ?_, fun q hq => ?_, ?_⟩
  · have hb : b ≠ a := ne_of_none e h0.1
    rw [upd_ne hb]
    exact w.ex _ _ e
  · rcases List.mem_append.mp hq with hq | hq
    · have hn : q.1 ≠ a := fun z => n3 _ (List.mem_map.mpr ⟨q, hq, z⟩) _ List.mem_cons_self rfl
      rw [upd_ne hn]
      exact w.own q (List.mem_append_left _ hq)
    · rcases List.mem_cons.mp hq with rfl | hq
      · exact ⟨h0.1, o, upd_same, h⟩
      · have hn : q.1 ≠ a := fun z => n2.1 (List.mem_map.mpr ⟨q, hq, z⟩)
        rw [upd_ne hn]
        exact w.own q (List.mem_append_right _ (List.mem_cons_of_mem _ hq))
  · rw [List.map_append, List.map_cons, List.nodup_append]
    exact ⟨n1, List.nodup_cons.mpr n2, n3⟩
/-- what holds there always is kept -/
theorem Wd.put' (w : Wd G W H) (hm : (a, P) ∈ W) (h : P o) : Wd G W (upd H a o) := by
  obtain ⟨A, B, rfl⟩ := List.append_of_mem hm
  exact w.put h
theorem Wd.putI (w : Wd G (W1 ++ (a, P) :: W2) H) : Wd G (W1 ++ (a, Is o) :: W2) (upd H a o) := w.put rfl
/-- the first one changes -/
theorem Wd.put1 (w : Wd G ((a, P) :: W) H) : Wd G ((a, Is o) :: W) (upd H a o) := Wd.putI (W1 := []) w
theorem Wd.get (w : Wd G W H) (hm : (a, P) ∈ W) : ∃ o, H a = some o ∧ P o := (w.own _ hm).2
theorem Wd.drop (w : Wd G (W1 ++ (a, P) :: W2) H) : Wd G (W1 ++ W2) H := by
  refine ⟨w.ex, fun q hq => w.own q ?_, ?_⟩
  · rcases List.mem_append.mp hq with hq | hq
    · exact List.mem_append_left _ hq
    · exact List.mem_append_right _ (List.mem_cons_of_mem _ hq)
  · have nd := w.nd
    rw [List.map_append, List.map_cons] at nd
    rw [List.map_append]
    exact nd.sublist (List.Sublist.append_left (List.sublist_cons_self _ _) _)
theorem Wd.drop1 (w : Wd G ((a, P) :: W) H) : Wd G W H := Wd.drop (W1 := []) w
/-- what does not change any more stands for good -/
theorem Wd.freeze (w : Wd G (W1 ++ (a, P) :: W2) H) : ∃ o, P o ∧ H a = some o ∧ Same G (upd G a o) ∧ Wd (upd G a o) (W1 ++ W2) H := by
  obtain ⟨g, o, h, ho⟩ := w.own (a, P) mem_mid
  have nd : ((W1 ++ (a, P) :: W2).map (·.1)).Nodup := w.nd
  rw [List.map_append, List.map_cons, List.nodup_append] at nd
  obtain ⟨n1, n2, n3⟩ := nd
  rw [List.nodup_cons] at n2
  refine ⟨o, ho, h, same_upd g, fun b u e => ?_, fun q hq => ?_, w.drop.nd⟩
  · by_cases hb : b = a
    · subst hb
      rw [upd_same] at e
      cases e
      exact h
    · rw [upd_ne hb] at e
      exact w.ex _ _ e
  · have hn : q.1 ≠ a := by
      rcases List.mem_append.mp hq with hq | hq
      · exact fun z => n3 _ (List.mem_map.mpr ⟨q, hq, z⟩) _ List.mem_cons_self rfl
      · exact fun z => n2.1 (List.mem_map.mpr ⟨q, hq, z⟩)
    rw [upd_ne hn]
    refine w.own q ?_
    rcases List.mem_append.mp hq with hq | hq
    · exact List.mem_append_left _ hq
    · exact List.mem_append_right _ (List.mem_cons_of_mem _ hq)
theorem Wd.freeze1 (w : Wd G ((a, P) :: W) H) : ∃ o, P o ∧ H a = some o ∧ Same G (upd G a o) ∧ Wd (upd G a o) W H := Wd.freeze (W1 := []) w
theorem Wd.imp (w : Wd G (W1 ++ (a, P) :: W2) H) (h : ∀ o, P o → P' o) : Wd G (W1 ++ (a, P') :: W2) H := by
  have h0 := w.own (a, P) mem_mid
  refine ⟨w.ex, fun q hq => ?_, ?_⟩
  · rcases List.mem_append.mp hq with hq | hq
    · exact w.own q (List.mem_append_left _ hq)
    · rcases List.mem_cons.mp hq with rfl | hq
      · obtain ⟨g, o, e, ho⟩ := h0
        exact ⟨g, o, e, h _ ho⟩
      · exact w.own q (List.mem_append_right _ (List.mem_cons_of_mem _ hq))
  · have nd := w.nd
    rw [List.map_append, List.map_cons] at nd ⊢
    exact nd
theorem Wd.perm {V' : Wl} (w : Wd G W H) (h : W.Perm V') : Wd G V' H :=
  ⟨w.ex, fun q hq => w.own q (h.mem_iff.mpr hq), (h.map _).nodup_iff.mp w.nd⟩
end

/-! ### data -/
section
variable {K : PySem.W.Frag} {G G' : Hp}
theorem seqT {a : Addr} {xs : List V} (e : Same G G') (h : SqT K G a xs) : SqT K G' a xs := by
  rcases h with (h | ⟨o, h⟩) | h
  · exact .inl (.inl (e _ _ h))
  · exact .inl (.inr ⟨o, e _ _ h⟩)
  · exact .inr h
mutual
theorem dmono (e : Same G G') : ∀ {d : PyData} {v : V}, Dp K G v d → Dp K G' v d
  | _, _, .non => .non
  | _, _, .bl b => .bl b
  | _, _, .int i => .int i
  | _, _, .str x => .str x
  | _, _, .lst h r => .lst (e.seq h) (dmonoAll e r)
  | _, _, .tup h r => .tup (seqT e h) (dmonoAll e r)
theorem dmonoAll (e : Same G G') : ∀ {ds : List PyData} {vs : List V}, DpAll K G vs ds → DpAll K G' vs ds
  | _, _, .nil => .nil
  | _, _, .cons h r => .cons (dmono e h) (dmonoAll e r)
end
end

/-! ### how arguments bind -/
theorem bAll {K : PySem.W.Frag} {fd : FuncData} {ps : List Str} (h : ∃ ds, Vals ([] : List V) ds ∧ Binds K fd ps ds) : Binds K fd ps [] := by
  obtain ⟨ds, r, b⟩ := h
  cases r
  exact b
theorem valsGet {vs : List V} {us : List Value} (r : Vals vs us) (i : Nat) : L2.RelV (vs.getD i .non) (us.getD i .none) := by
  induction r generalizing i with
  | nil => exact rfl
  | cons h t ih =>
    cases i with
    | zero => simpa using h
    | succ i => simpa using ih i
section
variable {K : PySem.W.Frag} {x qual : Str} {params : Arguments} {body : List Stmt} {scope : Scope} {dvs : List V} {f : Addr} {fd : FuncData} {ps ks : List Str} {n : Nat}
theorem kbnN (F : FunD K x qual params body scope [] [] f fd) (g : List Value → List Value → List Value) {gV : List V → List V → List V}
    (rel : ∀ {vs : List V} {us : List Value} {zs : List V} {ws : List Value}, Vals vs us → Vals zs ws → Vals (gV vs zs) (g us ws))
    (h : ∀ (kV doc pm : Value) (an : Option Addr) (cdv ct : Value) (us ws : List Value), us.length = n → ws.length = ks.length →
      bindArgs (PySem.W.fnOf x qual params body scope .none kV doc pm an cdv ct) ⟨us, ks.zip ws⟩ = pure (ps.zip (g us ws))) : KBn K fd ps n ks g gV := by
  obtain ⟨oc, od, dV, kV, doc, pm, an, cdv, ct, osl, rfl, lk, hcd, hD, hK⟩ := F.ex
  rcases hD with ⟨_, rfl⟩ | ⟨e, _⟩
  · exact ⟨fun s us ws _ l1 l2 => .of_eq (h kV doc pm an cdv ct us ws l1 l2), rel⟩
  · exact absurd rfl e
theorem kbnD (F : FunD K x qual params body scope dvs [] f fd) (hd : dvs ≠ []) (g : List Value → List Value → List Value → List Value) {gV : List V → List V → List V}
    (rel : ∀ {vs : List V} {us : List Value} {its : List Value} {zs : List V} {ws : List Value}, Vals vs us → Vals dvs its → Vals zs ws → Vals (gV vs zs) (g us its ws))
    (h : ∀ (T : Addr) (kV doc pm : Value) (an : Option Addr) (cdv ct : Value) (us its ws : List Value), us.length = n → its.length = dvs.length → ws.length = ks.length →
      ∃ k, bindArgs (PySem.W.fnOf x qual params body scope (.ref T) kV doc pm an cdv ct) ⟨us, ks.zip ws⟩ = seqItems? (.ref T) >>= k ∧ k (some its.toArray) = pure (ps.zip (g us its ws))) : ∃ g', KBn K fd ps n ks g' gV := by
  obtain ⟨oc, od, dV, kV, doc, pm, an, cdv, ct, osl, rfl, lk, hcd, hD, hK⟩ := F.ex
  rcases hD with ⟨e, _⟩ | ⟨_, T, o, its, m, rfl, lT, oT, rT⟩
  · exact absurd e hd
  · refine ⟨fun us ws => g us its ws, fun s us ws X l1 l2 => ?_, fun r1 r3 => rel r1 rT r3⟩
    obtain ⟨k, e1, e2⟩ := h T kV doc pm an cdv ct us its ws l1 rT.length.symm l2
    refine BindsTo.of_looks fun M => ?_
    rw [e1]
    exact looks_items X lT oT (.of_pure e2)
end
section
variable {X : Cx} {CX : CXT} {k n : Nat} {f : Addr} {fd : FuncData} {ps ks : List Str} {sp : Sp} {E : XK} {x : Str} {p pos : Pos} {kws : List Keyword} {tk : TA} {g : List Value → List Value → List Value} {gV : List V → List V → List V}
/-- f(k = v, ..): keywords alone -/
theorem pe_callN0 (F : FnOk X.prog X.w X.K X.mg X.base CX k f fd ps sp) (hr : Room k X.A) (hg : Gl X x) (hm : X.mg x = some (.ref f)) (hk : PySem.W.keepIn X.K (.ref f) = true) (hb : KBn X.K fd ps 0 ks g gV) (hx : Passes CX X E)
    (hkw : PK X kws tk) (hall : (backToKw pos (keywordEach kws X.env)).all (·.1.isSome) = true := by rfl) (hks : (backToKw pos (keywordEach kws X.env)).filterMap (·.1) = ks := by rfl)
    (hdb : (x == ("__debug__" : Str)) = false := by decide) (hpl : ((backTo pos (starEach [] X.env)).any (·.1) || (backToKw pos (keywordEach kws X.env)).any (·.1.isNone)) = false := by rfl) :
    PE X (.Call (.Name x p) [] kws pos) (tCallN 0 ks.length sp gV E tNil tk) := by
  refine ⟨fun pins s σ H Q I h => wpAny_Call_Name_kw (ld_glob I hg hm ?_ hdb)⟩
  refine PySem.W.callWith_KW0 (h₀ := X.base) I.ok.mod.kin hk hall (thn (hkw.run pos pins _ σ H _ (I.tok _) h) fun ws s2 ⟨zs, H2, I2, rz, l1, l2, q2⟩ => ⟨I2.kIn, ?_⟩) hpl
  rw [hks]
  exact run_fnN (us := []) (vs := []) F hr hb hx I2 .nil rz rfl l2 q2
end
section
variable {X : Cx}
def CPowW (i j : Int) : Prop := 0 ≤ j ∧ (Builtin.Int.intBits i : Int) * j ≤ 2 ^ 27
theorem op_powW : OpR X (binaryOp .Pow) (rI CPowW fun i j => .int (i ^ j.toNat)) := opI fun _ _ _ _ _ _ _ hc q => PyProof.Rows.pow_int hc.1 hc.2 q
end

/-! ### readings, step by step (what is asked, from the left) -/
section
variable {K : PySem.W.Frag} {σ : L2.St} {H : Hp} {Q : VK} {D : Ends} {i : Nat} {v x y : V} {ta tb te : TE} {t u : TS} {tt tu : TT} {QT : Bool → Hp → Prop} {QA : List V → Hp → Prop} {QS nx bk ct : L2.St → Hp → Prop} {rt : VK} {r : R2} {tr : TA} {xs : List V}
theorem st_var (h : σ[i]? = some (some v)) (q : Q v H) : tVar i σ H Q := ⟨v, h, q⟩
theorem st_c (q : Q v H) : tC v σ H Q := q
theorem st_op (h : ta σ H fun x H1 => tb σ H1 fun y H2 => r x y H2 Q) : tOp r ta tb σ H Q := h
theorem st_un {r : V → Hp → VK → Prop} (h : ta σ H fun x H1 => r x H1 Q) : tUn r ta σ H Q := h
theorem st_i0 {g : Int → Int → V} {a b : Int} (q : Q (g a b) H) : rI0 g (.int a) (.int b) H Q := ⟨a, b, rfl, rfl, q⟩
theorem st_i {C : Int → Int → Prop} {g : Int → Int → V} {a b : Int} (c : C a b) (q : Q (g a b) H) : rI C g (.int a) (.int b) H Q := ⟨a, b, rfl, rfl, c, q⟩
theorem st_u {g : Int → V} {a : Int} (q : Q (g a) H) : rU g (.int a) H Q := ⟨a, rfl, q⟩
theorem st_eq (h : scal x y = true) (q : Q (.bl (decide (x = y))) H) : rEq x y H Q := ⟨h, q⟩
theorem st_ne (h : scal x y = true) (q : Q (.bl (!decide (x = y))) H) : rNe x y H Q := ⟨h, q⟩
theorem st_test (h : te σ H fun x H1 => ∃ k, x = .bl k ∧ QT k H1) : tTest te σ H QT := h
theorem st_tB (h : te σ H fun x H1 => ∃ k, x = .bl k ∧ QT k H1) : tB te σ H QT := h
theorem st_bl {b : Bool} {P : Bool → Prop} (q : P b) : ∃ k, V.bl b = .bl k ∧ P k := ⟨b, rfl, q⟩
theorem st_not (h : tt σ H fun c H1 => QT (!c) H1) : tNot tt σ H QT := h
theorem st_and (h : tt σ H fun c H1 => if c = true then tu σ H1 QT else QT false H1) : tAnd tt tu σ H QT := h
theorem st_or (h : tt σ H fun c H1 => if c = true then QT true H1 else tu σ H1 QT) : tOr tt tu σ H QT := h
theorem st_andV (h : ta σ H fun x H1 => ∃ c, x = .bl c ∧ if c = true then tb σ H1 Q else Q (.bl false) H1) : tAndV ta tb σ H Q := h
theorem st_orV (h : ta σ H fun x H1 => ∃ c, x = .bl c ∧ if c = true then Q (.bl true) H1 else tb σ H1 Q) : tOrV ta tb σ H Q := h
theorem st_notV (h : ta σ H fun x H1 => ∃ c, x = .bl c ∧ Q (.bl (!c)) H1) : tNotV ta σ H Q := h
theorem st_ifE (h : tt σ H fun c H1 => if c = true then ta σ H1 Q else tb σ H1 Q) : tIf tt ta tb σ H Q := h
theorem st_nil (q : QA [] H) : tNil σ H QA := q
theorem st_cons (h : te σ H fun x H1 => tr σ H1 fun xs H2 => QA (x :: xs) H2) : tCons te tr σ H QA := h
theorem st_cb {r : List V → Hp → VK → Prop} (h : tr σ H fun vs H1 => r vs H1 Q) : tCB r tr σ H Q := h
theorem st_seq (h : t ⟨u ⟨nx, rt, bk, ct⟩, rt, bk, ct⟩ σ H) : tSeq t u ⟨nx, rt, bk, ct⟩ σ H := h
theorem st_next (q : nx σ H) : tNext ⟨nx, rt, bk, ct⟩ σ H := q
theorem st_brk (q : bk σ H) : tBreak ⟨nx, rt, bk, ct⟩ σ H := q
theorem st_cont (q : ct σ H) : tCont ⟨nx, rt, bk, ct⟩ σ H := q
theorem st_drop (h : te σ H fun _ H1 => nx σ H1) : tDrop te ⟨nx, rt, bk, ct⟩ σ H := h
theorem st_ret (h : te σ H rt) : tRet te ⟨nx, rt, bk, ct⟩ σ H := h
theorem st_retN (h : rt .non H) : tRetN ⟨nx, rt, bk, ct⟩ σ H := h
theorem st_if (h : tt σ H fun b H1 => if b = true then t ⟨nx, rt, bk, ct⟩ σ H1 else u ⟨nx, rt, bk, ct⟩ σ H1) : tIfS tt t u ⟨nx, rt, bk, ct⟩ σ H := h
theorem st_asg {g : TG} (h : te σ H fun x H1 => g x σ H1 nx) : tAsg te g ⟨nx, rt, bk, ct⟩ σ H := h
theorem st_gname (q : QS (σ.set i (some v)) H) : gName i v σ H QS := q
theorem st_par {j : Nat} (h : tr σ H fun vs H1 => ∃ v w, vs = [v, w] ∧ nx ((σ.set i (some v)).set j (some w)) H1) : tPar i j tr ⟨nx, rt, bk, ct⟩ σ H := h
theorem st_two {w : V} {P : V → V → Prop} (q : P v w) : ∃ v' w', [v, w] = [v', w'] ∧ P v' w' := ⟨v, w, rfl, q⟩
theorem st_call {sp : Sp} {dvs : List V} {E : XK} (h : tr σ H fun vs H1 => sp (vs ++ dvs) H1 Q E) : tCall sp dvs E tr σ H Q := h
theorem st_callN {n m : Nat} {sp : Sp} {gV : List V → List V → List V} {E : XK} {tk : TA} (h : tr σ H fun vs H1 => tk σ H1 fun zs H2 => vs.length = n ∧ zs.length = m ∧ sp (gV vs zs) H2 Q E) : tCallN n m sp gV E tr tk σ H Q := h
/-- a new list, a new tuple at a free place -/
def NewO (o : HO) (H : Hp) (Q : VK) : Prop := ∀ p, H p = none → Q (.ref p) (upd H p o)
theorem st_lst (h : tr σ H fun xs H1 => xs.length ≤ sizeLine ∧ NewO (.lst xs) H1 Q) : tLst tr σ H Q := h
theorem st_tup (h : tr σ H fun xs H1 => xs.length ≤ sizeLine ∧ NewO (.tup xs) H1 Q) : tTup tr σ H Q := h
theorem small {n : Nat} (h : n ≤ 1000000) : n ≤ sizeLine := Nat.le_trans h (by decide)
theorem small' {n : Nat} (h : n ≤ 1000000) : n < sizeLine := Nat.lt_of_le_of_lt h (by decide)
/-- it stands for good -/
theorem NewO.good {o : HO} {G : Hp} {W : Wl} (w : Wd G W H) (k : ∀ p G' H', Same G G' → Wd G' W H' → G' p = some o → Q (.ref p) H') : NewO o H Q := fun p hp =>
  k p (upd G p o) (upd H p o) (same_upd (w.free hp)) (w.new hp) upd_same
/-- it may change -/
theorem NewO.own {o : HO} {G : Hp} {W : Wl} (w : Wd G W H) (k : ∀ p H', Wd G ((p, Is o) :: W) H' → Q (.ref p) H') : NewO o H Q := fun p hp => k p (upd H p o) (w.newM hp rfl)
end

/-! ### a def that lets nothing out -/
section
variable {P : Program} {w : World} {K : PySem.W.Frag} {mg : Str → Option Value} {base : Heap} {x qual : Str} {params : Arguments} {body : List Stmt} {scope : Scope} {dvs : List V} {kws : List (Str × V)} {f : Addr} {fd : FuncData}
theorem okD {N ps : List Str} {k : Nat} {sp : Sp} (F : FunD K x qual params body scope dvs kws f fd) (S : FnScope N ps scope) (len : ∀ vs H Q E, sp vs H Q E → vs.length = ps.length)
    (hb : ∀ (cdv : Value) (A : Around) (outer : List Env) (s : Shared) (H : Hp) (vs : List V) (Q : VK) (E : XK), Room k (A.deeper (envOfC qual scope s.heap.objs.size f cdv)) → sp vs H Q E →
      ∃ t, PSs (cxOf CX0 P w K mg base N qual scope f cdv A outer s H E).nox body t ∧ t { nx := fun _ H' => Q .non H', rt := Q } (start N vs) H) : FnOk P w K mg base CX0 (k + 1) f fd ps sp :=
  F.ok S len fun cdv A outer s H vs Q E hr h => let ⟨t, a, q⟩ := hb cdv A outer s H vs Q E hr h; ⟨t, a.nox, q⟩
end
/-! ### loops -/
def LoopQ (J : It) (g : TG) (tb : TS) (nx : L2.St → Hp → Prop) (rt : VK) (σ : L2.St) (H : Hp) : Prop := ∃ W : Nat → Nat → L2.St → Hp → Prop, (∃ m, W 0 m σ H) ∧ ∀ i m σ H, W i m σ H →
  (J.stop i H ∧ nx σ H) ∨ (J.go i H ∧ ∃ N : L2.St → Hp → Prop, (∀ σ' H', N σ' H' → ∃ m', m' < m ∧ W (i + 1) m' σ' H') ∧ ∀ x H', J.yld i H x H' → g x σ H' fun σ2 H2 => tb ⟨N, rt, nx, N⟩ σ2 H2)
/-- what holds between two turns, over a G that grows -/
def Btw (I : Nat → L2.St → Hp → Wl → Prop) (G : Hp) (i : Nat) : L2.St → Hp → Prop := fun σ H => ∃ G' W, Same G G' ∧ Wd G' W H ∧ I i σ G' W
section
variable {K : PySem.W.Frag} {σ : L2.St} {H G : Hp} {W : Wl} {nx bk ct : L2.St → Hp → Prop} {rt : VK} {g : TG} {tb : TS} {a b : Addr} {xs ys : List V} {n : Nat}
theorem st_for {wi : TI} (h : wi σ H fun J H1 => LoopQ J g tb nx rt σ H1) : tFor wi g tb ⟨nx, rt, bk, ct⟩ σ H := h
theorem st_btw {I : Nat → L2.St → Hp → Wl → Prop} {G' : Hp} {i : Nat} (e : Same G G') (w : Wd G' W H) (h : I i σ G' W) : Btw I G i σ H := ⟨G', W, e, w, h⟩
theorem loop_go {J : It} {Gp : Hp → Prop} {Y : Nat → Hp → V → Hp → Prop} (wk : Walk J n Gp Y) (I : Nat → L2.St → Hp → Wl → Prop) (w : Wd G W H) (hG : ∀ G' W' H', Same G G' → Wd G' W' H' → Gp H') (h0 : I 0 σ G W)
    (hs : ∀ i x σ' G' W' H' H'', i < n → Same G G' → Wd G' W' H' → I i σ' G' W' → Y i H' x H'' → g x σ' H'' fun σ2 H2 => tb ⟨Btw I G (i + 1), rt, nx, Btw I G (i + 1)⟩ σ2 H2)
    (hd : ∀ σ' G' W' H', Same G G' → Wd G' W' H' → I n σ' G' W' → nx σ' H') : LoopQ J g tb nx rt σ H :=
  for_it (D := ⟨nx, rt, nx, nx⟩) wk (Btw I G) ⟨G, W, Same.refl _, w, h0⟩ (fun _ _ _ _ ⟨_, _, e, w', _⟩ => hG _ _ _ e w') (fun i x σ' H' H'' hi ⟨G', W', e, w', h⟩ y => hs i x σ' G' W' H' H'' hi e w' h y) fun σ' H' ⟨G', W', e, w', h⟩ => hd σ' G' W' H' e w' h
theorem seq_up (w : Wd G W H) (h : SqL K G a xs) : SqL K H a xs := w.ex.seq h
theorem tup_up (w : Wd G W H) (h : SqT K G a xs) : SqT K H a xs := seqT w.ex h
/-- for x in a list -/
theorem for_l (hx : SqL K G a xs) (I : Nat → L2.St → Hp → Wl → Prop) (w : Wd G W H) (h0 : I 0 σ G W)
    (hs : ∀ i x σ' G' W' H', xs[i]? = some x → Same G G' → Wd G' W' H' → I i σ' G' W' → g x σ' H' fun σ2 H2 => tb ⟨Btw I G (i + 1), rt, nx, Btw I G (i + 1)⟩ σ2 H2)
    (hd : ∀ σ' G' W' H', Same G G' → Wd G' W' H' → I xs.length σ' G' W' → nx σ' H') : ∃ a', V.ref a = .ref a' ∧ (∃ xs, SqL K H a' xs) ∧ LoopQ (Itl K a') g tb nx rt σ H :=
  ⟨a, rfl, ⟨xs, seq_up w hx⟩, loop_go walk_list I w (fun _ _ _ e w' => seq_up w' (e.seq hx)) h0 (fun i x σ' G' W' H' H'' _ e w' h y => by obtain ⟨rfl, y⟩ := y; exact hs i x σ' G' W' H'' y e w' h) hd⟩
/-- for x in a tuple -/
theorem for_t (hx : SqT K G a xs) (I : Nat → L2.St → Hp → Wl → Prop) (w : Wd G W H) (h0 : I 0 σ G W)
    (hs : ∀ i x σ' G' W' H', xs[i]? = some x → Same G G' → Wd G' W' H' → I i σ' G' W' → g x σ' H' fun σ2 H2 => tb ⟨Btw I G (i + 1), rt, nx, Btw I G (i + 1)⟩ σ2 H2)
    (hd : ∀ σ' G' W' H', Same G G' → Wd G' W' H' → I xs.length σ' G' W' → nx σ' H') : ∃ a', V.ref a = .ref a' ∧ (∃ xs, SqT K H a' xs) ∧ LoopQ (Itt K a') g tb nx rt σ H :=
  ⟨a, rfl, ⟨xs, tup_up w hx⟩, loop_go walk_tup I w (fun _ _ _ e w' => tup_up w' (seqT e hx)) h0 (fun i x σ' G' W' H' H'' _ e w' h y => by obtain ⟨rfl, y⟩ := y; exact hs i x σ' G' W' H'' y e w' h) hd⟩
/-- for i in range(n) -/
theorem for_r1 {z : Int} (hz : -(2 ^ 62) ≤ z ∧ z < 2 ^ 62) (I : Nat → L2.St → Hp → Wl → Prop) (w : Wd G W H) (h0 : I 0 σ G W)
    (hs : ∀ (i : Nat) σ' G' W' H', (i : Int) < z → Same G G' → Wd G' W' H' → I i σ' G' W' → g (.int (i : Int)) σ' H' fun σ2 H2 => tb ⟨Btw I G (i + 1), rt, nx, Btw I G (i + 1)⟩ σ2 H2)
    (hd : ∀ σ' G' W' H', Same G G' → Wd G' W' H' → I z.toNat σ' G' W' → nx σ' H') : ∃ j : Int, [V.int z] = [.int j] ∧ -(2 ^ 62) ≤ j ∧ j < 2 ^ 62 ∧ LoopQ (Itr 0 j.toNat) g tb nx rt σ H :=
  ⟨z, rfl, hz.1, hz.2, loop_go walk_range I w (fun _ _ _ _ _ => trivial) h0 (fun i x σ' G' W' H' H'' hi e w' h y => by
    obtain ⟨rfl, rfl⟩ := y
    have e0 : (0 : Int) + (i : Int) = (i : Int) := Int.zero_add _
    dsimp only
    rw [e0]
    exact hs i σ' G' W' H'' (by omega) e w' h) hd⟩
/-- for i in range(lo, hi) -/
theorem for_r2 {lo z : Int} (hz : -(2 ^ 62) ≤ lo ∧ lo < 2 ^ 62 ∧ -(2 ^ 62) ≤ z ∧ z < 2 ^ 62) (I : Nat → L2.St → Hp → Wl → Prop) (w : Wd G W H) (h0 : I 0 σ G W)
    (hs : ∀ (i : Nat) σ' G' W' H', lo + (i : Int) < z → Same G G' → Wd G' W' H' → I i σ' G' W' → g (.int (lo + (i : Int))) σ' H' fun σ2 H2 => tb ⟨Btw I G (i + 1), rt, nx, Btw I G (i + 1)⟩ σ2 H2)
    (hd : ∀ σ' G' W' H', Same G G' → Wd G' W' H' → I (z - lo).toNat σ' G' W' → nx σ' H') :
    ∃ i j : Int, [V.int lo, V.int z] = [.int i, .int j] ∧ (-(2 ^ 62) ≤ i ∧ i < 2 ^ 62 ∧ -(2 ^ 62) ≤ j ∧ j < 2 ^ 62) ∧ LoopQ (Itr i (j - i).toNat) g tb nx rt σ H :=
  ⟨lo, z, rfl, hz, loop_go walk_range I w (fun _ _ _ _ _ => trivial) h0 (fun i x σ' G' W' H' H'' hi e w' h y => by
    obtain ⟨rfl, rfl⟩ := y
    exact hs i σ' G' W' H'' (by omega) e w' h) hd⟩
/-- for i, x in enumerate(a list) -/
theorem for_enum (hx : SqL K G a xs) {i1 i2 : Nat} (I : Nat → L2.St → Hp → Wl → Prop) (w : Wd G W H) (h0 : I 0 σ G W)
    (hs : ∀ (i : Nat) x σ' G' G'' W' H', xs[i]? = some x → Same G G' → I i σ' G' W' → Same G' G'' → Wd G'' W' H' → tb ⟨Btw I G (i + 1), rt, nx, Btw I G (i + 1)⟩ ((σ'.set i1 (some (.int (i : Int)))).set i2 (some x)) H')
    (hd : ∀ σ' G' W' H', Same G G' → Wd G' W' H' → I xs.length σ' G' W' → nx σ' H') :
    ∃ a' ys, [V.ref a] = [.ref a'] ∧ SqL K H a' ys ∧ LoopQ (Ite K a') (gTup K 2 (gCons (gName i1) (gCons (gName i2) gNil))) tb nx rt σ H :=
  ⟨a, xs, rfl, seq_up w hx, loop_go walk_enum I w (fun _ _ _ e w' => seq_up w' (e.seq hx)) h0 (fun i x σ' G' W' H' H'' _ e w' h y => by
    obtain ⟨T, x1, x2, rfl, hn, rfl, e1, e2⟩ := y
    cases e1
    refine ⟨T, _, rfl, SqT.of upd_same, rfl, _, _, rfl, ?_⟩
    refine ⟨_, _, rfl, ?_⟩
    exact ⟨rfl, hs i x2 σ' G' _ W' _ e2 e h (same_upd (w'.free hn)) (w'.new hn)⟩) hd⟩
end

/-! ### comprehensions -/
def LcQ (J : It) (g : TG) (tt : TT) (te : TE) (vs : List Nat) (σ : L2.St) (H1 : Hp) (Q : VK) : Prop := ∀ D, H1 D = none → ∃ W : Nat → Nat → Hp → Prop, (∃ m, W 0 m (upd H1 D (.lst []))) ∧ ∀ i m H, W i m H →
  (J.stop i H ∧ Q (.ref D) H) ∨ (J.go i H ∧ ∃ Nx : Hp → Prop, (∀ H', Nx H' → ∃ m', m' < m ∧ W (i + 1) m' H') ∧ ∀ x H', J.yld i H x H' → g x (wipe σ vs) H' fun σ2 H2 => wipe σ2 vs = wipe σ vs ∧ tt σ2 H2 fun b H3 =>
    if b = true then te σ2 H3 fun y H4 => ∃ acc, H4 D = some (.lst acc) ∧ acc.length < sizeLine ∧ Nx (upd H4 D (.lst (acc ++ [y]))) else Nx H3)
/-- what holds between two turns: the new list at D holds acc -/
def LcB (I : Nat → List V → Hp → Prop) (G : Hp) (W : Wl) (D : Addr) (i : Nat) : Hp → Prop := fun H => ∃ G' acc, Same G G' ∧ Wd G' ((D, Is (.lst acc)) :: W) H ∧ I i acc G'
section
variable {K : PySem.W.Frag} {σ : L2.St} {H G : Hp} {W : Wl} {D : Addr} {g : TG} {tt : TT} {te : TE} {vs : List Nat} {Q : VK} {a b : Addr} {xs ys : List V} {n : Nat}
theorem st_lc {wi : TI} (h : wi σ H fun J H1 => LcQ J g tt te vs σ H1 Q) : tLc wi g tt te vs σ H Q := h
theorem st_yes {QT : Bool → Hp → Prop} (q : QT true H) : tYes σ H QT := q
/-- an element is put -/
theorem lc_put {I : Nat → List V → Hp → Prop} {G' : Hp} {i : Nat} {acc : List V} {y : V} (w : Wd G' ((D, Is (.lst acc)) :: W) H) (e : Same G G') (hl : acc.length < 1000000) (h : I i (acc ++ [y]) G') :
    ∃ acc, H D = some (.lst acc) ∧ acc.length < sizeLine ∧ LcB I G W D i (upd H D (.lst (acc ++ [y]))) := by
  obtain ⟨o, ho, rfl⟩ := w.get List.mem_cons_self
  exact ⟨acc, ho, small' (Nat.le_of_lt hl), G', acc ++ [y], e, Wd.put (W1 := []) w rfl, h⟩
theorem lc_skip {I : Nat → List V → Hp → Prop} {G' : Hp} {i : Nat} {acc : List V} (w : Wd G' ((D, Is (.lst acc)) :: W) H) (e : Same G G') (h : I i acc G') : LcB I G W D i H := ⟨G', acc, e, w, h⟩
theorem lc_go {J : It} {Gp : Hp → Prop} {Y : Nat → Hp → V → Hp → Prop} (wk : Walk J n Gp Y) (I : Nat → List V → Hp → Prop) (w : Wd G W H) (hG : ∀ G' W' H', Same G G' → Wd G' W' H' → Gp H') (h0 : I 0 [] G)
    (hs : ∀ i x D G' H' H'' acc, i < n → Same G G' → Wd G' ((D, Is (.lst acc)) :: W) H' → I i acc G' → Y i H' x H'' → g x (wipe σ vs) H'' fun σ2 H2 => wipe σ2 vs = wipe σ vs ∧ tt σ2 H2 fun b H3 =>
      if b = true then te σ2 H3 fun y H4 => ∃ acc, H4 D = some (.lst acc) ∧ acc.length < sizeLine ∧ LcB I G W D (i + 1) (upd H4 D (.lst (acc ++ [y]))) else LcB I G W D (i + 1) H3)
    (hd : ∀ D G' H' acc, Same G G' → Wd G' ((D, Is (.lst acc)) :: W) H' → I n acc G' → Q (.ref D) H') : LcQ J g tt te vs σ H Q := fun D hD =>
  lc_it wk (LcB I G W D) ⟨G, [], Same.refl _, w.newM hD rfl, h0⟩ (fun _ _ _ ⟨_, _, e, w', _⟩ => hG _ _ _ e w') (fun i x H' H'' hi ⟨G', acc, e, w', h⟩ y => hs i x D G' H' H'' acc hi e w' h y) fun H' ⟨G', acc, e, w', h⟩ => hd D G' H' acc e w' h
/-- [.. for i in range(z)], the variable at slot j -/
theorem lc_r1 {z : Int} {j : Nat} (hz : -(2 ^ 62) ≤ z ∧ z < 2 ^ 62) (I : Nat → List V → Hp → Prop) (w : Wd G W H) (h0 : I 0 [] G) (hw : ∀ x, wipe ((wipe σ vs).set j x) vs = wipe σ vs)
    (hs : ∀ (i : Nat) D G' H' acc, (i : Int) < z → Same G G' → Wd G' ((D, Is (.lst acc)) :: W) H' → I i acc G' → tt ((wipe σ vs).set j (some (.int (i : Int)))) H' fun b H3 =>
      if b = true then te ((wipe σ vs).set j (some (.int (i : Int)))) H3 fun y H4 => ∃ acc, H4 D = some (.lst acc) ∧ acc.length < sizeLine ∧ LcB I G W D (i + 1) (upd H4 D (.lst (acc ++ [y]))) else LcB I G W D (i + 1) H3)
    (hd : ∀ D G' H' acc, Same G G' → Wd G' ((D, Is (.lst acc)) :: W) H' → I z.toNat acc G' → Q (.ref D) H') : ∃ j' : Int, [V.int z] = [.int j'] ∧ -(2 ^ 62) ≤ j' ∧ j' < 2 ^ 62 ∧ LcQ (Itr 0 j'.toNat) (gName j) tt te vs σ H Q :=
  ⟨z, rfl, hz.1, hz.2, lc_go walk_range I w (fun _ _ _ _ _ => trivial) h0 (fun i x D G' H' H'' acc hi e w' h y => by
    obtain ⟨rfl, rfl⟩ := y
    have e0 : (0 : Int) + (i : Int) = (i : Int) := Int.zero_add _
    dsimp only
    rw [e0]
    exact ⟨hw _, hs i D G' H'' acc (by omega) e w' h⟩) hd⟩
/-- [.. for x in a list] -/
theorem lc_l {j : Nat} (hx : SqL K G a xs) (I : Nat → List V → Hp → Prop) (w : Wd G W H) (h0 : I 0 [] G) (hw : ∀ x, wipe ((wipe σ vs).set j x) vs = wipe σ vs)
    (hs : ∀ (i : Nat) x D G' H' acc, xs[i]? = some x → Same G G' → Wd G' ((D, Is (.lst acc)) :: W) H' → I i acc G' → tt ((wipe σ vs).set j (some x)) H' fun b H3 =>
      if b = true then te ((wipe σ vs).set j (some x)) H3 fun y H4 => ∃ acc, H4 D = some (.lst acc) ∧ acc.length < sizeLine ∧ LcB I G W D (i + 1) (upd H4 D (.lst (acc ++ [y]))) else LcB I G W D (i + 1) H3)
    (hd : ∀ D G' H' acc, Same G G' → Wd G' ((D, Is (.lst acc)) :: W) H' → I xs.length acc G' → Q (.ref D) H') : ∃ a', V.ref a = .ref a' ∧ (∃ xs, SqL K H a' xs) ∧ LcQ (Itl K a') (gName j) tt te vs σ H Q :=
  ⟨a, rfl, ⟨xs, seq_up w hx⟩, lc_go walk_list I w (fun _ _ _ e w' => seq_up w' (e.seq hx)) h0 (fun i x D G' H' H'' acc _ e w' h y => by
    obtain ⟨rfl, y⟩ := y
    exact ⟨hw _, hs i x D G' H'' acc y e w' h⟩) hd⟩
end

/-! ### kinds of values -/
inductive Knd (K : PySem.W.Frag) (H : Hp) : V → Prop
  | int (i : Int) : Knd K H (.int i)
  | bl (b : Bool) : Knd K H (.bl b)
  | non : Knd K H .non
  | str (x : Str) : Knd K H (.str x)
  | lst {a : Addr} {xs : List V} (h : SqL K H a xs) : Knd K H (.ref a)
  | tup {a : Addr} {xs : List V} (h : SqT K H a xs) : Knd K H (.ref a)
  | dct {a : Addr} {kvs : List (Key × V)} (h : H a = some (.dK kvs)) : Knd K H (.ref a)
def isInt : V → Bool
  | .int _ => true
  | _ => false
def inRange (lo hi : Int) : V → Bool
  | .int i => decide (lo ≤ i) && decide (i ≤ hi)
  | _ => false
section
variable {K : PySem.W.Frag} {H : Hp} {x : V}
theorem tyL {a : Addr} {xs : List V} (h : SqL K H a xs) : TyX K H (.ref a) (.type "list") := by
  rcases h with (h | ⟨o, h⟩) | ⟨o, _, _, h, hc, _⟩
  · exact .base (.lst h)
  · exact .base (.frz h)
  · exact .kList h hc
theorem tyT {a : Addr} {xs : List V} (h : SqT K H a xs) : TyX K H (.ref a) (.type "tuple") := by
  rcases h with (h | ⟨o, h⟩) | ⟨o, _, _, h, hc, _⟩
  · exact .base (.tup h)
  · exact .fTuple h
  · exact .kTuple h hc
theorem Knd.ty (h : Knd K H x) : ∃ n b1 b2, TyX K H x (.type n) ∧ kitB n "int" = some b1 ∧ kitB n "bool" = some b2 ∧ isInt x = (b1 && !b2) := by
  cases h with
  | int i => exact ⟨"int", true, false, .base (.int i), by decide +kernel, by decide +kernel, rfl⟩
  | bl b => exact ⟨"bool", true, true, .base (.bl b), by decide +kernel, by decide +kernel, rfl⟩
  | non => exact ⟨"NoneType", false, false, .base .non, by decide +kernel, by decide +kernel, rfl⟩
  | str s => exact ⟨"str", false, false, .base (.str s), by decide +kernel, by decide +kernel, rfl⟩
  | lst h => exact ⟨"list", false, false, tyL h, by decide +kernel, by decide +kernel, rfl⟩
  | tup h => exact ⟨"tuple", false, false, tyT h, by decide +kernel, by decide +kernel, rfl⟩
  | dct h => exact ⟨"dict", false, false, .base (.dK h), by decide +kernel, by decide +kernel, rfl⟩
/-- isinstance(x, (list, tuple)) -/
def isSeq (K : PySem.W.Frag) (H : Hp) (x : V) : Prop := ∃ a xs, x = .ref a ∧ (SqL K H a xs ∨ SqT K H a xs)
theorem kB {a b : String} {r : Bool} {cs : List Value} {q : Bool} (h : kitB a b = some r) (hr : r = false → PySem.W.kitAny K (.type a) cs = some q) (hb : r = true → q = true) : PySem.W.kitAny K (.type a) (.type b :: cs) = some q := kitAny_cons (kit_ty h) hr hb
theorem kitLT_l : PySem.W.kitAny K (.type "list") [.type "list", .type "tuple"] = some true := kB (r := true) (by decide +kernel) (fun h => nomatch h) (fun _ => rfl)
theorem kitLT_t : PySem.W.kitAny K (.type "tuple") [.type "list", .type "tuple"] = some true := kB (r := false) (by decide +kernel) (fun _ => kB (r := true) (by decide +kernel) (fun h => nomatch h) (fun _ => rfl)) (fun h => nomatch h)
theorem isiSeq {Q : VK} {a p : Addr} {xs : List V} (hp : H p = some (.tup [.ty "list", .ty "tuple"])) (h : SqL K H a xs ∨ SqT K H a xs) (q : Q (.bl true) H) : rIsiT K [.ref a, .ref p] H Q := by
  rcases h with h | h
  · exact ⟨_, p, _, _, _, true, rfl, hp, .cons (.ty _) (.cons (.ty _) .nil), tyL h, kitLT_l, q⟩
  · exact ⟨_, p, _, _, _, true, rfl, hp, .cons (.ty _) (.cons (.ty _) .nil), tyT h, kitLT_t, q⟩
end

section
variable {K : PySem.W.Frag} {σ : L2.St} {H : Hp} {ta : TA} {tl : TE} {R : It → Hp → Prop}
theorem st_iEnum (h : ta σ H fun vs H1 => ∃ a xs, vs = [.ref a] ∧ SqL K H1 a xs ∧ R (Ite K a) H1) : iEnum K ta σ H R := h
theorem st_iList (h : tl σ H fun x H1 => ∃ a, x = .ref a ∧ (∃ xs, SqL K H1 a xs) ∧ R (Itl K a) H1) : iList K tl σ H R := h
theorem st_iTup (h : tl σ H fun x H1 => ∃ a, x = .ref a ∧ (∃ xs, SqT K H1 a xs) ∧ R (Itt K a) H1) : iTup K tl σ H R := h
theorem st_iR1 (h : ta σ H fun vs H1 => ∃ j : Int, vs = [.int j] ∧ -(2 ^ 62) ≤ j ∧ j < 2 ^ 62 ∧ R (Itr 0 j.toNat) H1) : iRng1 ta σ H R := h
theorem st_iR2 (h : ta σ H fun vs H1 => ∃ i j : Int, vs = [.int i, .int j] ∧ (-(2 ^ 62) ≤ i ∧ i < 2 ^ 62 ∧ -(2 ^ 62) ≤ j ∧ j < 2 ^ 62) ∧ R (Itr i (j - i).toNat) H1) : iRng2 ta σ H R := h
end

theorem atUp {G G' : Hp} {a : Addr} {o : HO} (e : Same G G') (h : G a = some o) : G' a = some o := e _ _ h
theorem hUp {G H : Hp} {W : Wl} {a : Addr} {o : HO} (w : Wd G W H) (h : G a = some o) : H a = some o := w.ex _ _ h
theorem dUp {K : PySem.W.Frag} {G H : Hp} {W : Wl} {v : V} {d : PyData} (w : Wd G W H) (h : Dp K G v d) : Dp K H v d := dmono w.ex h
theorem getI {ns : List Int} {i : Nat} {x : V} (h : (ns.map V.int)[i]? = some x) : ∃ n, ns[i]? = some n ∧ x = V.int n ∧ n ∈ ns := by
  rw [List.getElem?_map] at h
  obtain ⟨n, hn, e⟩ := Option.map_eq_some_iff.mp h
  exact ⟨n, hn, e.symm, List.mem_of_getElem? hn⟩

section
variable {K : PySem.W.Frag} {σ : L2.St} {H : Hp} {Q : VK} {QS : L2.St → Hp → Prop} {to ti : TE} {v x : V} {xs : List V} {a : Addr}
theorem st_gsub {t : TSet} (h : to σ H fun o H1 => ti σ H1 fun i H2 => t o i v H2 fun H3 => QS σ H3) : gSub to ti t v σ H QS := h
/-- xs[i] -/
theorem st_ixL {i : Int} (h : SqL K H a xs) (hv : atI xs i = some v) (q : Q v H) : rIxL K (.ref a) (.int i) H Q := ⟨a, xs, i, v, rfl, rfl, h, hv, q⟩
theorem st_ixT {i : Int} (h : SqT K H a xs) (hv : atI xs i = some v) (q : Q v H) : rIxT K (.ref a) (.int i) H Q := ⟨a, xs, i, v, rfl, rfl, h, hv, q⟩
theorem st_setL {i : Int} {j : Nat} {Q : Hp → Prop} (h : H a = some (.lst xs)) (hj : ixN xs.length i = some j) (q : Q (upd H a (.lst (xs.set j v)))) : rSetL (.ref a) (.int i) v H Q := ⟨a, xs, i, j, rfl, rfl, h, hj, q⟩
end

section
variable {K : PySem.W.Frag} {σ : L2.St} {H : Hp} {Q : VK} {to te : TE} {t : TA} {T : String} {r : V → List V → Hp → VK → Prop} {xs : List V} {a : Addr}
theorem st_bm (h : to σ H fun x H1 => tyV K T x H1 ∧ t σ H1 fun xs H2 => r x xs H2 Q) : tBM K T r to t σ H Q := h
theorem st_bm0 (h : to σ H fun x H1 => tyV K T x H1 ∧ r x [] H1 Q) : tBM0 K T r to σ H Q := h
theorem tyL' (h : H a = some (.lst xs)) : tyV K "list" (.ref a) H := Or.inl ⟨rfl, _, SqL.of h⟩
theorem map_ins (ns : List Int) (i : Nat) (n : Int) : (ns.map V.int).take i ++ [V.int n] ++ (ns.map V.int).drop i = (ns.take i ++ [n] ++ ns.drop i).map V.int := by simp [List.map_take, List.map_drop]
theorem map_set' (ns : List Int) (i : Nat) (n : Int) : (ns.map V.int).set i (V.int n) = (ns.set i n).map V.int := by simp [List.map_set]
theorem atI_map {ns : List Int} {i : Int} (h0 : 0 ≤ i) (h1 : i < ns.length) : ∃ n, atI (ns.map V.int) i = some (V.int n) ∧ n ∈ ns ∧ ns[i.toNat]? = some n := by
  obtain ⟨n, hn⟩ : ∃ n, ns[i.toNat]? = some n := ⟨_, List.getElem?_eq_getElem (by omega)⟩
  refine ⟨n, ?_, List.mem_of_getElem? hn, hn⟩
  have e : i = (i.toNat : Int) := by omega
  rw [e]
  exact atI_nat (by rw [List.getElem?_map, hn]; rfl)
theorem ixN_of {n : Nat} {i : Int} (h0 : 0 ≤ i) (h1 : i < n) : ixN n i = some i.toNat := by
  unfold ixN
  rw [if_pos h0, if_pos h1]
end

theorem st_cut {t u : TS} {nx bk ct : L2.St → Hp → Prop} {rt : VK} {σ : L2.St} {H : Hp} (M : L2.St → Hp → Prop) (h : t ⟨M, rt, bk, ct⟩ σ H) (k : ∀ σ' H', M σ' H' → u ⟨nx, rt, bk, ct⟩ σ' H') : C8.tCut t u ⟨nx, rt, bk, ct⟩ σ H := ⟨M, h, k⟩
section
variable {K : PySem.W.Frag} {H : Hp}
def dI (ns : List Int) : PyData := .list (ns.map .int)
theorem dpInts : ∀ ns : List Int, DpAll K H (ns.map V.int) (ns.map PyData.int)
  | [] => .nil
  | n :: ns => .cons (.int n) (dpInts ns)
theorem dp_ints {a : Addr} {ns : List Int} (h : SqL K H a (ns.map V.int)) : Dp K H (.ref a) (dI ns) := .lst h (dpInts ns)
/-- data that may be compared: of a depth up to n -/
def Sh (n : Nat) (d : PyData) : Prop := d.canLay0 = true ∧ d.depth ≤ n
theorem sh_all {n : Nat} : ∀ {ds : List PyData}, (∀ d ∈ ds, Sh n d) → PyData.canLayAll0 ds = true ∧ PyData.depthAll ds ≤ n
  | [], _ => ⟨rfl, Nat.zero_le _⟩
  | d :: ds, h => by
    obtain ⟨a1, a2⟩ := h d List.mem_cons_self
    obtain ⟨b1, b2⟩ := sh_all (ds := ds) fun x hx => h x (List.mem_cons_of_mem _ hx)
    refine ⟨?_, ?_⟩
    · unfold PyData.canLayAll0
      rw [a1, b1]
      rfl
    · unfold PyData.depthAll
      exact Nat.max_le.mpr ⟨a2, b2⟩
theorem Sh.list {n : Nat} {ds : List PyData} (h : ∀ d ∈ ds, Sh n d) : Sh (n + 1) (.list ds) := by
  obtain ⟨a, b⟩ := sh_all h
  exact ⟨by unfold PyData.canLay0; exact a, by unfold PyData.depth; exact Nat.succ_le_succ b⟩
theorem Sh.tuple {n : Nat} {ds : List PyData} (h : ∀ d ∈ ds, Sh n d) : Sh (n + 1) (.tuple ds) := by
  obtain ⟨a, b⟩ := sh_all h
  exact ⟨by unfold PyData.canLay0; exact a, by unfold PyData.depth; exact Nat.succ_le_succ b⟩
theorem Sh.int {n : Nat} (i : Int) : Sh n (.int i) := ⟨by unfold PyData.canLay0; rfl, by unfold PyData.depth; exact Nat.zero_le _⟩
theorem Sh.bool {n : Nat} (i : Bool) : Sh n (.bool i) := ⟨by unfold PyData.canLay0; rfl, by unfold PyData.depth; exact Nat.zero_le _⟩
theorem Sh.none {n : Nat} : Sh n .none := ⟨by unfold PyData.canLay0; rfl, by unfold PyData.depth; exact Nat.zero_le _⟩
theorem Sh.ok {n : Nat} {d : PyData} (h : Sh n d) (hn : n ≤ 64) : SeqAt.shaped d = true := by
  unfold SeqAt.shaped
  rw [h.1, decide_eq_true (Nat.le_trans h.2 hn)]
  rfl
theorem sh_ints (ns : List Int) : Sh 1 (dI ns) := Sh.list fun d hd => by
  obtain ⟨n, _, rfl⟩ := List.mem_map.mp hd
  exact .int n
theorem eqvAll_map {α : Type} [DecidableEq α] (f : α → PyData) (h : ∀ x y, PyData.eqv (f x) (f y) = decide (x = y)) : ∀ xs ys : List α, PyData.eqvAll (xs.map f) (ys.map f) = decide (xs = ys)
  | [], [] => by simp [PyData.eqvAll]
  | [], _ :: _ => by simp [PyData.eqvAll]
  | _ :: _, [] => by simp [PyData.eqvAll]
  | x :: xs, y :: ys => by
    rw [List.map_cons, List.map_cons, PyData.eqvAll, h, eqvAll_map f h xs ys]
    by_cases e1 : x = y <;> by_cases e2 : xs = ys <;> simp [e1, e2]
theorem eqv_int (a b : Int) : PyData.eqv (.int a) (.int b) = decide (a = b) := by
  unfold PyData.eqv
  by_cases e : a = b <;> simp [e]
theorem eqv_dI (a b : List Int) : PyData.eqv (dI a) (dI b) = decide (a = b) := by
  unfold dI PyData.eqv
  exact eqvAll_map _ eqv_int a b
/-- xs == ys of data -/
theorem st_eqD {Q : VK} {x y : V} {d e : PyData} {b : Bool} (hx : Dp K H x d) (hy : Dp K H y e) (sx : SeqAt.shaped d = true) (sy : SeqAt.shaped e = true) (hb : PyData.eqv d e = b) (q : Q (.bl b) H) : rEqD K x y H Q := ⟨d, e, hx, hy, sx, sy, by rw [hb]; exact q⟩
theorem st_neD {Q : VK} {x y : V} {d e : PyData} {b : Bool} (hx : Dp K H x d) (hy : Dp K H y e) (sx : SeqAt.shaped d = true) (sy : SeqAt.shaped e = true) (hb : PyData.eqv d e = b) (q : Q (.bl (!b)) H) : rNeD K x y H Q := ⟨d, e, hx, hy, sx, sy, by rw [hb]; exact q⟩
/-- lists of ints -/
theorem st_eqI {Q : VK} {a b : Addr} {xs ys : List Int} (hx : SqL K H a (xs.map V.int)) (hy : SqL K H b (ys.map V.int)) (q : Q (.bl (decide (xs = ys))) H) : rEqD K (.ref a) (.ref b) H Q :=
  st_eqD (dp_ints hx) (dp_ints hy) ((sh_ints xs).ok (by decide)) ((sh_ints ys).ok (by decide)) (eqv_dI xs ys) q
theorem st_neI {Q : VK} {a b : Addr} {xs ys : List Int} (hx : SqL K H a (xs.map V.int)) (hy : SqL K H b (ys.map V.int)) (q : Q (.bl (!decide (xs = ys))) H) : rNeD K (.ref a) (.ref b) H Q :=
  st_neD (dp_ints hx) (dp_ints hy) ((sh_ints xs).ok (by decide)) ((sh_ints ys).ok (by decide)) (eqv_dI xs ys) q
end

theorem st_ifV {σ : L2.St} {H : Hp} {Q : VK} {tt : TT} {ta tb : TE} (v : V) (c : Bool) (ht : ∀ QT : Bool → Hp → Prop, QT c H → tt σ H QT) (h1 : c = true → ∀ Q : VK, Q v H → ta σ H Q) (h2 : c = false → ∀ Q : VK, Q v H → tb σ H Q) (q : Q v H) : tIf tt ta tb σ H Q :=
  ht _ (by
    cases c with
    | true => exact iteT (h1 rfl Q q)
    | false => exact iteF (h2 rfl Q q))
theorem ne_self (v : V) : (!decide (v = v)) = false := by rw [decide_eq_true rfl]; rfl
theorem eq_self' (v : V) : decide (v = v) = true := decide_eq_true rfl
end Z

/-! enumerate of a tuple -/
namespace PySem
open AutoSeq1 (wpAny_loadPart')
theorem zEnumNew (l : Addr) (its : Array Value) (n : Nat) (dd : Option Addr) (sl : Array (Option Value)) :
    Meets (Builtin.«enumerate.__new__» ⟨[.type "enumerate", .ref l], []⟩) (fun _ R s => s.heap.get? l = some { cls := .type "tuple", dict := dd, data := .seq its n, slots := sl } ∧
      R (.ok (.ret (.ref (s.heap.push { cls := .type "tuple_iterator", data := .fields #[.ref l, .int 0 0] }).objs.size)))
        { s with heap := (s.heap.push { cls := .type "tuple_iterator", data := .fields #[.ref l, .int 0 0] }).push { cls := .type "enumerate", data := .fields #[.none, .bool false, .ref s.heap.objs.size, rawInt 0, .none, .none] } }) :=
  .of_wp fun prog w A R s q => by
    obtain ⟨hp, g, d, tk, os⟩ := s
    obtain ⟨hl, hR⟩ := q
    have hsub := sub_enumerate
    have hT : Heap.IsTuple (Shared.heap ⟨hp, g, d, tk, os⟩) l its := ⟨_, hl, rfl, n, rfl⟩
    wp_walk using wpAny_loadPart' hl
    refine wpAny_stack_any fun st => wpAny_pure ?_
    split
    · rename_i c _ _ _ _ _
      cases (c == Value.type "enumerate") <;> (wp_walk using wpAny_loadPart' hl, wpAny_pyIter_tuple hT; exact ⟨_, rfl, hR⟩)
    · wp_walk using wpAny_loadPart' hl, wpAny_pyIter_tuple hT
      exact ⟨_, rfl, hR⟩
theorem zEnumCall {prog : Program} {w : World} {A : Around} {E : Value → Shared → Prop} {s : Shared} {l : Addr} {its : Array Value} {Q : Value → Shared → Prop} (hT : s.heap.IsTuple l its)
    (k : ∀ h', IsEnum h' (s.heap.objs.size + 1) s.heap.objs.size 0 .none → h'.IsTupleIter s.heap.objs.size l 0 → h'.objs.size = s.heap.objs.size + 2 → (∀ b o, s.heap.get? b = some o → h'.get? b = some o) →
      Q (.ref (s.heap.objs.size + 1)) { s with heap := h' }) : wpAny (model prog w) A (call (.type "enumerate") [.ref l]) Q E s := by
  obtain ⟨⟨c, dd, dt, sl⟩, hl, hc, n, hd⟩ := hT
  obtain rfl : c = .type "tuple" := hc
  obtain rfl : dt = .seq its n := hd
  refine callType_new F.called_enumerate (by decide) (F.typeCall_enumerate_1 _) (F.newCall_enumerate_1 _) (fun obj => F.args_object_init_2 obj _) F.entry_enumerate_new (zEnumNew l its n dd sl) ⟨hl, ?_⟩
  have hz : (s.heap.push { cls := .type "tuple_iterator", data := .fields #[.ref l, .int 0 0] }).objs.size = s.heap.objs.size + 1 := Heap.size_push ..
  show _ ∧ _
  rw [hz]
  have he : IsEnum ((s.heap.push { cls := .type "tuple_iterator", data := .fields #[.ref l, .int 0 0] }).push { cls := .type "enumerate", data := .fields #[.none, .bool false, .ref s.heap.objs.size, rawInt 0, .none, .none] })
      (s.heap.objs.size + 1) s.heap.objs.size 0 .none := hz ▸ Heap.get?_push_size _ rfl
  exact ⟨⟨_, he, rfl⟩, k _ he ⟨_, Heap.get?_push_of_some _ (Heap.get?_push_size _ rfl), rfl, rfl⟩ (by rw [Heap.size_push, hz]) fun b o x => Heap.get?_push_of_some _ (Heap.get?_push_of_some _ x)⟩
theorem zEnumEnd {prog : Program} {w : World} {A : Around} {E : Value → Shared → Prop} {s : Shared} {e it l : Addr} {i : Nat} {its : Array Value} {old : Value} {k : Int} {Q : Option Value → Shared → Prop} (hh : A.handled = none)
    (he : IsEnum s.heap e it k old) (hit : s.heap.IsTupleIter it l i) (hl : s.heap.IsTuple l its) (hx : its[i]? = none) (q : ∀ h', Heap.ExtBut it s.heap h' → Q none { s with heap := h' }) :
    wpAny (model prog w) A (pyNext (.ref e)) Q E s := by
  have ty : s.TypeIs (.ref e) "enumerate" := ⟨_, he, rfl⟩
  unfold pyNext
  refine wpAny_bind (wpAny_attempt (wpAny_callSpecial?_slot (name := Str.ofString "__next__") ty F.slot_enumerate_next (wpAny_call_entry F.slot_enumerate_next ty F.entry_enumerate_next ?_ (F.args_enumerate_next_1 _))))
  show wpAny _ _ (field (.ref e) 2 >>= _) _ _ _
  refine wpAny_bind (wpAny_field he rfl (x := .ref it) rfl (wpAny_bind (wpAny_nextOf_tuple_end hh hit hl hx fun h' x he' ⟨o, ho, hc⟩ => ?_)))
  exact wpAny_bind (wpAny_isInstance (T := "StopIteration") (b := true) ⟨o, ho, hc⟩ isSubtype_stop (wpAny_pure (q _ he')))
end PySem
namespace Z
open PySem PySem.Spec PyProof.Rows L2
def IteT (K : PySem.W.Frag) (a : Addr) : It :=
  ⟨fun i H => ∃ (xs : List V) (x : V), SqT K H a xs ∧ xs[i]? = some x, fun i H v H' => ∃ T x, v = .ref T ∧ H T = none ∧ H' = upd H T (.tup [.int (i : Nat), x]) ∧ ∀ xs, SqT K H a xs → xs[i]? = some x,
    fun i H => ∃ xs : List V, SqT K H a xs ∧ xs.length ≤ i⟩
theorem tup_ne {h : Heap} {a b : Addr} {its : Array Value} {o : Obj} {n : String} (p : IsTup h a its) (ho : h.get? b = some o) (hc : o.cls = .type n) (hn : n ≠ "tuple") : a ≠ b := fun z => by
  obtain ⟨o', e, c, _⟩ := p
  rw [z, ho] at e
  cases e
  rw [hc] at c
  exact hn (by injection c)
theorem turn_enumT {P : Program} {w : World} {K : PySem.W.Frag} {elts : List Expr} {kk : Nat} {tpos : Pos} (a e it : Addr) :
    Turn P w K (.Tuple elts kk tpos) (IteT K a) [e, it] e (fun i h => (∃ old, IsEnum h e it ((i : Nat) : Int) old) ∧ h.IsTupleIter it a i ∧ e ≠ it) where
  mem := List.mem_cons_self
  obj := fun i h st b hb => by
    obtain ⟨⟨old, he⟩, ⟨o, ho, hc, hd⟩, _⟩ := st
    rcases (show b = e ∨ b = it by simpa using hb) with z | z
    · exact z ▸ ⟨_, he, fun v q => nomatch q⟩
    · exact z ▸ ⟨o, ho, fun v q => by rw [hd] at q; cases q⟩
  keep := fun i h h' st k => let ⟨⟨old, he⟩, hi, hne⟩ := st; ⟨⟨old, k e List.mem_cons_self _ he⟩, hi.at fun o q => k it (by simp) o q, hne⟩
  item := by
    intro X hP hw hK hc i pins s σ H E I hf st hg
    cases hP; cases hw; cases hK
    obtain ⟨⟨old, he⟩, hit, hne⟩ := st
    obtain ⟨xs, x, hq, hx⟩ := hg
    obtain ⟨its, rv, p, hz⟩ := I.tuple hq
    obtain ⟨u, hu, ru⟩ := rv.get hx
    obtain ⟨oi, hoi, hci, _⟩ := id hit
    have nai : a ≠ it := tup_ne p hoi hci (by decide)
    have nae : a ≠ e := tup_ne p he rfl (by decide)
    have hel := Heap.lt_size he
    have hil := Heap.lt_size hoi
    have hlt : i < its.length := (List.getElem?_eq_some_iff.mp hu).1
    refine wpAny_pyNext_enum_itemD (Draws.tuple (A := X.A.in1) (I.ok.hd hc) it a nai its.toArray) he ⟨hit, p⟩ (by simpa using hlt) hne (by simp [hne, nae.symm]) fun v h' tk hv ho hst hT hsz hk => ?_
    obtain rfl : u = v := by
      have hv' : its[i]? = some v := by simpa using hv
      rw [hu] at hv'
      exact Option.some.inj hv'
    refine ⟨_, rfl, wpAny_letOwnedTupleGo_enum (s := { s with heap := h', toks := tk + 1 }) ho fun h'' he' sb => ?_⟩
    have hT2 := (sb.2 _ (Nat.ne_of_gt hel)).trans hT
    have new : ObjOk X.prog X.w (upd H s.heap.objs.size (.tup [.int (i : Nat), x])) h'' s.heap.objs.size (.tup [.int (i : Nat), x]) :=
      ⟨by show 2 ≤ sizeLine; decide, [.int i tk, u], .cons ⟨_, rfl⟩ (.cons ru .nil), ⟨_, hT2, rfl, _, rfl⟩⟩
    have I1 := I.turnedNew (t' := tk + 1) (ch := [e, it]) (fun b ob hb q => (sb.2 b (fun z => hb (by simp [z]))).trans (hk b ob (fun z => hb (by simp [z])) (fun z => hb (by simp [z])) q)) hf (Nat.le_refl _) new
    refine ⟨.ref s.heap.objs.size, _, I1, rfl, ⟨_, x, rfl, I.hok.fresh (Nat.le_refl _), rfl, fun ys hy => by rw [I.tuple_inj hy hq]; exact hx⟩, ⟨⟨u, ?_⟩, hst.1.at fun o q => (sb.2 it (Ne.symm hne)).trans q, hne⟩, fun b hb => ?_⟩
    · rw [show ((i + 1 : Nat) : Int) = (i : Int) + 1 by omega]
      exact he'
    · have hb' : b < s.heap.objs.size := by
        rcases (show b = e ∨ b = it by simpa using hb) with z | z
        · exact z ▸ hel
        · exact z ▸ hil
      rw [upd_ne (Nat.ne_of_lt hb')]
      exact (hf b hb).1
  done := by
    intro X hP hw hK hc i pins s σ H E I hf st hg
    cases hP; cases hw; cases hK
    obtain ⟨⟨old, he⟩, hit, hne⟩ := st
    obtain ⟨xs, hq, hx⟩ := hg
    obtain ⟨its, rv, p, hz⟩ := I.tuple hq
    obtain ⟨oi, hoi, hci, hdi⟩ := id hit
    have nai : a ≠ it := tup_ne p hoi hci (by decide)
    obtain ⟨f0, f1, f2, f3, f4, f5⟩ := hf it (by simp)
    have hl := rv.length
    exact zEnumEnd (I.ok.hd hc) he hit (show s.heap.IsTuple a its.toArray from p) (by simp; omega) fun h' eb => ⟨rfl, I.turned (t' := s.toks) (fun b o hb q => eb b o hb q) f0 f1 f3 f4 f5⟩
  self := fun A i s Q E st h => let ⟨⟨_, he⟩, _⟩ := st; wpAny_pyIter_enum he h

/-- enumerate of a list or of a tuple -/
def iEnumA (K : PySem.W.Frag) (ta : TA) : TI := fun σ H R => ta σ H fun vs H1 => ∃ a xs, vs = [.ref a] ∧ ((SqL K H1 a xs ∧ R (Ite K a) H1) ∨ (SqT K H1 a xs ∧ R (IteT K a) H1))
theorem pi_enumA {X : Cx} {e : Expr} {ta : TA} {p pos tpos : Pos} {elts : List Expr} {kk : Nat} (hg : Gl X "enumerate") (hm : X.mg "enumerate" = none) (ha : PA X [e] ta) (hs : starEach [e] X.env = [(false, eval e X.env)] := by rfl) :
    PI X (.Tuple elts kk tpos) (.Call (.Name "enumerate" p) [e] [] pos) (iEnumA X.K ta) := by
  refine ⟨fun pins s σ H R I h => Call_ (ld_blt I hg hm boot_enumerate (PyProof.Rows.callWith_type1 (thn (ha.run pos pins s σ H _ I h) fun us s1 ⟨vs, H1, I1, r1, a, xs, ex, hq⟩ => ?_) hs rfl))⟩
  subst ex
  cases r1 with
  | cons r rr =>
    cases rr
    cases r
    have fp : ∀ b ∈ [s1.heap.objs.size + 1, s1.heap.objs.size], FpOk X pins H1 b := fun b hb => by
      have hle : s1.heap.objs.size ≤ b := by
        rcases (show b = s1.heap.objs.size + 1 ∨ b = s1.heap.objs.size by simpa using hb) with z | z
        · exact z ▸ Nat.le_add_right _ _
        · exact z ▸ Nat.le_refl _
      exact I1.fpOk hle (I1.hok.fresh hle)
    rcases hq with ⟨hq, q⟩ | ⟨hq, q⟩
    · obtain ⟨its, rv, p', hz⟩ := I1.list hq
      refine call_enumerate_list p'.isList fun h' he hit hsz hk => wpAny_pyIter_enum he ?_
      exact ⟨s1.heap.objs.size + 1, _, _, _, H1, rfl, I1.kept (t' := s1.toks) hk, turn_enum a (s1.heap.objs.size + 1) s1.heap.objs.size, ⟨⟨.none, he⟩, hit, Nat.succ_ne_self _⟩, fp, q⟩
    · obtain ⟨its, rv, p', hz⟩ := I1.tuple hq
      refine zEnumCall (show s1.heap.IsTuple a its.toArray from p') fun h' he hit hsz hk => wpAny_pyIter_enum he ?_
      exact ⟨s1.heap.objs.size + 1, _, _, _, H1, rfl, I1.kept (t' := s1.toks) hk, turn_enumT a (s1.heap.objs.size + 1) s1.heap.objs.size, ⟨⟨.none, he⟩, hit, Nat.succ_ne_self _⟩, fp, q⟩
theorem walk_enumT {K : PySem.W.Frag} {a : Addr} {xs : List V} : Walk (IteT K a) xs.length (fun H => SqT K H a xs) (YPair (fun i => some (.int (i : Nat))) (fun i => xs[i]?)) :=
  ⟨fun i H hi g => ⟨xs, xs[i], g, by simp [hi]⟩, fun H g => ⟨xs, g, Nat.le_refl _⟩, fun i H x H' hi g y => by
    obtain ⟨T, z, e1, e2, e3, e4⟩ := y
    exact ⟨T, _, z, e1, e2, e3, rfl, e4 xs g⟩⟩
section
variable {K : PySem.W.Frag} {σ : L2.St} {H G : Hp} {W : Wl} {nx : L2.St → Hp → Prop} {rt : VK} {tb : TS} {a : Addr} {xs : List V} {ta : TA} {R : It → Hp → Prop}
theorem st_iEnumA (h : ta σ H fun vs H1 => ∃ a xs, vs = [.ref a] ∧ ((SqL K H1 a xs ∧ R (Ite K a) H1) ∨ (SqT K H1 a xs ∧ R (IteT K a) H1))) : iEnumA K ta σ H R := h
/-- for i, x in enumerate(a list or tuple) -/
theorem for_enumA (hx : SqL K G a xs ∨ SqT K G a xs) {i1 i2 : Nat} (I : Nat → L2.St → Hp → Wl → Prop) (w : Wd G W H) (h0 : I 0 σ G W)
    (hs : ∀ (i : Nat) x σ' G' G'' W' H', xs[i]? = some x → Same G G' → I i σ' G' W' → Same G' G'' → Wd G'' W' H' → tb ⟨Btw I G (i + 1), rt, nx, Btw I G (i + 1)⟩ ((σ'.set i1 (some (.int (i : Int)))).set i2 (some x)) H')
    (hd : ∀ σ' G' W' H', Same G G' → Wd G' W' H' → I xs.length σ' G' W' → nx σ' H') :
    ∃ a' ys, [V.ref a] = [.ref a'] ∧ ((SqL K H a' ys ∧ LoopQ (Ite K a') (gTup K 2 (gCons (gName i1) (gCons (gName i2) gNil))) tb nx rt σ H) ∨ (SqT K H a' ys ∧ LoopQ (IteT K a') (gTup K 2 (gCons (gName i1) (gCons (gName i2) gNil))) tb nx rt σ H)) := by
  have step : ∀ (i : Nat) (x : V) (σ' : L2.St) (G' : Hp) (W' : Wl) (H' H'' : Hp), i < xs.length → Same G G' → Wd G' W' H' → I i σ' G' W' → YPair (fun i => some (.int (i : Nat))) (fun i => xs[i]?) i H' x H'' →
      gTup K 2 (gCons (gName i1) (gCons (gName i2) gNil)) x σ' H'' fun σ2 H2 => tb ⟨Btw I G (i + 1), rt, nx, Btw I G (i + 1)⟩ σ2 H2 := fun i x σ' G' W' H' H'' _ e w' h y => by
    obtain ⟨T, x1, x2, rfl, hn, rfl, e1, e2⟩ := y
    cases e1
    refine ⟨T, _, rfl, SqT.of upd_same, rfl, _, _, rfl, ?_⟩
    refine ⟨_, _, rfl, ?_⟩
    exact ⟨rfl, hs i x2 σ' G' _ W' _ e2 e h (same_upd (w'.free hn)) (w'.new hn)⟩
  rcases hx with hx | hx
  · exact ⟨a, xs, rfl, .inl ⟨seq_up w hx, loop_go walk_enum I w (fun _ _ _ e w' => seq_up w' (e.seq hx)) h0 step hd⟩⟩
  · exact ⟨a, xs, rfl, .inr ⟨tup_up w hx, loop_go walk_enumT I w (fun _ _ _ e w' => tup_up w' (seqT e hx)) h0 step hd⟩⟩
end

/-! ### a list or a tuple -/
def iSeqA (K : PySem.W.Frag) (tl : TE) : TI := fun σ H R => iList K tl σ H R ∨ iTup K tl σ H R
theorem pi_seqA {X : Cx} {tg l : Expr} {tl : TE} (h : PE X l tl) : PI X tg l (iSeqA X.K tl) := ⟨fun pins s σ H R I q => q.elim (fun q => (pi_list h).run pins s σ H R I q) fun q => (pi_tup h).run pins s σ H R I q⟩
section
variable {K : PySem.W.Frag} {σ : L2.St} {H G : Hp} {W : Wl} {nx : L2.St → Hp → Prop} {rt : VK} {g : TG} {tb : TS} {a : Addr} {xs : List V} {tl : TE} {tt : TT} {te : TE} {vs : List Nat} {Q : VK} {j : Nat}
theorem for_seq (ht : ∀ Q : VK, Q (.ref a) H → tl σ H Q) (hx : SqL K G a xs ∨ SqT K G a xs) (I : Nat → L2.St → Hp → Wl → Prop) (w : Wd G W H) (h0 : I 0 σ G W)
    (hs : ∀ i x σ' G' W' H', xs[i]? = some x → Same G G' → Wd G' W' H' → I i σ' G' W' → g x σ' H' fun σ2 H2 => tb ⟨Btw I G (i + 1), rt, nx, Btw I G (i + 1)⟩ σ2 H2)
    (hd : ∀ σ' G' W' H', Same G G' → Wd G' W' H' → I xs.length σ' G' W' → nx σ' H') : iSeqA K tl σ H fun J H1 => LoopQ J g tb nx rt σ H1 := by
  rcases hx with hx | hx
  · exact .inl (st_iList (ht _ (for_l hx I w h0 hs hd)))
  · exact .inr (st_iTup (ht _ (for_t hx I w h0 hs hd)))
theorem lc_t (hx : SqT K G a xs) (I : Nat → List V → Hp → Prop) (w : Wd G W H) (h0 : I 0 [] G) (hw : ∀ x, wipe ((wipe σ vs).set j x) vs = wipe σ vs)
    (hs : ∀ (i : Nat) x D G' H' acc, xs[i]? = some x → Same G G' → Wd G' ((D, Is (.lst acc)) :: W) H' → I i acc G' → tt ((wipe σ vs).set j (some x)) H' fun b H3 =>
      if b = true then te ((wipe σ vs).set j (some x)) H3 fun y H4 => ∃ acc, H4 D = some (.lst acc) ∧ acc.length < sizeLine ∧ LcB I G W D (i + 1) (upd H4 D (.lst (acc ++ [y]))) else LcB I G W D (i + 1) H3)
    (hd : ∀ D G' H' acc, Same G G' → Wd G' ((D, Is (.lst acc)) :: W) H' → I xs.length acc G' → Q (.ref D) H') : ∃ a', V.ref a = .ref a' ∧ (∃ xs, SqT K H a' xs) ∧ LcQ (Itt K a') (gName j) tt te vs σ H Q :=
  ⟨a, rfl, ⟨xs, tup_up w hx⟩, lc_go walk_tup I w (fun _ _ _ e w' => tup_up w' (seqT e hx)) h0 (fun i x D G' H' H'' acc _ e w' h y => by
    obtain ⟨rfl, y⟩ := y
    exact ⟨hw _, hs i x D G' H'' acc y e w' h⟩) hd⟩
theorem lc_seq (ht : ∀ Q : VK, Q (.ref a) H → tl σ H Q) (hx : SqL K G a xs ∨ SqT K G a xs) (I : Nat → List V → Hp → Prop) (w : Wd G W H) (h0 : I 0 [] G) (hw : ∀ x, wipe ((wipe σ vs).set j x) vs = wipe σ vs)
    (hs : ∀ (i : Nat) x D G' H' acc, xs[i]? = some x → Same G G' → Wd G' ((D, Is (.lst acc)) :: W) H' → I i acc G' → tt ((wipe σ vs).set j (some x)) H' fun b H3 =>
      if b = true then te ((wipe σ vs).set j (some x)) H3 fun y H4 => ∃ acc, H4 D = some (.lst acc) ∧ acc.length < sizeLine ∧ LcB I G W D (i + 1) (upd H4 D (.lst (acc ++ [y]))) else LcB I G W D (i + 1) H3)
    (hd : ∀ D G' H' acc, Same G G' → Wd G' ((D, Is (.lst acc)) :: W) H' → I xs.length acc G' → Q (.ref D) H') : iSeqA K tl σ H fun J H1 => LcQ J (gName j) tt te vs σ H1 Q := by
  rcases hx with hx | hx
  · exact .inl (st_iList (ht _ (lc_l hx I w h0 hw hs hd)))
  · exact .inr (st_iTup (ht _ (lc_t hx I w h0 hw hs hd)))
end
end Z

/-! defs that ask what guards stand around them (repr of data) -/
namespace Z
open PySem PySem.Spec PyProof.Rows L2
/-- a promise kept where no guard stands around -/
structure FnG (P : Program) (w : World) (K : PySem.W.Frag) (mg : Str → Option Value) (base : Heap) (k : Nat) (f : Addr) (fd : FuncData) (ps : List Str) (sp : Sp) : Prop where
  len : ∀ vs H Q E, sp vs H Q E → vs.length = ps.length
  run : ∀ (A : Around) (outer : List Env) (s : Shared) (H : Hp) (args : Args) (us : List Value) (vs : List V) (Q : VK) (E : XK), Room k A → A.guards = some [] → Env0 P w K mg base A outer s H → BindsTo s fd args (ps.zip us) → Vals vs us → sp vs H Q E →
    codeAny (model P w) A (.call (.ref f) args) (CR CX0 outer P w H s Q E) s
theorem FnG.of {P : Program} {w : World} {K : PySem.W.Frag} {mg : Str → Option Value} {base : Heap} {k : Nat} {f : Addr} {fd : FuncData} {ps : List Str} {sp : Sp} (F : FnOk P w K mg base CX0 k f fd ps sp) : FnG P w K mg base k f fd ps sp :=
  ⟨F.len, fun A outer s H args us vs Q E hr _ e0 hb r h => F.run A outer s H args us vs Q E hr e0 hb r h⟩
section
variable {P : Program} {w : World} {K : PySem.W.Frag} {mg : Str → Option Value} {base : Heap} {x qual : Str} {params : Arguments} {body : List Stmt} {scope : Scope} {dvs : List V} {kws : List (Str × V)} {f : Addr} {fd : FuncData}
theorem okG {N ps : List Str} {k : Nat} {sp : Sp} (F : FunD K x qual params body scope dvs kws f fd) (S : FnScope N ps scope) (len : ∀ vs H Q E, sp vs H Q E → vs.length = ps.length)
    (hbody : ∀ (cdv : Value) (A : Around) (outer : List Env) (s : Shared) (H : Hp) (vs : List V) (Q : VK) (E : XK), A.guards = some [] → Room k (A.deeper (envOfC qual scope s.heap.objs.size f cdv)) → sp vs H Q E →
      ∃ t, PSs (cxOf CX0 P w K mg base N qual scope f cdv A outer s H E).nox body t ∧ t { nx := fun _ H' => Q .non H', rt := Q } (start N vs) H) : FnG P w K mg base (k + 1) f fd ps sp := by
  obtain ⟨oc, od, dV, kV, doc, pm, an, cdv, ct, osl, rfl, lk, hcd, _, _⟩ := F.ex
  refine ⟨len, fun A outer s H args us vs Q E hr hgd e0 hb r hsp => ?_⟩
  have KX : K.In s.heap := e0.mod.kin.keeps fun b o e => (e0.bs b o e).1
  have kd : ∀ y ∈ ps.zip us, scope.names.lookup y.1 = some .local ∨ (scope.names.lookup y.1 = some .cell ∧ ((cellsFrom (s.heap.objs.size + 1) scope.names []).lookup y.1).isSome = true) := fun y hy =>
    (S.par y.1 (List.of_mem_zip (a := y.1) (b := y.2) hy).1).imp (fun q => q) fun q => ⟨q, PySem.W.cellsFrom_some _ _ _ (.inl q)⟩
  refine codeAny_call_function hr.depth (KX _ _ lk) rfl S.co S.gen rfl (PySem.W.codeRec_of KX hcd) (hb _ _ _ _ (wpAny_newFunctionEnv_cells S.kind kd fun env he s1 y => ?_))
  cases he
  obtain ⟨t, ht, hq⟩ := hbody cdv A outer s H vs Q E hgd (hr.deeper _) hsp
  refine ⟨(e0.mod.nolimit.keeps fun b o e => (e0.bs b o e).1).keeps y.toInCall.keep, codeAny_func (wpAny_mono (ht.nox.run [] s1 (start N vs) H _ (inv_start S hr.hd e0 (len _ _ _ _ hsp) r y) hq) (fun fl s' hs => ?_) fun e s' hs => hs)⟩
  cases fl with
  | ret u => exact let ⟨v, _, H', J, rv, q⟩ := hs; ⟨v, H', J.os, J.bare, J.base, J.hok, rv, q⟩
  | next => exact let ⟨_, H', J, q⟩ := hs; ⟨.non, H', J.os, J.bare, J.base, J.hok, rfl, q⟩
  | brk => exact let ⟨_, _, _, q⟩ := hs; False.elim q
  | cont => exact let ⟨_, _, _, q⟩ := hs; False.elim q
end
section
variable {X : Cx} {k n : Nat} {f : Addr} {fd : FuncData} {ps ks : List Str} {ds : List Value} {dvs : List V} {sp : Sp} {E : XK} {x : Str} {p pos : Pos} {e : Expr} {es : List Expr} {kws : List Keyword} {t tk : TA} {g : List Value → List Value → List Value} {gV : List V → List V → List V}
theorem run_fnG {pins : List (Addr × Obj)} {σ : L2.St} {H : Hp} {s : Shared} {Q : VK} {us : List Value} {vs : List V} (F : FnG X.prog X.w X.K X.mg X.base k f fd ps sp) (hr : Room k X.A) (hgd : X.A.guards = some []) (hb : Binds X.K fd ps ds) (hd : Vals dvs ds)
    (I : Inv X pins σ H s) (r : Vals vs us) (h : sp (vs ++ dvs) H Q E) : wpAny (model X.prog X.w) X.A (call (.ref f) us) (EP X pins σ Q) X.xe s := by
  have r2 := r.append hd
  refine wpAny_call (codeAny_mono (F.run X.A X.stack s H ⟨us, []⟩ _ _ Q E hr hgd I.env0 (hb s us I.kIn (r2.length.symm.trans (F.len _ _ _ _ h))) r2 h) fun r s' hq => ?_)
  cases r with
  | error e => exact False.elim hq
  | ok fl => cases fl with
    | ret u => exact I.after hq
    | _ => exact False.elim hq
theorem pe_callG (F : FnG X.prog X.w X.K X.mg X.base k f fd ps sp) (hr : Room k X.A) (hgd : X.A.guards = some []) (hg : Gl X x) (hm : X.mg x = some (.ref f)) (hk : PySem.W.keepIn X.K (.ref f) = true) (hb : Binds X.K fd ps ds) (hd : Vals dvs ds)
    (ha : PA X (e :: es) t) (hdb : (x == ("__debug__" : Str)) = false := by decide) (he : starEach (e :: es) X.env = (false, eval e X.env) :: starEach es X.env := by rfl) (hpl : (backTo pos (starEach es X.env)).any (·.1) = false := by rfl) :
    PE X (.Call (.Name x p) (e :: es) [] pos) (tCall sp dvs E0 t) :=
  ⟨fun pins s σ H Q I h => wpAny_Call_Name_kw (ld_glob I hg hm (PySem.W.callWith_K (h₀ := X.base) I.ok.mod.kin hk (thn (ha.run pos pins _ σ H _ (I.tok _) h) fun us s1 ⟨vs, H1, I1, r, q⟩ => ⟨I1.kIn, run_fnG (E := E0) F hr hgd hb hd I1 r q⟩) he hpl) hdb)⟩
/-- repr of data -/
def rRepr (K : PySem.W.Frag) : List V → Hp → VK → Prop := fun xs H Q => ∃ x d, xs = [x] ∧ Dp K H x d ∧ d.showable = true ∧ d.canLay0 = true ∧ d.depth ≤ 60 ∧ d.shown.length ≤ sizeLine ∧ Q (.str d.shown) H
theorem call_reprD (hgd : X.A.guards = some []) (hu : X.A.units + 64 < cLine) : CallR X (.builtin "repr") (rRepr X.K) := by
  intro pins s σ H xs us Q I r h
  obtain ⟨x, d, rfl, hd, hs, hc, hp, hz, q⟩ := h
  obtain ⟨u, rfl, rx⟩ := vals1 r
  obtain ⟨as, rd⟩ := Dp.reads I d x u hd rx
  cases hd with
  | non =>
    cases rx
    exact PySem.P.repr_of_none ⟨.str _, H, I.tok _, ⟨_, rfl⟩, q⟩
  | bl b =>
    cases rx
    refine PySem.P.repr_of_bool ⟨.str _, H, I.tok _, ⟨_, rfl⟩, ?_⟩
    simpa [PyData.shown] using q
  | int i =>
    obtain ⟨t, rfl⟩ := rx
    refine PySem.P.repr_of_int (by simpa [PyData.showable] using hs) ⟨.str _, H, I.tok _, ⟨_, rfl⟩, ?_⟩
    simpa [PyData.shown] using q
  | str z =>
    obtain ⟨t, rfl⟩ := rx
    refine PySem.P.repr_of_str ⟨.str _, H, I.tok _, ⟨_, rfl⟩, ?_⟩ (by simpa [PyData.shown] using hz)
    simpa [PyData.shown] using q
  | lst _ _ =>
    cases rx
    exact repr_of_reads' rd hs (PyData.noDict_hsm (PyData.hasDict_of_canLay _ hc)) hgd (by omega) (fun _ _ e => e) (fun h' u tk hk => ⟨.str _, H, I.kept (t' := tk) hk, ⟨_, rfl⟩, q⟩) hz
  | tup _ _ =>
    cases rx
    exact repr_of_reads' rd hs (PyData.noDict_hsm (PyData.hasDict_of_canLay _ hc)) hgd (by omega) (fun _ _ e => e) (fun h' u tk hk => ⟨.str _, H, I.kept (t' := tk) hk, ⟨_, rfl⟩, q⟩) hz
end

/-! ### lists of ints put together -/
section
variable {K : PySem.W.Frag} {G H : Hp} {W : Wl} {Q : VK} {a b : Addr}
/-- a list of ints that stands whole -/
def HL (G : Hp) (a : Addr) (ns : List Int) : Prop := G a = some (.lst (ns.map V.int))
theorem HL.seq {ns : List Int} (h : HL G a ns) : SqL K G a (ns.map V.int) := SqL.of h
theorem HL.up {G' : Hp} {ns : List Int} (h : HL G a ns) (e : Same G G') : HL G' a ns := e _ _ h
theorem st_catI {xs ys : List Int} (ha : H a = some (.lst (xs.map V.int))) (hb : H b = some (.lst (ys.map V.int))) (hz : xs.length + ys.length ≤ 1000000) (w : Wd G W H) (k : ∀ p G' H', Same G G' → Wd G' W H' → HL G' p (xs ++ ys) → Q (.ref p) H') : rCat (.ref a) (.ref b) H Q := by
  refine ⟨a, b, _, _, rfl, rfl, ha, hb, small (by rw [List.length_map, List.length_map]; exact hz), fun p hp => ?_⟩
  rw [← List.map_append]
  exact k p _ _ (same_upd (w.free hp)) (w.new hp) upd_same
theorem st_catV {xs ys : List V} (ha : H a = some (.lst xs)) (hb : H b = some (.lst ys)) (hz : xs.length + ys.length ≤ 1000000) (w : Wd G W H) (k : ∀ p G' H', Same G G' → Wd G' W H' → G' p = some (.lst (xs ++ ys)) → Q (.ref p) H') : rCat (.ref a) (.ref b) H Q :=
  ⟨a, b, _, _, rfl, rfl, ha, hb, small hz, fun p hp => k p _ _ (same_upd (w.free hp)) (w.new hp) upd_same⟩
theorem flat_rep {α : Type} (n : Nat) (x : α) : (List.replicate n [x]).flatten = List.replicate n x := by
  induction n with
  | zero => rfl
  | succ n ih => rw [List.replicate_succ, List.flatten_cons, ih]; rfl
theorem st_repI {x k : Int} (ha : H a = some (.lst [.int x])) (h0 : 0 ≤ k) (h1 : k ≤ 1000000) (w : Wd G W H) (q : ∀ p G' H', Same G G' → Wd G' W H' → HL G' p (List.replicate k.toNat x) → Q (.ref p) H') : rRep (.ref a) (.int k) H Q := by
  refine ⟨a, k, _, rfl, rfl, ha, by omega, by omega, small (by simp; omega), fun p hp => ?_⟩
  rw [flat_rep]
  exact q p _ _ (same_upd (w.free hp)) (w.new hp) (by unfold HL; rw [upd_same, List.map_replicate])
theorem st_repI2 {xs : List Int} {k : Int} (ha : H a = some (.lst (xs.map V.int))) (h0 : 0 ≤ k) (h1 : xs.length * k.toNat ≤ 1000000) (h2 : k ≤ 1000000) (w : Wd G W H) (q : ∀ p G' H', Same G G' → Wd G' W H' → HL G' p (List.replicate k.toNat xs).flatten → Q (.ref p) H') : rRep (.ref a) (.int k) H Q := by
  refine ⟨a, k, _, rfl, rfl, ha, by omega, by omega, small (by rw [List.length_map]; exact h1), fun p hp => ?_⟩
  exact q p _ _ (same_upd (w.free hp)) (w.new hp) (by unfold HL; rw [upd_same, List.map_flatten, List.map_replicate])
theorem iteBT {c : Bool} {a b : Prop} (h : c = true) (q : a) : if c = true then a else b := by rw [if_pos h]; exact q
theorem iteBF {c : Bool} {a b : Prop} (h : c = false) (q : b) : if c = true then a else b := by rw [h]; exact L2.iteF q
theorem iteNT {a b : Prop} (h : a) : if (!false) = true then a else b := L2.iteT h
theorem iteNF {a b : Prop} (h : b) : if (!true) = true then a else b := L2.iteF h
theorem mem_two {v x y : V} {P : V → Prop} (h : v ∈ [x, y]) (h1 : P x) (h2 : P y) : P v := by
  rcases List.mem_cons.mp h with rfl | h
  · exact h1
  · rcases List.mem_cons.mp h with rfl | h
    · exact h2
    · exact nomatch h
end
section
variable {K : PySem.W.Frag} {H : Hp}
def dT (ns : List Int) : PyData := .tuple (ns.map .int)
theorem dp_tints {a : Addr} {ns : List Int} (h : SqT K H a (ns.map V.int)) : Dp K H (.ref a) (dT ns) := .tup h (dpInts ns)
theorem sh_tints (ns : List Int) : Sh 1 (dT ns) := Sh.tuple fun d hd => by
  obtain ⟨n, _, rfl⟩ := List.mem_map.mp hd
  exact .int n
theorem eqv_dT (a b : List Int) : PyData.eqv (dT a) (dT b) = decide (a = b) := by
  unfold dT PyData.eqv
  exact eqvAll_map _ eqv_int a b
/-- tuples of ints -/
theorem st_eqT {Q : VK} {a b : Addr} (xs ys : List Int) (hx : SqT K H a (xs.map V.int)) (hy : SqT K H b (ys.map V.int)) (q : Q (.bl (decide (xs = ys))) H) : rEqD K (.ref a) (.ref b) H Q :=
  st_eqD (dp_tints hx) (dp_tints hy) ((sh_tints xs).ok (by decide)) ((sh_tints ys).ok (by decide)) (eqv_dT xs ys) q
theorem st_neT {Q : VK} {a b : Addr} (xs ys : List Int) (hx : SqT K H a (xs.map V.int)) (hy : SqT K H b (ys.map V.int)) (q : Q (.bl (!decide (xs = ys))) H) : rNeD K (.ref a) (.ref b) H Q :=
  st_neD (dp_tints hx) (dp_tints hy) ((sh_tints xs).ok (by decide)) ((sh_tints ys).ok (by decide)) (eqv_dT xs ys) q
end
/-- all of a list -/
def AllP {α : Type} (P : α → Prop) : List α → Prop
  | [] => True
  | x :: xs => P x ∧ AllP P xs
theorem AllP.app {α : Type} {P : α → Prop} : ∀ {xs ys : List α}, AllP P xs → AllP P ys → AllP P (xs ++ ys)
  | [], _, _, h => h
  | _ :: _, _, h, h2 => ⟨h.1, AllP.app h.2 h2⟩
theorem AllP.of {α : Type} {P : α → Prop} : ∀ {xs : List α}, AllP P xs → ∀ x ∈ xs, P x
  | _ :: _, h, _, hx => by
    rcases List.mem_cons.mp hx with rfl | hx
    · exact h.1
    · exact AllP.of h.2 _ hx
/-! ### comprehensions whose elements change what may change -/
section
variable {K : PySem.W.Frag} {σ : L2.St} {H G : Hp} {D : Addr} {g : TG} {tt : TT} {te : TE} {vs : List Nat} {Q : VK} {a b : Addr} {xs ys : List V} {n : Nat}
theorem lc_goW {J : It} {Gp : Hp → Prop} {Y : Nat → Hp → V → Hp → Prop} (wk : Walk J n Gp Y) (Wf : Nat → Wl) (I : Nat → List V → Hp → Prop) (w : Wd G (Wf 0) H) (hG : ∀ G' W' H', Same G G' → Wd G' W' H' → Gp H') (h0 : I 0 [] G)
    (hs : ∀ i x D G' H' H'' acc, i < n → Same G G' → Wd G' ((D, Is (.lst acc)) :: Wf i) H' → I i acc G' → Y i H' x H'' → g x (wipe σ vs) H'' fun σ2 H2 => wipe σ2 vs = wipe σ vs ∧ tt σ2 H2 fun b H3 =>
      if b = true then te σ2 H3 fun y H4 => ∃ acc, H4 D = some (.lst acc) ∧ acc.length < sizeLine ∧ LcB I G (Wf (i + 1)) D (i + 1) (upd H4 D (.lst (acc ++ [y]))) else LcB I G (Wf (i + 1)) D (i + 1) H3)
    (hd : ∀ D G' H' acc, Same G G' → Wd G' ((D, Is (.lst acc)) :: Wf n) H' → I n acc G' → Q (.ref D) H') : LcQ J g tt te vs σ H Q := fun D hD =>
  lc_it wk (fun i => LcB I G (Wf i) D i) ⟨G, [], Same.refl _, w.newM hD rfl, h0⟩ (fun _ _ _ ⟨_, _, e, w', _⟩ => hG _ _ _ e w') (fun i x H' H'' hi ⟨G', acc, e, w', h⟩ y => hs i x D G' H' H'' acc hi e w' h y) fun H' ⟨G', acc, e, w', h⟩ => hd D G' H' acc e w' h
theorem lc_r1W {z : Int} {j : Nat} (hz : -(2 ^ 62) ≤ z ∧ z < 2 ^ 62) (Wf : Nat → Wl) (I : Nat → List V → Hp → Prop) (w : Wd G (Wf 0) H) (h0 : I 0 [] G) (hw : ∀ x, wipe ((wipe σ vs).set j x) vs = wipe σ vs)
    (hs : ∀ (i : Nat) D G' H' acc, (i : Int) < z → Same G G' → Wd G' ((D, Is (.lst acc)) :: Wf i) H' → I i acc G' → tt ((wipe σ vs).set j (some (.int (i : Int)))) H' fun b H3 =>
      if b = true then te ((wipe σ vs).set j (some (.int (i : Int)))) H3 fun y H4 => ∃ acc, H4 D = some (.lst acc) ∧ acc.length < sizeLine ∧ LcB I G (Wf (i + 1)) D (i + 1) (upd H4 D (.lst (acc ++ [y]))) else LcB I G (Wf (i + 1)) D (i + 1) H3)
    (hd : ∀ D G' H' acc, Same G G' → Wd G' ((D, Is (.lst acc)) :: Wf z.toNat) H' → I z.toNat acc G' → Q (.ref D) H') : ∃ j' : Int, [V.int z] = [.int j'] ∧ -(2 ^ 62) ≤ j' ∧ j' < 2 ^ 62 ∧ LcQ (Itr 0 j'.toNat) (gName j) tt te vs σ H Q :=
  ⟨z, rfl, hz.1, hz.2, lc_goW walk_range Wf I w (fun _ _ _ _ _ => trivial) h0 (fun i x D G' H' H'' acc hi e w' h y => by
    obtain ⟨rfl, rfl⟩ := y
    have e0 : (0 : Int) + (i : Int) = (i : Int) := Int.zero_add _
    dsimp only
    rw [e0]
    exact ⟨hw _, hs i D G' H'' acc (by omega) e w' h⟩) hd⟩
end
section
variable {K : PySem.W.Frag} {σ : L2.St} {H G : Hp} {W : Wl} {Q : VK} {a b : Addr} {xs ys : List V}
theorem st_chain {r r' : R2} {ta tb tc : TE} (h : ta σ H fun x H1 => tb σ H1 fun y H2 => r x y H2 fun z H3 => ∃ k, z = .bl k ∧ (if k = true then tc σ H3 fun w' H4 => r' y w' H4 Q else Q (.bl false) H3)) : tChain r r' ta tb tc σ H Q := h
theorem st_gtup {n : Nat} {t : TGs} {QS : L2.St → Hp → Prop} (hx : SqT K H a xs) (hl : xs.length = n) (h : t xs σ H QS) : gTup K n t (.ref a) σ H QS := ⟨a, xs, rfl, hx, hl, h⟩
theorem st_gcons {v : V} {r : List V} {t : TG} {u : TGs} {QS : L2.St → Hp → Prop} (h : t v σ H fun σ' H' => u r σ' H' QS) : gCons t u (v :: r) σ H QS := ⟨v, r, rfl, h⟩
theorem st_gnil {QS : L2.St → Hp → Prop} (h : QS σ H) : gNil [] σ H QS := ⟨rfl, h⟩
theorem Wd.is1 {o : HO} (w : Wd G ((a, Is o) :: W) H) : H a = some o := by
  obtain ⟨o', h, rfl⟩ := w.get List.mem_cons_self
  exact h
theorem st_appL {y : V} (h : H a = some (.lst xs)) (hl : xs.length < 1000000) (q : Q .non (upd H a (.lst (xs ++ [y])))) : rAppend (.ref a) [y] H Q := ⟨a, xs, y, rfl, rfl, h, small' (Nat.le_of_lt hl), q⟩
theorem st_sl {r : V → Option Int → Option Int → Hp → VK → Prop} {te : TE} {tl th : TO} (h : te σ H fun x H1 => tl σ H1 fun l H2 => th σ H2 fun u H3 => r x l u H3 Q) : tSl r te tl th σ H Q := h
theorem st_noPart {Q : Option Int → Hp → Prop} (q : Q none H) : tNoPart σ H Q := q
theorem st_part {Q : Option Int → Hp → Prop} {t : TE} (h : t σ H fun x H1 => ∃ i, x = .int i ∧ Q (some i) H1) : tPart t σ H Q := h
theorem cut_lo {xs : List V} {i : Int} (h0 : 0 ≤ i) (h1 : i ≤ xs.length) : cutV xs none (some i) = xs.take i.toNat := by
  unfold cutV
  simp only [HT.sIx, if_neg (show ¬ i < 0 by omega)]
  rw [List.drop_zero, Nat.sub_zero, Nat.min_eq_left (by omega)]
theorem cut_hi {xs : List V} {i : Int} (h0 : 0 ≤ i) (h1 : i ≤ xs.length) : cutV xs (some i) none = xs.drop i.toNat := by
  unfold cutV
  simp only [HT.sIx, if_neg (show ¬ i < 0 by omega)]
  rw [Nat.min_eq_left (by omega), List.take_of_length_le]
  rw [List.length_drop]
  omega
theorem st_slL {lo hi : Option Int} (h : SqL K H a xs) (w : Wd G W H) (q : ∀ p G' H', Same G G' → Wd G' W H' → G' p = some (.lst (cutV xs lo hi)) → Q (.ref p) H') : rSlL K (.ref a) lo hi H Q := ⟨a, xs, rfl, h, NewO.good w q⟩
theorem dw_ok {i j : Int} (h0 : 0 < j) (h1 : j < 2 ^ 250) : CDivW i j := by
  have h2 : j.natAbs.log2 < 250 := (Nat.log2_lt (by omega)).mpr (by omega)
  exact ⟨h0, by omega⟩
theorem pw_ok {i j : Int} (h0 : 0 ≤ i) (h1 : i < 2 ^ 100) (h2 : 0 ≤ j) (h3 : j ≤ 1000) : CPowW i j := by
  refine ⟨h2, ?_⟩
  have h4 : Builtin.Int.intBits i ≤ 100 := PyProof.Rows.intBits_le (by omega)
  have h5 : (Builtin.Int.intBits i : Int) ≤ 100 := by omega
  have h6 := Int.mul_le_mul h5 h3 h2 (by decide)
  omega
end
/-! ### the law itself -/
section
variable {P : Program} {w : World} {K : PySem.W.Frag} {mg mb : Str → Option Value} {k : Nat} {fa a : Addr} {fd : FuncData} {x : Str} {sp : Sp} {s₁ : Shared} {vs : List Value} {ns : List Int}
/-- the heap behind the top without what H tells -/
theorem hid_ns {h : Heap} {H : Hp} {b : Addr} {m : Str → Option Value} {va : Array Value} (hA : ∀ b, H b ≠ none → b = a) (ha : h.get? a = some { cls := .type "list", data := .seq va }) (n : h.Ns b m) : (hidT h H).Ns b m := by
  obtain ⟨o, es, ep, e, d, r⟩ := n
  refine ⟨o, es, ep, hidT_get e ?_, d, r⟩
  cases q : H b with
  | none => rfl
  | some u =>
    rw [hA b (by rw [q]; exact fun z => nomatch z), ha] at e
    have e2 := Option.some.inj e
    rw [← e2] at d
    exact nomatch d
theorem law_core (KX : K.In s₁.heap) (hns : s₁.heap.Ns mainGlobals mg) (hb : s₁.heap.Ns builtinsNs mb) (hbb : ∀ x : Str, x ≠ "__name__" → mb x = bootBuiltins x) (hlim : s₁.heap.NoLimit) (hg : s₁.gens = #[])
    (ha : s₁.heap.get? a = some { cls := .type "list", data := .seq vs.toArray }) (hr : Room k callerA) (F : ∀ base : Heap, K.In base → base.Ns mainGlobals mg → FnG P w K mg base k fa fd [x] sp) (hbind : ∀ (s : Shared) (u : Value), BindsTo s fd ⟨[u], []⟩ [(x, u)])
    {H : Hp} (hO : Only H) (hsp : sp [.ref a] H (fun v _ => v = .bl true) fun _ _ _ => False) (hok : HOk P w H s₁.heap) (hA : ∀ b, H b ≠ none → b = a) (hK : H a ≠ none → K.lookup a = none) :
    codeAny (model P w) callerA (.call (.ref fa) ⟨[.ref a], []⟩) (fun r s' => r = .ok (.ret (.bool true)) ∧ OldK s₁.heap s'.heap ∧ s'.os = s₁.os ∧ AllBare s'.gens) s₁ := by
  have hKb : K.In (hidT s₁.heap H) := fun b o e => hidT_get (KX b o e) (by
    cases q : H b with
    | none => rfl
    | some u =>
      have n : H b ≠ none := by rw [q]; exact fun z => nomatch z
      have eb := hA b n
      rw [eb] at n e
      rw [hK n] at e
      exact nomatch e)
  have M : Mod K mg (hidT s₁.heap H) := ⟨hKb, hid_ns hA ha hns, ⟨mb, hid_ns hA ha hb, hbb⟩, let ⟨mc, h1, h2⟩ := hlim; ⟨mc, hid_ns hA ha h1, h2⟩⟩
  have e0 : Env0 P w K mg (hidT s₁.heap H) callerA [] s₁ H := ⟨rfl, M, fun b o e => of_hidT e, Nat.le_of_eq (hidT_size _ _), trivial, fun b z => (List.not_mem_nil z).elim, hok, .of_eq hg⟩
  refine codeAny_mono ((F _ hKb (hid_ns hA ha hns)).run callerA [] s₁ H ⟨[.ref a], []⟩ [.ref a] [.ref a] _ _ hr rfl e0 (hbind s₁ (.ref a)) (.cons rfl .nil) hsp) fun r s' h => ?_
  cases r with
  | error e => exact False.elim h
  | ok fl => cases fl with
    | ret u =>
      obtain ⟨v, H', os, bare, un, hok', r', q⟩ := h
      cases (show v = .bl true from q)
      cases (show u = Value.bool true from r')
      refine ⟨rfl, OldK.of_keep fun b o e => ?_, os, bare⟩
      cases z : H b with
      | none => exact un.keep b o e z (List.not_mem_nil) (List.not_mem_nil)
      | some u =>
        rcases hO b with y | ⟨ob, xs, y⟩
        · rw [z] at y
          cases y
        · have e1 := (hok b _ y).1
          have e2 := (hok' b _ (un.frzs b ob _ y)).1
          rw [e] at e1
          cases e1
          exact e2
    | _ => exact False.elim h
theorem law_callG (KX : K.In s₁.heap) (hns : s₁.heap.Ns mainGlobals mg) (hb : s₁.heap.Ns builtinsNs mb) (hbb : ∀ x : Str, x ≠ "__name__" → mb x = bootBuiltins x) (hlim : s₁.heap.NoLimit) (hg : s₁.gens = #[])
    (ha : s₁.heap.get? a = some { cls := .type "list", data := .seq vs.toArray }) (hi : IntsAre vs ns) (hl : ns.length ≤ sizeLine) (hr : Room k callerA) (F : ∀ base : Heap, K.In base → base.Ns mainGlobals mg → FnG P w K mg base k fa fd [x] sp)
    (hbind : ∀ (s : Shared) (u : Value), BindsTo s fd ⟨[u], []⟩ [(x, u)]) (hsp : ∀ H : Hp, Only H → SqL K H a (ns.map V.int) → sp [.ref a] H (fun v _ => v = .bl true) fun _ _ _ => False) :
    codeAny (model P w) callerA (.call (.ref fa) ⟨[.ref a], []⟩) (fun r s' => r = .ok (.ret (.bool true)) ∧ OldK s₁.heap s'.heap ∧ s'.os = s₁.os ∧ AllBare s'.gens) s₁ := by
  have rv := vals_ints hi
  cases hk : K.lookup a with
  | some o =>
    have e := KX a o hk
    rw [ha] at e
    cases e
    have hO : Only fun _ => none := fun _ => .inl rfl
    exact law_core KX hns hb hbb hlim hg ha hr F hbind hO (hsp _ hO (.inr ⟨_, vs.toArray, _, hk, rfl, rfl, rfl, by rw [List.size_toArray, hi.length]; exact hl, by simpa using rv⟩)) (fun b u z => nomatch z) (fun b z => (z rfl).elim) fun z => (z rfl).elim
  | none =>
    have hO : Only fun b => if b = a then some (.frz { cls := .type "list", data := .seq vs.toArray } (.lst (ns.map V.int))) else none := fun b => by
      by_cases z : b = a
      · exact .inr ⟨_, _, if_pos z⟩
      · exact .inl (if_neg z)
    refine law_core KX hns hb hbb hlim hg ha hr F hbind hO (hsp _ hO (.inl (.inr ⟨_, if_pos rfl⟩))) (fun b u z => ?_) (fun b z => ?_) fun _ => hk
    · by_cases y : b = a
      · have z2 := (if_pos y).symm.trans z
        cases z2
        cases y
        exact ⟨ha, by rw [List.length_map]; exact hl, vs, _, rv, ha⟩
      · exact nomatch (if_neg y).symm.trans z
    · exact Decidable.byContradiction fun y => z (if_neg y)
end
theorem walk_G {l : PySem.W.OpenLaw} {n k : Nat} {q : Program} {loose : List Str} {XP : (Str → Option Value) → Heap → Prop} {YP : World → Heap → Prop} {d : DefRec} {K : Params → PySem.W.Frag} {sp : World → Sp} {x : Str} (hn : l.most = some n) (hn2 : n ≤ sizeLine) (hdf : d.params.defaults = [])
    (hr : Room k callerA) (hY : ∀ (w : World) (h : Heap), YP w h → (K w.params).In h)
    (F : ∀ (w : World) (mg : Str → Option Value) (fa : Addr) (h : Heap), (K w.params).In h → h.Ns mainGlobals mg → mg d.name = some (.ref fa) →
      ∃ fd : FuncData, (∀ (s : Shared) (u : Value), BindsTo s fd ⟨[u], []⟩ [(x, u)]) ∧ ∀ base : Heap, (K w.params).In base → base.Ns mainGlobals mg → FnG l.prog w (K w.params) mg base k fa fd [x] (sp w))
    (hsp : ∀ (w : World) (H : Hp) (a : Addr) (ns : List Int), ns.length ≤ n → Only H → SqL (K w.params) H a (ns.map V.int) → sp w [.ref a] H (fun v _ => v = .bl true) fun _ _ _ => False) :
    PySem.W.WalkO q loose XP YP l.row.toRowW d [] (fun f vs => PySem.call f vs) := by
  refine Att.attach_call hn hdf fun w s₀ s₁ mg mb fa o pm cd doc a vs ns G Y ho hd hcd hmg hobj hints hlen hg => ?_
  obtain ⟨fd, hb, hF⟩ := F w mg fa _ (hY w _ Y) G.T.g hmg
  exact law_callG (hY w _ Y) G.T.g G.T.b G.T.builtins G.T.nolimit hg hobj hints (Nat.le_trans hlen hn2) hr hF hb fun H hO hS => hsp w H a ns hlen hO hS
end Z

/-! data of a small size: kinds, repr, places in lists -/
namespace Z
open PySem PySem.Spec PyProof.Rows L2
/-- data whose repr may be asked: n deep -/
def Od (n : Nat) (d : PyData) : Prop := (d.canLay0 && d.showable && d.intsShort 60) = true ∧ d.depth ≤ n ∧ d.weight ≤ 200 * 10 ^ n
instance (n : Nat) (d : PyData) : Decidable (Od n d) := by unfold Od; infer_instance
theorem Od.mono {m n : Nat} {d : PyData} (h : Od m d) (e : m ≤ n) : Od n d := ⟨h.1, Nat.le_trans h.2.1 e, Nat.le_trans h.2.2 (Nat.mul_le_mul_left _ (Nat.pow_le_pow_right (by decide) e))⟩
theorem od_all {n : Nat} : ∀ {ds : List PyData}, (∀ d ∈ ds, Od n d) → (PyData.canLayAll0 ds && PyData.showableAll ds && PyData.intsShortAll 60 ds) = true ∧ PyData.depthAll ds ≤ n ∧ PyData.weightAll ds ≤ ds.length * (200 * 10 ^ n + 1)
  | [], _ => ⟨rfl, Nat.zero_le _, Nat.zero_le _⟩
  | d :: ds, h => by
    obtain ⟨a1, a2, a3⟩ := h d List.mem_cons_self
    obtain ⟨b1, b2, b3⟩ := od_all (ds := ds) fun x hx => h x (List.mem_cons_of_mem _ hx)
    simp only [Bool.and_eq_true] at a1 b1
    refine ⟨?_, ?_, ?_⟩
    · unfold PyData.canLayAll0 PyData.showableAll PyData.intsShortAll
      rw [a1.1.1, a1.1.2, a1.2, b1.1.1, b1.1.2, b1.2]
      rfl
    · unfold PyData.depthAll
      exact Nat.max_le.mpr ⟨a2, b2⟩
    · unfold PyData.weightAll
      rw [List.length_cons, Nat.add_mul]
      omega
theorem od_weight {n k : Nat} (h : k ≤ 9) : k * (200 * 10 ^ n + 1) ≤ 200 * 10 ^ (n + 1) := by
  have h1 : 1 ≤ 10 ^ n := Nat.pow_pos (by decide)
  have h2 : k * (200 * 10 ^ n + 1) ≤ 9 * (200 * 10 ^ n + 1) := Nat.mul_le_mul_right _ h
  rw [Nat.pow_succ]
  omega
theorem Od.list {n : Nat} {ds : List PyData} (h : ∀ d ∈ ds, Od n d) (hl : ds.length ≤ 9) : Od (n + 1) (.list ds) := by
  obtain ⟨a, b, c⟩ := od_all h
  refine ⟨?_, ?_, ?_⟩
  · unfold PyData.canLay0 PyData.showable PyData.intsShort
    exact a
  · unfold PyData.depth
    exact Nat.succ_le_succ b
  · unfold PyData.weight
    exact Nat.le_trans c (od_weight hl)
theorem Od.tuple {n : Nat} {ds : List PyData} (h : ∀ d ∈ ds, Od n d) (hl : ds.length ≤ 9) : Od (n + 1) (.tuple ds) := by
  obtain ⟨a, b, c⟩ := od_all h
  refine ⟨?_, ?_, ?_⟩
  · unfold PyData.canLay0 PyData.showable PyData.intsShort
    exact a
  · unfold PyData.depth
    exact Nat.succ_le_succ b
  · unfold PyData.weight
    exact Nat.le_trans c (od_weight hl)
/-- a longer list, its elements light -/
theorem weightAll_le {w0 : Nat} : ∀ {ds : List PyData}, (∀ d ∈ ds, d.weight ≤ w0) → PyData.weightAll ds ≤ ds.length * (w0 + 1)
  | [], _ => Nat.zero_le _
  | d :: ds, h => by
    have h1 := h d List.mem_cons_self
    have h2 := weightAll_le (ds := ds) fun x hx => h x (List.mem_cons_of_mem _ hx)
    unfold PyData.weightAll
    rw [List.length_cons, Nat.add_mul]
    omega
theorem Od.listW {n w0 : Nat} {ds : List PyData} (h : ∀ d ∈ ds, Od n d) (hw : ∀ d ∈ ds, d.weight ≤ w0) (hl : ds.length * (w0 + 1) ≤ 200 * 10 ^ (n + 1)) : Od (n + 1) (.list ds) ∧ (PyData.list ds).weight ≤ ds.length * (w0 + 1) := by
  obtain ⟨a, b, c⟩ := od_all h
  refine ⟨⟨?_, ?_, ?_⟩, ?_⟩
  · unfold PyData.canLay0 PyData.showable PyData.intsShort
    exact a
  · unfold PyData.depth
    exact Nat.succ_le_succ b
  · unfold PyData.weight
    exact Nat.le_trans (weightAll_le hw) hl
  · unfold PyData.weight
    exact weightAll_le hw
theorem log_lt {i : Int} {k : Nat} (h : i.natAbs < 2 ^ k) (h0 : 0 < k) : i.natAbs.log2 < k := by
  by_cases e : i.natAbs = 0
  · rw [e]
    exact h0
  · exact (Nat.log2_lt e).mpr h
theorem short13 {i : Int} (h : -999999999999 < i ∧ i < 999999999999) : (PyData.shown (.int i)).length ≤ 13 := by
  have h2 := intsShort_of_noneOrIn (lo := -999999999999) (hi := 999999999999) (by decide) (by decide) (.int i) (by simp [noneOrIn, h])
  unfold PyData.intsShort at h2
  exact of_decide_eq_true h2
theorem Od.int {n : Nat} {i : Int} (h : -999999999999 < i ∧ i < 999999999999) : Od n (.int i) := by
  have hl : i.natAbs.log2 < 64 := log_lt (by omega) (by decide)
  refine ⟨?_, ?_, ?_⟩
  · unfold PyData.canLay0 PyData.showable PyData.intsShort
    rw [decide_eq_true (show i.natAbs.log2 < 1920 by omega), decide_eq_true (Nat.le_trans (short13 h) (by decide))]
    rfl
  · unfold PyData.depth
    exact Nat.zero_le _
  · have h1 : 1 ≤ 10 ^ n := Nat.pow_pos (by decide)
    unfold PyData.weight
    split <;> omega
theorem Od.bool {n : Nat} (b : Bool) : Od n (.bool b) := (show Od 0 (.bool b) by cases b <;> decide).mono (Nat.zero_le _)
theorem strOk_of (s : String) : PyData.strOk (Str.ofString s) = true := by
  rw [Str.ofString_eq_toList]
  unfold PyData.strOk
  rw [List.all_toArray, List.all_eq_true]
  intro n hn
  obtain ⟨c, _, rfl⟩ := List.mem_map.mp hn
  refine decide_eq_true ?_
  rcases c.valid with h | h
  · exact Nat.lt_trans (show c.toNat < 55296 from h) (by decide)
  · exact h.2
theorem Od.strInt {n : Nat} {i : Int} (h : -999999999999 < i ∧ i < 999999999999) : Od n (.str (toString i)) := by
  have h2 : ((toString i : Str)).length ≤ 13 := by
    have := short13 h
    unfold PyData.shown at this
    exact this
  refine ⟨?_, ?_, ?_⟩
  · unfold PyData.canLay0 PyData.showable PyData.intsShort
    rw [strOk_of]
    rfl
  · unfold PyData.depth
    exact Nat.zero_le _
  · have h1 : 1 ≤ 10 ^ n := Nat.pow_pos (by decide)
    unfold PyData.weight
    have h3 : (toString i : Str).cps.size = (toString i : Str).length := rfl
    omega
theorem Od.rep {n : Nat} {d : PyData} (h : Od n d) (hn : n ≤ 3) : d.showable = true ∧ d.canLay0 = true ∧ d.depth ≤ 60 ∧ d.shown.length ≤ sizeLine := by
  obtain ⟨a, b, c⟩ := h
  simp only [Bool.and_eq_true] at a
  refine ⟨a.1.2, a.1.1, by omega, ?_⟩
  have h1 := PyData.shown_le 60 (by decide) d (PyData.leavesShort_of_canLay0 60 d a.1.1 a.2)
  have h2 : 10 ^ n ≤ 10 ^ 3 := Nat.pow_le_pow_right (by decide) hn
  have h3 : sizeLine = 16777216 := by decide
  omega
section
variable {X : Cx} {K : PySem.W.Frag} {G H : Hp} {x : V} {d : PyData} {Q : VK}
theorem st_repr {n : Nat} (h : Dp K H x d) (o : Od n d) (hn : n ≤ 3) (q : Q (.str d.shown) H) : rRepr K [x] H Q := let ⟨h1, h2, h3, h4⟩ := o.rep hn; ⟨x, d, rfl, h, h1, h2, h3, h4, q⟩
def nm : PyData → String
  | .none => "NoneType"
  | .bool _ => "bool"
  | .int _ => "int"
  | .str _ => "str"
  | .list _ => "list"
  | .tuple _ => "tuple"
  | .dict _ => "dict"
theorem dp_ty (h : Dp K H x d) : TyX K H x (.type (nm d)) := by
  cases h with
  | non => exact .base .non
  | bl b => exact .base (.bl b)
  | int i => exact .base (.int i)
  | str s => exact .base (.str s)
  | lst h _ => exact tyL h
  | tup h _ => exact tyT h
theorem dp_knd (h : Dp K H x d) : Knd K H x := by
  cases h with
  | non => exact .non
  | bl b => exact .bl b
  | int i => exact .int i
  | str s => exact .str s
  | lst h _ => exact .lst h
  | tup h _ => exact .tup h
def isTup : PyData → Bool
  | .tuple _ => true
  | _ => false
def isLst : PyData → Bool
  | .list _ => true
  | _ => false
def isI : PyData → Bool
  | .int _ => true
  | _ => false
def inR (lo hi : Int) : PyData → Bool
  | .int i => decide (lo ≤ i) && decide (i ≤ hi)
  | _ => false
theorem isInt_d (h : Dp K H x d) : isInt x = isI d := by cases h <;> rfl
theorem inRange_d {lo hi : Int} (h : Dp K H x d) : inRange lo hi x = inR lo hi d := by cases h <;> rfl
theorem isiD {T : String} {b : Bool} (h : Dp K H x d) (e : kitB (nm d) T = some b) (q : Q (.bl b) H) : rIsi K [x, .ty T] H Q := ⟨_, _, _, _, b, rfl, .ty _, dp_ty h, kit_ty e, q⟩
theorem kit_tup : kitB (nm d) "tuple" = some (isTup d) := by
  cases d with
  | none => exact (show kitB "NoneType" "tuple" = some false by decide +kernel)
  | bool b => exact (show kitB "bool" "tuple" = some false by decide +kernel)
  | int b => exact (show kitB "int" "tuple" = some false by decide +kernel)
  | str b => exact (show kitB "str" "tuple" = some false by decide +kernel)
  | list b => exact (show kitB "list" "tuple" = some false by decide +kernel)
  | tuple b => exact (show kitB "tuple" "tuple" = some true by decide +kernel)
  | dict b => exact (show kitB "dict" "tuple" = some false by decide +kernel)
theorem kit_lst : kitB (nm d) "list" = some (isLst d) := by
  cases d with
  | none => exact (show kitB "NoneType" "list" = some false by decide +kernel)
  | bool b => exact (show kitB "bool" "list" = some false by decide +kernel)
  | int b => exact (show kitB "int" "list" = some false by decide +kernel)
  | str b => exact (show kitB "str" "list" = some false by decide +kernel)
  | list b => exact (show kitB "list" "list" = some true by decide +kernel)
  | tuple b => exact (show kitB "tuple" "list" = some false by decide +kernel)
  | dict b => exact (show kitB "dict" "list" = some false by decide +kernel)
theorem isiLT {p : Addr} (hp : H p = some (.tup [.ty "list", .ty "tuple"])) (h : Dp K H x d) (q : Q (.bl (isLst d || isTup d)) H) : rIsiT K [x, .ref p] H Q := by
  refine ⟨_, p, _, _, _, isLst d || isTup d, rfl, hp, .cons (.ty _) (.cons (.ty _) .nil), dp_ty h, ?_, q⟩
  refine kB (r := isLst d) kit_lst (fun e => ?_) (fun e => by rw [e]; rfl)
  refine kB (r := isTup d) kit_tup (fun e2 => ?_) (fun e2 => by rw [e, e2]; rfl)
  rw [e, e2]
  rfl
end
section
variable {K : PySem.W.Frag} {G G' H : Hp} {W : Wl} {Q : VK} {v : V} {xs : List V} {n : Nat}
def SomeN (n : Nat) (K : PySem.W.Frag) (G : Hp) (v : V) : Prop := ∃ d, Dp K G v d ∧ Od n d
theorem SomeN.up (e : Same G G') (h : SomeN n K G v) : SomeN n K G' v := let ⟨d, h1, h2⟩ := h; ⟨d, dmono e h1, h2⟩
theorem SomeN.mono {m : Nat} (h : SomeN n K G v) (e : n ≤ m) : SomeN m K G v := let ⟨d, h1, h2⟩ := h; ⟨d, h1, h2.mono e⟩
theorem AllP.mk {α : Type} {P : α → Prop} : ∀ {xs : List α}, (∀ x ∈ xs, P x) → AllP P xs
  | [], _ => trivial
  | x :: _, h => ⟨h x List.mem_cons_self, AllP.mk fun y hy => h y (List.mem_cons_of_mem _ hy)⟩
theorem allN {n : Nat} : ∀ {xs : List V}, AllP (SomeN n K G) xs → ∃ ds, DpAll K G xs ds ∧ (∀ d ∈ ds, Od n d) ∧ ds.length = xs.length
  | [], _ => ⟨[], .nil, (fun _ h => nomatch h), rfl⟩
  | x :: xs, h => by
    obtain ⟨d, h1, h2⟩ := h.1
    obtain ⟨ds, h3, h4, h5⟩ := allN h.2
    refine ⟨d :: ds, .cons h1 h3, fun y hy => ?_, by rw [List.length_cons, List.length_cons, h5]⟩
    rcases List.mem_cons.mp hy with rfl | hy
    · exact h2
    · exact h4 y hy
theorem SomeN.lst {a : Addr} (hs : SqL K G a xs) (h : AllP (SomeN n K G) xs) (hl : xs.length ≤ 9) : SomeN (n + 1) K G (.ref a) := by
  obtain ⟨ds, h1, h2, h3⟩ := allN h
  exact ⟨.list ds, .lst hs h1, Od.list h2 (by omega)⟩
theorem SomeN.tup {a : Addr} (hs : SqT K G a xs) (h : AllP (SomeN n K G) xs) (hl : xs.length ≤ 9) : SomeN (n + 1) K G (.ref a) := by
  obtain ⟨ds, h1, h2, h3⟩ := allN h
  exact ⟨.tuple ds, .tup hs h1, Od.tuple h2 (by omega)⟩
theorem AllP.up (e : Same G G') (h : AllP (SomeN n K G) xs) : AllP (SomeN n K G') xs := AllP.mk fun x hx => (AllP.of h x hx).up e
theorem at_some {i : Int} (h0 : 0 ≤ i) (h1 : i < xs.length) : ∃ v, atI xs i = some v ∧ v ∈ xs := by
  obtain ⟨v, hv⟩ : ∃ v, xs[i.toNat]? = some v := ⟨_, List.getElem?_eq_getElem (by omega)⟩
  exact ⟨v, by rw [show i = (i.toNat : Int) by omega]; exact atI_nat hv, List.mem_of_getElem? hv⟩
end
end Z

/-! sets of ints out of lists, sorted; while; lists or tuples by index -/
namespace Z
open PySem PySem.Spec PyProof.Rows L2
/-- an empty set -/
def sObj (w : World) : Obj := { cls := .type "set", dict := none, data := .set #[] 0 (.fresh 0 0 (!w.params.followText "set-order")) }
section
variable {P : Program} {w : World} {A : Around} {E : Value → Shared → Prop} {s : Shared} {p0 : Addr} {its : Array Value} {Q : Value → Shared → Prop}
theorem set_of_list (zs : List Int) (h0 : A.handled = none) (hL : s.heap.IsList p0 its) (hI : IntsAre its.toList zs) (hB : zs.length + 1 < scanBound)
    (k : ∀ (h2 : Heap) (tk c : Nat), SetR w h2 s.heap.objs.size (fun j => decide (j ∈ zs)) c → c ≤ zs.length → (∀ b o, s.heap.get? b = some o → h2.get? b = some o) → Q (.ref s.heap.objs.size) { s with heap := h2, toks := tk }) :
    wpAny (model P w) A (call (.type "set") [.ref p0]) Q E s := by
  have hz : its.size = zs.length := by
    have q := IntsAre.length hI
    rwa [Array.length_toList] at q
  obtain ⟨c1, tl1, mr⟩ := PySem.F.called_set.mro
  have f1 := PySem.F.called_set.made
  have f2 := PySem.F.called_set.sub
  refine wpAny_call (codeAny_of_tree (show wpAny _ _ (callAny (.type "set") _) _ _ _ from wpAny_pure ⟨Code.quiet_builtin _ (by decide +kernel), codeAny_builtin PySem.F.entry_type_call ?_⟩))
  rw [Around.under_plain (weight_type_call_type "set" [.ref p0] []) rfl]
  have f3 := PySem.F.called_set.notType
  have f4 := PySem.F.called_set.canCreate
  have f5 := PySem.F.typeCall_set_1 (.ref p0)
  repeat (any_goals (first | assumption | wp_step))
  refine codeAny_mono (code_set_led1 (.ref p0) (E := E) (Q₁ := fun x t => x = .ref s.heap.objs.size ∧ t = { s with heap := s.heap.push (sObj w) }) ⟨rfl, rfl⟩) fun r t hr => ?_
  match r, hr with
  | .error _, hr => exact hr
  | .ok (.ret x), hr =>
    obtain ⟨rfl, rfl⟩ := hr
    have gS : (s.heap.push (sObj w)).get? s.heap.objs.size = some (sObj w) := Heap.get?_push_size _ rfl
    have tS : Shared.TypeIs { s with heap := s.heap.push (sObj w) } (.ref s.heap.objs.size) "set" := ⟨_, gS, rfl⟩
    have f6 := PySem.F.called_set.init.lookup
    have f7 := PySem.F.called_set.init.bind (.ref s.heap.objs.size)
    repeat (any_goals (first | assumption | wp_step))
    refine codeAny_mono (codeAny_call_builtin (R := wants (fun r t => r = .none ∧ ∃ h2 tk c, t = { s with heap := h2, toks := tk } ∧ SetR w h2 s.heap.objs.size (fun j => decide (j ∈ zs)) c ∧ c ≤ zs.length ∧
      ∀ b o, s.heap.get? b = some o → h2.get? b = some o) E) PySem.F.called_set.init.plain PySem.F.entry_set_init (check_set_init_1 tS ?_)) fun r t hr => ?_
    · obtain ⟨⟨oc, od, odt, osl⟩, e1, e2, nl, e3⟩ := hL
      simp only at e2 e3
      subst e2
      subst e3
      have g1 : (s.heap.push (sObj w)).get? p0 = some { cls := .type "list", dict := od, data := .seq its nl, slots := osl } := Heap.get?_push_of_some _ e1
      have f8 := PySem.F.sub_list_set
      have f9 := PySem.F.sub_list_frozenset
      have fA : (Value.type "list" == Value.type "dict") = false := by decide
      have iL : (s.heap.push (sObj w)).IsList p0 its := ⟨_, g1, rfl, nl, rfl⟩
      unfold Builtin.«set.__init__» noKeywords Builtin.Frozenset.updateFrom
      generalize hPI : pyIter = PI
      wp_walk
      subst hPI
      refine wpAny_pyIter_list iL ?_
      refine wpAny_bind (wpAny_runValue ?_)
      have lt0 : p0 < s.heap.objs.size := Heap.lt_size e1
      have h3 : A.in1.in1.in1.handled = none := by simp [h0]
      have sz1 : (s.heap.push (sObj w)).objs.size = s.heap.objs.size + 1 := Heap.size_push ..
      have ne1 : p0 ≠ (s.heap.push (sObj w)).objs.size := by rw [sz1]; exact Nat.ne_of_lt (Nat.lt_succ_of_lt lt0)
      have nf : s.heap.objs.size ∉ [(s.heap.push (sObj w)).objs.size, p0] := by
        rw [sz1]
        simp only [List.mem_cons, List.not_mem_nil, or_false, not_or]
        exact ⟨Nat.ne_of_lt (Nat.lt_succ_self _), Nat.ne_of_gt lt0⟩
      have hv : ∀ (i : Nat) (v : Value), its[i]? = some v → ∃ k t, zs[i]? = some k ∧ v = .int k t := fun i v hv => by
        have hi : i < zs.length := by rw [← hz]; exact (Array.getElem?_eq_some_iff.mp hv).1
        obtain ⟨t, e⟩ := PyProof.Rows.IntsAre.int_at hI i v (by rw [Array.getElem?_toList]; exact hv)
        refine ⟨zs[i], t, List.getElem?_eq_getElem hi, ?_⟩
        rw [e, List.getD_eq_getElem?_getD, List.getElem?_eq_getElem hi] <;> rfl
      refine set_update_ints ((Walks.list h3 _ p0 ne1 its).toS) s.heap.objs.size nf zs hz hB hv (its.size - 0) 0 _ (by omega) (Nat.zero_le _) ⟨⟨_, Heap.get?_push_size _ rfl, rfl, rfl⟩, iL.push _⟩ ?_ ?_
      · exact ⟨0, Nat.le_refl 0, setR_new_at (Heap.get?_push_of_some _ gS)⟩
      · intro t c hm hc hS
        obtain ⟨h2, g2, d2, tk, os2⟩ := t
        have x1 : g2 = s.gens := hm.gens
        have x2 : d2 = s.drawn := hm.drawn
        have x3 : os2 = s.os := hm.os
        subst x1
        subst x2
        subst x3
        refine show wpAny _ _ _ _ _ _ from wpAny_pure (show wpAny _ _ (ret Value.none) _ _ _ from wpAny_pure ⟨rfl, h2, tk, c, rfl, hS, by omega, fun b o e => ?_⟩)
        have y0 : b < s.heap.objs.size := Heap.lt_size e
        refine hm.heap b o ?_ (Heap.get?_push_of_some _ (Heap.get?_push_of_some _ e))
        simp only [List.mem_cons, List.not_mem_nil, or_false, not_or]
        refine ⟨Nat.ne_of_lt y0, ?_⟩
        rw [sz1]
        exact Nat.ne_of_lt (Nat.lt_succ_of_lt y0)
    · match r, hr with
      | .error _, hr => exact hr
      | .ok (.ret x), hr =>
        obtain ⟨rfl, h2, tk, c, rfl, hS, hc, hk⟩ := hr
        repeat (any_goals (first | assumption | wp_step))
        exact k _ _ _ hS hc hk
      | .ok .next, hr => exact hr.elim
      | .ok .brk, hr => exact hr.elim
      | .ok .cont, hr => exact hr.elim
  | .ok .next, hr => exact hr.elim
  | .ok .brk, hr => exact hr.elim
  | .ok .cont, hr => exact hr.elim
end
section
variable {X : Cx} {K : PySem.W.Frag} {H G : Hp} {W : Wl} {Q : VK} {a : Addr}
/-- set(xs), xs a list of ints -/
def rSetL (K : PySem.W.Frag) (w : World) : List V → Hp → VK → Prop := fun vs H Q => ∃ (l : Addr) (ns : List Int), vs = [.ref l] ∧ SqL K H l (ns.map V.int) ∧ ns.length ≤ 1000 ∧
  ∀ p n, H p = none → n ≤ ns.length → Q (.ref p) (upd H p (SetO w p (fun j => decide (j ∈ ns)) n))
theorem cr_setL (hc : X.calm = true) : CallR X (.type "set") (rSetL X.K X.w) := by
  intro pins s σ H vs us Q I r h
  obtain ⟨l, ns, rfl, hl, hk, q⟩ := h
  rw [Vals.ref1 r]
  obtain ⟨its, rv, pl, hz⟩ := I.list hl
  refine set_of_list (P := X.prog) (w := X.w) ns (I.ok.hd hc) pl.isList (by simpa using ints_of_vals rv) (by unfold scanBound; omega) fun h2 tk c R hcn k => ?_
  exact ⟨.ref s.heap.objs.size, upd H s.heap.objs.size (SetO X.w s.heap.objs.size (fun j => decide (j ∈ ns)) c), I.laid (t' := tk) k (Nat.le_refl _) (setO_new R), rfl, q _ c (I.hok.fresh (Nat.le_refl _)) hcn⟩
theorem st_setOf {w0 : World} {ns : List Int} (ha : SqL K H a (ns.map V.int)) (hl : ns.length ≤ 1000) (w : Wd G W H) (k : ∀ p n G' H', Same G G' → Wd G' W H' → n ≤ ns.length → H' p = some (SetO w0 p (fun j => decide (j ∈ ns)) n) → Q (.ref p) H') : rSetL K w0 [.ref a] H Q :=
  ⟨a, ns, rfl, ha, hl, fun p n hp hn => k p n _ _ (same_upd (w.free hp)) (w.new hp) hn upd_same⟩
theorem st_sortedSet {w0 : World} {S : Int → Bool} {n : Nat} (ha : H a = some (SetO w0 a S n)) (hn : n < 64) (w : Wd G W H)
    (k : ∀ p ns G' H', Same G G' → Wd G' W H' → HL G' p ns → ns.Pairwise (· < ·) → (∀ j : Int, j ∈ ns ↔ S j = true) → ns.length = n → Q (.ref p) H') : rSortedSet w0 [.ref a] H Q :=
  ⟨a, S, n, rfl, ha, hn, fun ns p h1 h2 h3 hp => k p ns _ _ (same_upd (w.free hp)) (w.new hp) upd_same h1 h2 h3⟩
/-- a list or a tuple by index -/
def rIxA (K : PySem.W.Frag) : R2 := fun x y H Q => ∃ p xs i v, x = .ref p ∧ y = .int i ∧ (SqL K H p xs ∨ SqT K H p xs) ∧ atI xs i = some v ∧ Q v H
theorem ix_seqA : IxR X (rIxA X.K) := by
  intro value slice pins s σ H x y v u Q I rx ry h hs
  obtain ⟨p, xs, i, z, rfl, rfl, hq | hq, he, q⟩ := h
  · exact ix_list value slice pins s σ H (.ref p) (.int i) v u Q I rx ry ⟨p, xs, i, z, rfl, rfl, hq, he, q⟩ hs
  · exact ix_tup value slice pins s σ H (.ref p) (.int i) v u Q I rx ry ⟨p, xs, i, z, rfl, rfl, hq, he, q⟩ hs
theorem st_ixA {xs : List V} {i : Int} {v : V} (h : SqL K H a xs ∨ SqT K H a xs) (e : atI xs i = some v) (q : Q v H) : rIxA K (.ref a) (.int i) H Q := ⟨a, xs, i, v, rfl, rfl, h, e, q⟩
end
/-! while -/
section
variable {c : TT} {tb : TS} {nx bk ct : L2.St → Hp → Prop} {rt : VK} {σ : L2.St} {H G : Hp} {W : Wl} {I : Nat → L2.St → Hp → Wl → Prop} {m : Nat}
def Wbt (I : Nat → L2.St → Hp → Wl → Prop) (G : Hp) (m : Nat) : L2.St → Hp → Prop := fun σ H => ∃ m2 G' W, m2 < m ∧ Same G G' ∧ Wd G' W H ∧ I m2 σ G' W
theorem st_wbt {m2 : Nat} {G' : Hp} (h : m2 < m) (e : Same G G') (w : Wd G' W H) (q : I m2 σ G' W) : Wbt I G m σ H := ⟨m2, G', W, h, e, w, q⟩
theorem wt_go (h : tb ⟨Wbt I G m, rt, nx, Wbt I G m⟩ σ H) : ∃ N : L2.St → Hp → Prop, (∀ σ' H', N σ' H' → ∃ m', m' < m ∧ ∃ G' W', Same G G' ∧ Wd G' W' H' ∧ I m' σ' G' W') ∧ tb ⟨N, rt, nx, N⟩ σ H :=
  ⟨Wbt I G m, fun _ _ ⟨m2, G', W', h1, h2, h3, h4⟩ => ⟨m2, h1, G', W', h2, h3, h4⟩, h⟩
theorem while_m (I : Nat → L2.St → Hp → Wl → Prop) (m : Nat) (w : Wd G W H) (h0 : I m σ G W)
    (hs : ∀ m σ' G' W' H', Same G G' → Wd G' W' H' → I m σ' G' W' → c σ' H' fun b H1 => if b = true then ∃ N : L2.St → Hp → Prop, (∀ σ' H', N σ' H' → ∃ m', m' < m ∧ ∃ G' W', Same G G' ∧ Wd G' W' H' ∧ I m' σ' G' W') ∧ tb ⟨N, rt, nx, N⟩ σ' H1 else nx σ' H1) :
    tWhile c tb ⟨nx, rt, bk, ct⟩ σ H := ⟨fun m σ H => ∃ G' W', Same G G' ∧ Wd G' W' H ∧ I m σ G' W', ⟨m, G, W, Same.refl _, w, h0⟩, fun m σ' H' ⟨G', W', e, w', h⟩ => hs m σ' G' W' H' e w' h⟩
end
/-! methods of lists -/
section
variable {K : PySem.W.Frag} {H : Hp} {Q : VK} {a : Addr}
theorem first_at {ns : List Int} {m : Int} (h : m ∈ ns) : ∃ j : Nat, j < ns.length ∧ ns[j]? = some m ∧ ∀ i : Nat, i < j → ns[i]? ≠ some m := by
  induction ns with
  | nil => exact nomatch h
  | cons x xs ih =>
    by_cases e : x = m
    · exact ⟨0, Nat.succ_pos _, by rw [e]; rfl, fun i hi => absurd hi (Nat.not_lt_zero i)⟩
    · obtain ⟨j, h1, h2, h3⟩ := ih ((List.mem_cons.mp h).resolve_left fun z => e z.symm)
      refine ⟨j + 1, Nat.succ_lt_succ h1, h2, fun i hi => ?_⟩
      cases i with
      | zero => exact fun z => e (Option.some.inj z)
      | succ i => exact h3 i (Nat.lt_of_succ_lt_succ hi)
theorem flat_ints : ∀ ns : List Int, (ns.map V.int).all flatV = true
  | [] => rfl
  | _ :: ns => flat_ints ns
/-- xs.index(m), m in xs -/
theorem st_indexI {ns : List Int} {m : Int} (ha : SqL K H a (ns.map V.int)) (hm : m ∈ ns) (q : ∀ j : Nat, j < ns.length → ns[j]? = some m → Q (.int (j : Int)) H) : rIndex K (.ref a) [.int m] H Q := by
  obtain ⟨j, h1, h2, h3⟩ := first_at hm
  refine ⟨a, _, _, j, .int m, rfl, rfl, ha, rfl, flat_ints ns, by rw [List.getElem?_map, h2]; rfl, by simp [eqV], fun i z hi hz => ?_, q j h1 h2⟩
  rw [List.getElem?_map] at hz
  cases e : ns[i]? with
  | none => rw [e] at hz; exact nomatch hz
  | some k =>
    rw [e] at hz
    cases hz
    have := h3 i hi
    rw [e] at this
    have hne : k ≠ m := fun z => this (by rw [z])
    simp [eqV, hne]
end
end Z

/-! own exceptions with a field, over ghost heaps -/
namespace Z
open PySem PySem.Spec PyProof.Rows L2
section
variable {P : Program} {w : World} {K : PySem.W.Frag} {mg : Str → Option Value} {base : Heap} {x qual : Str} {params : Arguments} {body : List Stmt} {scope : Scope} {dvs : List V} {kws : List (Str × V)} {f : Addr} {fd : FuncData}
/-- the rule for a def that may raise -/
theorem okX {N ps : List Str} {k : Nat} {sp : Sp} (F : FunD K x qual params body scope dvs kws f fd) (S : FnScope N ps scope) (len : ∀ vs H Q E, sp vs H Q E → vs.length = ps.length)
    (hb : ∀ (cdv : Value) (A : Around) (outer : List Env) (s : Shared) (H : Hp) (vs : List V) (Q : VK) (E : XK), Room k (A.deeper (envOfC qual scope s.heap.objs.size f cdv)) → sp vs H Q E →
      ∃ t, PSs (cxOf (L2.CX P w) P w K mg base N qual scope f cdv A outer s H E) body t ∧ t { nx := fun _ H' => Q .non H', rt := Q } (start N vs) H) : FnOk P w K mg base (L2.CX P w) (k + 1) f fd ps sp :=
  F.ok S len hb
end
section
variable {X : Cx} {CX : CXT} {k : Nat} {f : Addr} {fd : FuncData} {ps : List Str} {ds : List Value} {dvs : List V} {sp : Sp} {E : L2.St → XK} {x : Str} {p pos : Pos} {e : Expr} {es : List Expr} {t : TA}
/-- a call whose exceptions go where the try says; defaults filled in -/
def tCallSD (sp : Sp) (dvs : List V) (E : L2.St → XK) (t : TA) : TE := fun σ H Q => t σ H fun vs H1 => sp (vs ++ dvs) H1 Q (E σ)
theorem pe_callSD (F : FnOk X.prog X.w X.K X.mg X.base CX k f fd ps sp) (hr : Room k X.A) (hg : Gl X x) (hm : X.mg x = some (.ref f)) (hk : PySem.W.keepIn X.K (.ref f) = true) (hb : Binds X.K fd ps ds) (hd : Vals dvs ds) (hx : ∀ σ, PassesAt CX X σ (E σ))
    (ha : PA X (e :: es) t) (hdb : (x == ("__debug__" : Str)) = false := by decide) (he : starEach (e :: es) X.env = (false, eval e X.env) :: starEach es X.env := by rfl) (hpl : (backTo pos (starEach es X.env)).any (·.1) = false := by rfl) :
    PE X (.Call (.Name x p) (e :: es) [] pos) (tCallSD sp dvs E t) := by
  refine ⟨fun pins s σ H Q I h => wpAny_Call_Name_kw (ld_glob I hg hm (PySem.W.callWith_K (h₀ := X.base) I.ok.mod.kin hk (thn (ha.run pos pins s σ H _ I h) fun us s1 ⟨vs, H1, I1, r, q⟩ => ⟨I1.kIn, ?_⟩) he hpl) hdb)⟩
  have r2 := r.append hd
  refine wpAny_call (codeAny_mono (F.run X.A X.stack s1 H1 ⟨us, []⟩ _ _ Q (E σ) hr I1.env0 (hb s1 us I1.kIn (r2.length.symm.trans (F.len _ _ _ _ q))) r2 q) fun r s' hq => ?_)
  cases r with
  | error e => exact hx σ pins H1 s1 e s' I1 hq
  | ok fl => cases fl with
    | ret u => exact I1.after hq
    | _ => exact False.elim hq
theorem st_callSD {σ : L2.St} {H : Hp} {Q : VK} (h : t σ H fun vs H1 => sp (vs ++ dvs) H1 Q (E σ)) : tCallSD sp dvs E t σ H Q := h
end
theorem passX0 {X : Cx} : Passes (L2.CX X.prog X.w) X E0 := fun _ _ _ _ _ _ _ h => by
  obtain ⟨_, _, _, _, _, _, _, _, _, _, _, _, z⟩ := h
  exact z.elim
/-- an own exception class x at C, its __init__ at fI, its one field n -/
structure ExT (K : PySem.W.Frag) (mg : Str → Option Value) (x n : Str) (C fI : Addr) : Prop where
  gC : mg x = some (.ref C)
  oex : OexC K C
  xf : XfC K C
  xc : ExcC K C
  no : PySem.W.findIn K (.ref C) n = some none
  iC : PySem.W.findIn K (.ref C) "__init__" = some (some (.ref fI))
  tI : PySem.W.typeIn K (.ref fI) = some (.type "function")
  te : PySem.W.exmOne K (.ref C) (.ref C) = some true
  kv : PySem.W.kitOne K (.ref C) (.type "ValueError") = some true
theorem kv_of {K : PySem.W.Frag} {C : Addr} (h : PySem.W.subIn K (.ref C) (.type "ValueError") = some true) : PySem.W.kitOne K (.ref C) (.type "ValueError") = some true := by
  unfold PySem.W.kitOne
  rw [show ((Value.ref C) == (Value.type "ValueError")) = false from rfl]
  show PySem.W.kitCls K (.ref C) (.type "ValueError") = some true
  unfold PySem.W.kitCls
  show (if PySem.W.kitMeta "ValueError" = true then _ else none) = some true
  rw [if_pos (by decide +kernel)]
  exact h
/-- what its __init__ does -/
def sp_init (K : PySem.W.Frag) (C : Addr) (n : Str) : Sp := fun vs H Q _ => ∃ (a : Addr) (v : V), vs = [.ref a, v] ∧ H a = some (exo a C none) ∧ ∀ d, H d = none → d ≠ a → Q .non (upd (upd H d (exd d [(n, v)])) a (exo a C (some d)))
section
variable {K : PySem.W.Frag} {mg : Str → Option Value} {σ : L2.St} {H G : Hp} {W : Wl} {C : Addr} {n : Str} {v : V}
theorem st_mkO {dvs : List V} {ta : TA} {Q : XK} {sp : Sp} (h : ta σ H fun vs H1 => vs.length ≤ 1000 ∧ ∀ a, H1 a = none → sp (.ref a :: (vs ++ dvs)) (upd H1 a (exo a C none))
  (fun v H2 => v = .non ∧ ∃ (d : Addr) (fs : List (Str × V)), H2 a = some (exo a C (some d)) ∧ H2 d = some (exd d fs) ∧ H1 d = none ∧ Q (.ref C) (some d) (upd (del H2 a) d (.xd fs))) (fun _ _ _ => False)) : tMkO C sp dvs ta σ H Q := h
theorem mk_done {Q : XK} (w : Wd G W H) (k : ∀ d G' H', Same G G' → Wd G' W H' → G' d = some (.xd [(n, v)]) → Q (.ref C) (some d) H') (a : Addr) (ha : H a = none) :
    sp_init K C n [.ref a, v] (upd H a (exo a C none)) (fun v H2 => v = .non ∧ ∃ (d : Addr) (fs : List (Str × V)), H2 a = some (exo a C (some d)) ∧ H2 d = some (exd d fs) ∧ H d = none ∧ Q (.ref C) (some d) (upd (del H2 a) d (.xd fs))) (fun _ _ _ => False) := by
  refine ⟨a, v, rfl, upd_same, fun d hd hda => ⟨rfl, d, [(n, v)], upd_same, ?_, ?_, ?_⟩⟩
  · rw [upd_ne hda, upd_same]
  · rw [upd_ne hda] at hd
    exact hd
  · rw [upd_ne hda] at hd
    have e : upd (del (upd (upd (upd H a (exo a C none)) d (exd d [(n, v)])) a (exo a C (some d))) a) d (.xd [(n, v)]) = upd H d (.xd [(n, v)]) := by
      funext b
      by_cases hb : b = d
      · rw [hb, upd_same, upd_same]
      · rw [upd_ne hb, upd_ne hb]
        by_cases hb2 : b = a
        · rw [hb2, del_same, ha]
        · rw [del_ne hb2, upd_ne hb2, upd_ne hb, upd_ne hb2]
    rw [e]
    exact k d _ _ (same_upd (w.free hd)) (w.new hd) upd_same
theorem st_ost {f : Str} {to te : TE} {D : Ends} (h : te σ H fun y H1 => to σ H1 fun x H2 => ∃ a C : Addr, x = .ref a ∧ OexC K C ∧ PySem.W.findIn K (.ref C) f = some none ∧
    ((H2 a = some (exo a C none) ∧ ∀ dx, H2 dx = none → dx ≠ a → D.nx σ (upd (upd H2 dx (exd dx [(f, y)])) a (exo a C (some dx)))) ∨ ∃ (dx : Addr) (fs : List (Str × V)), H2 a = some (exo a C (some dx)) ∧ H2 dx = some (exd dx fs) ∧ fs.length ≤ 900 ∧ D.nx σ (upd H2 dx (exd dx ((f, y) :: fs))))) : tOst K f to te D σ H := h
theorem st_dnew {Q : VK} (h : NewO (.dK []) H Q) : tDNewK σ H Q := h
theorem st_vei {ta : TA} {Q : VK} (h : ta σ H fun vs H1 => ∃ (a C : Addr) (ws : List V), vs = .ref a :: ws ∧ ws.length ≤ 1000 ∧ OexC K C ∧ H1 a = some (exo a C none) ∧ Q .non H1) : tVeI K ta σ H Q := h
theorem st_xf {a : Addr} {cls : Value} {d : Option Addr} {f : Str} {te : TE} {Q : VK} (h : te σ H fun x H1 => x = .ref a ∧ cls = .ref C ∧ ∃ (dd : Addr) (fs : List (Str × V)) (v : V), d = some dd ∧ H1 dd = some (.xd fs) ∧ fs.lookup f = some v ∧ Q v H1) : tXf a cls d C f te σ H Q := h
end
end Z
namespace PySem.W
open PySem PySem.Spec PySem.Calls PyProof.Rows
section
variable {prog : Program} {w : World} {A : Around} {E : Value → Shared → Prop} {s : Shared} {K : Frag} {x D : Addr} {ox od : Obj}
theorem z_found {C : Addr} {name : Str} {a g : Value} (hc : (clsIn K C).isSome = true) (ha : findIn K (.ref C) name = some (some a)) (hg : specialIn K a "__get__" = some (some g)) (ht : takesIn K a = some true) (o : Option Obj) : findObj K C o name = some (.bind g a) := by
  obtain ⟨cd, hcd⟩ := Option.isSome_iff_exists.mp hc
  unfold findObj
  rw [hcd, Option.bind_some, ha, Option.bind_some]
  simp [hg, ht]
theorem z_classE {Q : Option Value → Shared → Prop} (C : L2.ExcC K D) (X : K.In s.heap) (I : InstAt s.heap x ox D (some od)) (h : Q (some (.ref D)) { s with toks := s.toks + 1 }) : wpAny (model prog w) A (getAttr? (.ref x) "__class__") Q E s := by
  have hf : findObj K D (some od) "__class__" = some (.bind (.builtin "getset_descriptor.__get__") (.builtin "object.__class__")) :=
    z_found (by obtain ⟨cd, hc, _⟩ := any_some C.hd; rw [hc]; rfl) C.ha C.hn C.ht (some od)
  obtain ⟨hp, g, d, t, os⟩ := s
  have l0 := I.type (M := model prog w)
  have l1 := looks_findIn (M := model prog w) X C.hg
  have l2 := looks_findIn (M := model prog w) X C.hk
  have l3 := looks_find (M := model prog w) X I hf
  have ls : Looks (model prog w) hp (isInstance (.ref x) (.type "BaseException")) true := l0.andThen (looks_subIn X C.hs)
  have z2 : (Value.builtin "BaseException.__getattribute__" == Value.builtin "object.__getattribute__") = false := by decide +kernel
  have z1 : (onTheHeap (Value.ref D) && Value.builtin "BaseException.__getattribute__" == Value.builtin "object.__getattribute__") = false := by rw [z2]; rfl
  unfold getAttr? getAttrBy? getAttrBy
  refine wpAny_bind (wpAny_mkText (wpAny_bind (wpAny_attempt (wpAny_holding (wpAny_bind (l0.at (wpAny_bind (l1.at ?_))))))))
  show wpAny _ _ (if (onTheHeap (Value.ref D) && Value.builtin "BaseException.__getattribute__" == Value.builtin "object.__getattribute__") = true then _ else _) _ _ _
  rw [z1, if_neg Bool.false_ne_true]
  unfold getAttrByItsOwn hookBefore
  refine wpAny_bind ?_
  rw [if_pos (show onTheHeap (Value.ref D) = true from rfl)]
  refine l2.at (wpAny_bind (wpAny_attempt (wpAny_holding ?_)))
  unfold callGetattribute
  rw [show (false && onTheHeap (Value.builtin "BaseException.__getattribute__")) = false from rfl, if_neg Bool.false_ne_true]
  unfold boundAndCalled
  rw [PySem.F.excAttr_ValueError.ga.bind (.ref x)]
  refine wpAny_bind (wpAny_pure ?_)
  refine wpAny_call (pos := [.ref x, .str "__class__" t]) (codeAny_call_builtin PySem.F.excAttr_ValueError.ga.plain PySem.F.entry_bexc_ga (@check_slot (model prog w) _ _ ⟨hp, g, d, t + 1, os⟩ "BaseException.__getattribute__" "BaseException" "__getattribute__" (.ref x) [.str "__class__" t] [] _ (by decide +kernel) (by decide +kernel) ls (PySem.F.args_bexc_ga (.ref x) (.str "__class__" t)) ?_))
  unfold Builtin.«object.__getattribute__»
  refine wpAny_bind (wpAny_of_eq (a := ((Value.ref x : Value), [Value.str "__class__" t])) (by first | rfl | (simp only [slotArgs]; rfl)) (wpAny_bind (wpAny_pure (wpAny_bind (l0.at (wpAny_bind (l3.at ?_)))))))
  show wpAny _ _ (holding [Value.builtin "object.__class__"] (call (.builtin "getset_descriptor.__get__") [.builtin "object.__class__", .ref x, .ref D]) >>= ret) _ _ _
  refine wpAny_bind (wpAny_holding (wpAny_call (class_get (s := ⟨hp, g, d, t + 1, os⟩) (ox := ox) (od := some od) X I C.hm (wpAny_pure ?_))))
  show wpAny _ _ (handedOut (.ref D)) _ _ _
  rw [handedOut_of (v := .ref D) rfl]
  first
    | exact wpAny_pure (wpAny_pure h)
    | exact wpAny_pure h
    | exact wpAny_pure (wpAny_bind (wpAny_pure (wpAny_pure h)))
theorem z_kit (C : L2.ExcC K D) : KitX K (.ref x) (.ref D) (fun h => ∃ od, InstAt h x ox D (some od)) where
  ty := fun _ _ _ ⟨_, I⟩ => I.type
  it := fun _ _ X _ => by
    obtain ⟨cd, hc, _⟩ := any_some C.hd
    unfold clsIn at hc
    split at hc
    · rename_i ho
      intro A' Q' E' s' k q
      unfold isType loadHead
      exact wpAny_bind (wpAny_loadPart (k _ _ (X _ _ ho)) (wpAny_pure q))
    · cases hc
  ne := fun h tp dd its n sl X htp => by
    obtain ⟨cd, hc, _⟩ := any_some C.hd
    refine Bool.eq_false_iff.mpr fun q => ?_
    obtain rfl : D = tp := Value.ref.inj (beq_iff_eq.mp q)
    unfold clsIn at hc
    split at hc
    · rename_i ho
      exact nomatch (X _ _ ho).symm.trans htp
    · cases hc
  ca := fun X ⟨_, I⟩ k => z_classE C X I k
end
end PySem.W
namespace Z
open PySem PySem.Spec PyProof.Rows L2
/-- isinstance(e, c), e the exception that the suite holds, with its dict -/
def rIsEd (K : PySem.W.Frag) (D a : Addr) (cls : Value) (d : Option Addr) : List V → Hp → VK → Prop := fun xs H Q => ∃ (c : V) (cv : Value) (b : Bool) (dd : Addr) (fs : List (Str × V)), xs = [.ref a, c] ∧ cls = .ref D ∧ d = some dd ∧ H dd = some (.xd fs) ∧ (∀ u, RelV c u → u = cv) ∧ PySem.W.kitOne K (.ref D) cv = some b ∧ Q (.bl b) H
theorem call_isEd {X : Cx} {a D : Addr} {oe : Obj} {cls : Value} {d : Option Addr} {pn : List (Addr × Obj)} (C : ExcC X.K D) (hz : Zc cls d oe) (hf : ∃ vs, oe.data = .fields vs) : CallR (X.suite a ((a, oe) :: pn)) (.builtin "isinstance") (rIsEd X.K D a cls d) := by
  intro pins s σ H xs us Q I r h
  obtain ⟨c, cv, b, dd, fs, rfl, rfl, rfl, ea, hcv, e, q⟩ := h
  obtain ⟨u1, u2, rfl, r1, r2⟩ := vals2 r
  cases r1
  obtain rfl := hcv _ r2
  obtain ⟨hget, _⟩ := I.pin (a, oe) (List.mem_append.mpr (.inl List.mem_cons_self))
  obtain ⟨vs, hv⟩ := hf
  obtain ⟨mA, hns, _⟩ : ObjOk _ _ _ _ dd (.xd fs) := I.hok dd _ ea
  obtain ⟨od, ho, _⟩ := lookIn_ns hns
  have J : PySem.W.InstAt s.heap a oe D (some od) := ⟨hget, hz.1, by unfold PySem.W.notCls; rw [hv] <;> rfl, by rw [hz.2]; exact ho⟩
  exact PySem.W.kia_one (PySem.W.z_kit C) I.kIn ⟨_, J⟩ e (fun z => nomatch z) fun tk => ⟨.bl b, H, I.kept (t' := tk) fun _ _ z => z, rfl, q⟩
end Z

/-! own exceptions over any base, with one field -/
namespace PySem
namespace ZEX
open PySem.W PySem.Calls PyProof.Rows PySem.HandSPX
open Builtin Builtin.ObjectAttr
section
variable {prog : Program} {w : World} {A : Around} {E : Value → Shared → Prop} {R : Result → Shared → Prop} {hp : Heap} {g : Array GenState} {d : Drawn} {t : Nat} {os : OsState}
theorem z_osa {K : W.Frag} {name : Str} {tk : Tok} {v : Value} {x C : Addr} {fv : Array Value} {cd : ClassData} {bmB : List Value} (pass : ∀ self, refuseLoop self "__setattr__" bmB = pure ()) (hob0 : bmB.contains (.type "object") = true)
    (X : K.In hp) (hx : hp.get? x = some { cls := .ref C, data := .fields fv }) (hcd : W.clsIn K C = some cd) (hm : cd.mro = .ref C :: bmB) (hh : cd.hasDict = true) (ha : W.findIn K (.ref C) name = some none)
    (hq : ∀ h' tk' dx, (∀ b o, b ≠ x → hp.get? b = some o → h'.get? b = some o) → hp.objs.size ≤ dx → dx ≠ x → h'.get? x = some { cls := .ref C, dict := some dx, data := .fields fv } → h'.Ns1 dx (fun y => if y = name then some v else none) → R (.ok (.ret .none)) ⟨h', g, d, tk', os⟩) :
    codeAny (model prog w) A (.call (.builtin "object.__setattr__") ⟨[.ref x, .str name tk, v], []⟩) R ⟨hp, g, d, t, os⟩ := by
  have i0 : W.InstAt hp x { cls := .ref C, data := .fields fv } C none := ⟨hx, rfl, rfl, trivial⟩
  have S := F.store_object
  have ne : cd.mro.isEmpty = false := by rw [hm]; rfl
  have hob : cd.mro.contains (.type "object") = true := by rw [hm, List.contains_cons, hob0, Bool.or_true]
  have hps : refuseLoop (.ref x) "__setattr__" cd.mro = pure () := by rw [hm, refuseLoop_ref]; exact pass _
  have nx : x ≠ hp.objs.size := Nat.ne_of_lt (Heap.lt_size hx)
  have li : W.Looks (model prog w) hp (isInstance (.ref x) (.type "object")) true := i0.type.andThen (W.looks_mroIn X (by unfold W.mroIn; rw [hcd, Option.bind_some, if_neg (by rw [ne]; decide), hob]))
  refine codeAny_call_builtin S.slot.plain S.entry (@W.check_slot (model prog w) _ _ ⟨hp, g, d, t, os⟩ "object.__setattr__" "object" "__setattr__" (.ref x) [.str name tk, v] [] _ S.kind S.split li (S.args (.ref x) (.str name tk) v) ?_)
  have lm : W.Looks (model prog w) hp (mroOf (.ref C)) cd.mro := (W.looks_clsIn X hcd).andThen .now
  have lt : W.Looks (model prog w) hp (storeTaker? none) none := .now
  have lc : W.Looks (model prog w) hp (classData C) cd := W.looks_clsIn X hcd
  rw [W.osa_eq, refuse_eq]
  refine wpAny_bind (wpAny_bind (i0.type.at (wpAny_bind (lm.at ?_))))
  rw [hps]
  refine wpAny_pure (wpAny_bind (i0.type.at (wpAny_bind ((W.looks_findIn X ha).at (wpAny_bind (lt.at ?_))))))
  show wpAny (model prog w) _ (storeInOwnDict (.ref x) (.ref C) (.str name tk) name v false) _ _ _
  obtain ⟨nm, bs, mro, ns, qn, hd, sn, sb, ab, col, del⟩ := cd
  dsimp only at hh
  subst hh
  unfold storeInOwnDict ownDictForStores
  repeat first | (with_reducible refine store_in_new ?_ ?_) | (with_reducible refine wpAny_loadPart_at hx ?_) | (with_reducible refine lc.at ?_) | wp_step
  · exact ⟨_, #[], _, (Heap.get?_update_ne _ _ _ _ nx.symm).trans (Heap.get?_push_at rfl rfl), rfl, fun e he => absurd he (by simp), fun _ => rfl⟩
  · intro h' tk' hn' hs
    have hx1 : (hp.push { cls := .type "dict", data := .dict #[] }).get? x = some { cls := .ref C, data := .fields fv } := Heap.get?_push_of_some _ hx
    exact hq h' tk' hp.objs.size (fun b o hb ho => (hs.2 b (Nat.ne_of_lt (Heap.lt_size ho))).trans ((Heap.get?_update_ne _ _ _ _ hb).trans (Heap.get?_push_of_some _ ho))) (Nat.le_refl _) nx.symm ((hs.2 x nx).trans (Heap.get?_update_self _ hx1 rfl)) hn'
end
end ZEX
end PySem
namespace Z
open PySem PySem.Spec PyProof.Rows L2
/-- the class at C: own, directly over the built-in exception B -/
structure OexB (K : PySem.W.Frag) (C : Addr) (B newId initId : String) (bmB : List Value) : Prop where
  cls : ∃ nm q N bs sn sub ab col dd k0 k1 k2 k3 k5, K.lookup C = some (excClassObj nm q C N bs bmB true sn sub ab col dd k0 k1 k2 k3 k5 newId)
  sa : PySem.W.findIn K (.ref C) "__setattr__" = some (some (.builtin "object.__setattr__"))
  exC : PySem.W.subIn K (.ref C) (.type "BaseException") = some true
  tyC : PySem.W.typeIn K (.ref C) = some (.type "type")
  kC : PySem.W.keepIn K (.ref C) = true
  fac : ExcBaseFacts B newId initId bmB
  pass : ∀ self, refuseLoop self "__setattr__" bmB = pure ()
  hob : bmB.contains (.type "object") = true
section
variable {X : Cx} {pins : List (Addr × Obj)} {σ : L2.St} {H : Hp} {s : Shared} {a C : Addr} {f : Str} {y : V} {u : Value} {E : Value → Shared → Prop} {A : Around} {B newId initId : String} {bmB : List Value}
theorem z_ost {Q : Unit → Shared → Prop} (T : OexB X.K C B newId initId bmB) (I : Inv X pins σ H s) (e : H a = some (exo a C none)) (hno : PySem.W.findIn X.K (.ref C) f = some none) (ry : RelV y u)
    (h : ∀ dx s', H dx = none → dx ≠ a → Inv X pins σ (upd (upd H dx (exd dx [(f, y)])) a (exo a C (some dx))) s' → Q () s') : wpAny (model X.prog X.w) A (setAttr (.ref a) f u) Q E s := by
  obtain ⟨nm, q, N, bs, sn, sub, ab, col, dd, k0, k1, k2, k3, k5, hC⟩ := T.cls
  have hcl : PySem.W.clsIn X.K C = some { name := nm, bases := bs, mro := .ref C :: bmB, ns := N, qualname := q, hasDict := true, slotNames := sn, subclasses := sub, abstract := ab, collection := col, hasDel := false } := by
    unfold PySem.W.clsIn
    rw [hC] <;> rfl
  obtain ⟨t1, ho⟩ := exo_at I.hok e
  obtain ⟨hp, g, d, t, os⟩ := s
  refine PySem.W.set_plain I.kIn (od := none) (ox := { cls := .ref C, dict := none, data := .fields #[.ref t1, .none, .none, .none, .bool false, .none] }) ⟨ho, rfl, rfl, trivial⟩ T.sa ?_
  refine PySem.ZEX.z_osa T.pass T.hob I.kIn ho hcl rfl rfl hno fun h' tk' dx k dn dne hx hn => ?_
  have hnd : H dx = none := I.hok.fresh dn
  have nd : ∀ {b : Addr} {o : Obj}, hp.get? b = some o → b ≠ dx := fun {b o} q => Nat.ne_of_lt (Nat.lt_of_lt_of_le (Heap.lt_size q) dn)
  have na : ∀ {b : Addr}, H b = none → b ≠ a := fun {b} n z => nomatch (z ▸ n).symm.trans e
  have un : Un X.fs [] H (upd (upd H dx (exd dx [(f, y)])) a (exo a C (some dx))) hp h' := {
    keep := fun b o q n _ _ => k b o (na n) q, slot := fun b o q n _ _ => ⟨o.slots, k b o (na n) q⟩
    free := fun b o q n _ => (upd_ne (na n)).trans ((upd_ne (nd q)).trans n)
    there := fun b o q _ => if hb : b = a then ⟨_, hb ▸ hx⟩ else ⟨o, k b o hb q⟩
    tups := fun b xs q => (upd_ne (at_ne e q exo_tup)).trans ((upd_ne (ne_of_none q hnd)).trans q)
    frzs := fun b o v q => (upd_ne (at_ne e q exo_frz)).trans ((upd_ne (ne_of_none q hnd)).trans q)
    tbls := fun b ps q => ⟨#[], by rw [upd_ne (at_ne e q exo_tbl), upd_ne (ne_of_none q hnd), q] <;> simp⟩ }
  refine h dx _ hnd dne (I.un (t' := tk') un fun b o q => ?_)
  by_cases hb : b = a
  · rw [hb, upd_same] at q
    cases q
    rw [hb]
    exact exo_ok hx
  · rw [upd_ne hb] at q
    by_cases hd : b = dx
    · rw [hd, upd_same] at q
      cases q
      rw [hd]
      exact exd_ok hn (relO_put (fs := []) ry fun g => True.intro)
    · rw [upd_ne hd] at q
      refine (I.hok b o q).stay (fun c v hc z => k c v (hc.elim (fun h => h ▸ hb) fun h => at_ne e h exo_own) z) (fun c hc => (upd_ne (at_ne e hc exo_own)).trans ((upd_ne (ne_of_none hc hnd)).trans hc)) (fun c xs hc => (upd_ne (at_ne e hc exo_tup)).trans ((upd_ne (ne_of_none hc hnd)).trans hc))
theorem z_oinit {us : List Value} {Q : Value → Shared → Prop} (T : OexB X.K C B newId initId bmB) (I : Inv X pins σ H s) (e : H a = some (exo a C none)) (hl : us.length ≤ sizeLine) (h : ∀ s', Inv X pins σ H s' → Q .none s') :
    wpAny (model X.prog X.w) A (call (.builtin initId) (.ref a :: us)) Q E s := by
  obtain ⟨nm, q, N, bs, sn, sub, ab, col, dd, k0, k1, k2, k3, k5, hC⟩ := T.cls
  obtain ⟨t1, ho⟩ := exo_at I.hok e
  obtain ⟨hp, g, d, t, os⟩ := s
  refine wpAny_call (PySem.HandSPX.init_base T.fac (fun _ => rfl) (I.kIn _ _ hC) ho hl fun h' t2 k hx => ?_)
  have J := I.write (t' := t) (x := a) (e := a) (o := exo a C none) (by rw [e]; exact True.intro) (.inl rfl) k ⟨_, hx⟩ (exo_ok hx)
  have eu : upd H a (exo a C none) = H := funext fun b => if hb : b = a then by rw [hb, upd_same, e] else upd_ne hb
  exact h _ (eu ▸ J)
end
/-- B.__init__(self, ..) -/
def tBei (K : PySem.W.Frag) (B newId initId : String) (bmB : List Value) (ta : TA) : TE := fun σ H Q => ta σ H fun vs H1 => ∃ (a C : Addr) (ws : List V), vs = .ref a :: ws ∧ ws.length ≤ 1000 ∧ OexB K C B newId initId bmB ∧ H1 a = some (exo a C none) ∧ Q .non H1
/-- self.f = e, the one field -/
def tBst (K : PySem.W.Frag) (B newId initId : String) (bmB : List Value) (f : Str) (to te : TE) : TS := fun D σ H => te σ H fun y H1 => to σ H1 fun x H2 => ∃ a C : Addr, x = .ref a ∧ OexB K C B newId initId bmB ∧ PySem.W.findIn K (.ref C) f = some none ∧
  H2 a = some (exo a C none) ∧ ∀ dx, H2 dx = none → dx ≠ a → D.nx σ (upd (upd H2 dx (exd dx [(f, y)])) a (exo a C (some dx)))
section
variable {X : Cx} {o e : Expr} {es : List Expr} {to te : TE} {ta : TA} {f bx : Str} {p p' p1 p2 pos : Pos} {B newId initId : String} {bmB : List Value}
theorem pe_beinit {pl : Sem Bool} (typ : typeOf (.type B) = pure (.type "type")) (stub : Manifest.isStub B = false) (hbt : bootBuiltins bx = some (.type B)) (hh : PySem.W.handedIn (.builtin initId) = true) (hg : Gl X bx) (hm : X.mg bx = none) (vV : PySem.W.findCls X.K (.type B) (.type "type") "__init__" = some (.val (.builtin initId))) (ha : PA X (e :: es) ta)
    (hn : bx ≠ "__name__" := by decide) (hdb : (bx == ("__debug__" : Str)) = false := by decide)
    (hc : eval (.Call (.Attribute (.Name bx p1) "__init__" p2) (e :: es) [] pos) X.env = (do let ov ← eval (.Name bx p1) X.env; standAt p2.atName; let (f, first) ← holding [ov] (getMethod ov "__init__" pl); callWith pos f first (backTo pos (starEach (e :: es) X.env)) (backToKw pos (keywordEach [] X.env))) := by rfl)
    (he : starEach (e :: es) X.env = (false, eval e X.env) :: starEach es X.env := by rfl) (hpl : (backTo pos (starEach es X.env)).any (·.1) = false := by rfl) : PE X (.Call (.Attribute (.Name bx p1) "__init__" p2) (e :: es) [] pos) (tBei X.K B newId initId bmB ta) := by
  refine ⟨fun pins s σ H Q I h => PySem.W.methodCall_KW (ld_blt I hg hm hbt ?_ hn hdb) hc⟩
  obtain ⟨m, fr⟩ := I.fr
  refine PySem.W.method_type fr I.ok.mod.kin typ stub vV hh ?_
  show wpAny (model X.prog X.w) _ (callWith pos (Value.builtin initId) [] (backTo pos (starEach (e :: es) X.env)) []) _ _ _
  refine PyProof.Rows.callWith_method1 (thn (ha.run pos pins _ σ H _ (I.tok _) h) fun us s1 ⟨vs, H1, I1, r1, a, C, ws, ev, hl, T, ea, q⟩ => ?_) he hpl
  subst ev
  cases r1 with
  | @cons _ u0 _ ur ra rw' =>
    cases (show u0 = Value.ref a from ra)
    exact z_oinit T I1 ea (by rw [← Paired.length rw', sizeLine_eq]; omega) fun s' J => ⟨.non, H1, J, rfl, q⟩
theorem ps_bst (ho : PE X o to) (he : PE X e te) (hs : swapsWith e (some (.Attribute o f p')) pos.line X.env = pure false := by rfl) : PS X (.Assign [.Attribute o f p'] e pos) (tBst X.K B newId initId bmB f to te) := by
  refine ⟨fun pins s σ H D I h => plainObj_wpAny_Assign_Attribute (thn (he.run pins s σ H _ I h) fun v s1 ⟨y, H1, I1, r1, q1⟩ => thn (ho.run pins s1 σ H1 _ I1 q1) fun u s2 ⟨x, H2, I2, r2, a, C, ex, T, hno, ea, q⟩ => ?_) hs⟩
  subst ex
  cases (show u = Value.ref a from r2)
  exact z_ost T I2 ea hno r1 fun dx s' n ne J => ⟨σ, _, J, q dx n ne⟩
theorem pmk_bex {CX : CXT} {x : Str} {C fI : Addr} {k : Nat} {fd : FuncData} {ps : List Str} {sp : Sp} {ds : List Value} {dvs : List V} (T : OexB X.K C B newId initId bmB) (iC : PySem.W.findIn X.K (.ref C) "__init__" = some (some (.ref fI))) (tI : PySem.W.typeIn X.K (.ref fI) = some (.type "function"))
    (F1 : FnOk X.prog X.w X.K X.mg X.base CX k fI fd ps sp) (hr : Room (k + 1) X.A) (hb : Binds X.K fd ps ds) (hd : Vals dvs ds) (hx : Passes CX X (fun _ _ _ => False)) (hg : Gl X x) (hm : X.mg x = some (.ref C)) (ha : PA X (e :: es) ta)
    (hdb : (x == ("__debug__" : Str)) = false := by decide) (he : starEach (e :: es) X.env = (false, eval e X.env) :: starEach es X.env := by rfl) (hpl : (backTo pos (starEach es X.env)).any (·.1) = false := by rfl) : PMk X (.Call (.Name x p) (e :: es) [] pos) (tMkO C sp dvs ta) := by
  intro pins s σ H Q I h
  obtain ⟨nm, q, N, bs, sn, sub, ab, col, dd, k0, k1, k2, k3, k5, hC⟩ := T.cls
  refine wpAny_Call_Name_kw (ld_glob I hg hm (PySem.W.callWith_K (h₀ := X.base) I.ok.mod.kin T.kC (thn (ha.run pos pins s σ H _ I h) fun us s1 ⟨vs, H1, I1, r1, hz, q1⟩ => ⟨I1.kIn, ?_⟩) he hpl) hdb)
  show wpAny (model X.prog X.w) _ (call (.ref C) us) _ _ _
  obtain ⟨hp, g, dr, tk, os⟩ := s1
  have z1 : hp.objs.size ≤ hp.objs.size + 1 := Nat.le_succ _
  have hq := q1 (hp.objs.size + 1) (I1.hok.fresh z1)
  have kk : ∀ b o, hp.get? b = some o → ((hp.push (PySem.W.kdv_tup us)).push (PySem.HandSPX.excO C hp.objs.size)).get? b = some o := fun _ _ e => Heap.get?_push_of_some _ (Heap.get?_push_of_some _ e)
  have gg : ((hp.push (PySem.W.kdv_tup us)).push (PySem.HandSPX.excO C hp.objs.size)).get? (hp.objs.size + 1) = some (PySem.HandSPX.excO C hp.objs.size) := by heap_get
  have I2 : Inv X pins σ (upd H1 (hp.objs.size + 1) (exo (hp.objs.size + 1) C none)) ⟨(hp.push (PySem.W.kdv_tup us)).push (PySem.HandSPX.excO C hp.objs.size), g, dr, tk, os⟩ := I1.laid (t' := tk) (a := hp.objs.size + 1) (o := exo (hp.objs.size + 1) C none) kk z1 (exo_ok gg)
  have r2 : Vals (V.ref (hp.objs.size + 1) :: (vs ++ dvs)) (Value.ref (hp.objs.size + 1) :: (us ++ ds)) := .cons rfl (r1.append hd)
  have hl : (Value.ref (hp.objs.size + 1) :: us ++ ds).length = ps.length := (r2.length.symm.trans (F1.len _ _ _ _ hq))
  have hus : us.length ≤ sizeLine := by rw [← Paired.length r1, sizeLine_eq]; omega
  refine wpAny_call (PySem.HandSPX.call_own T.fac (fun _ => rfl) (I1.kIn _ _ hC) (PySem.W.looks_findIn I1.kIn iC) (fun self => PySem.W.bind_fn I1.kIn self tI) hus
    (codeAny_mono (F1.run _ X.stack _ _ ⟨Value.ref (hp.objs.size + 1) :: us, []⟩ (Value.ref (hp.objs.size + 1) :: (us ++ ds)) _ _ (fun _ _ _ => False) (hr.make C us []) (I2.env0.make C us []) (hb _ (Value.ref (hp.objs.size + 1) :: us) I2.kIn hl) r2 hq) fun r s' hz2 => ?_))
  cases r with
  | error er => exact hx pins σ _ _ er s' I2 hz2
  | ok fl => cases fl with
    | ret u =>
      obtain ⟨v, H2, os2, bare2, un2, hok2, rv, ev, d, fs, ea, ed, hd1, q2⟩ := hz2
      subst ev
      obtain ⟨h2, g2, d2, t2, os'⟩ := s'
      exact ⟨rv, mk_end (raises_own T.exC T.tyC) I1 z1 kk un2 hok2 os2 bare2 ea ed hd1 q2⟩
    | _ => exact False.elim hz2
end
end Z
namespace Z
open PySem PySem.Spec PyProof.Rows L2
/-- a built-in base: what of it is the same in every program -/
structure BaseX (B newId initId : String) (bx : Str) (bmB : List Value) : Prop where
  fac : ExcBaseFacts B newId initId bmB
  pass : ∀ self, refuseLoop self "__setattr__" bmB = pure ()
  hob : bmB.contains (.type "object") = true
  typ : typeOf (.type B) = pure (.type "type")
  stub : Manifest.isStub B = false
  hbt : bootBuiltins bx = some (.type B)
  hh : PySem.W.handedIn (.builtin initId) = true
  kmt : PySem.W.kitMeta B = true
abbrev tl_ValueError : List Value := [.type "ValueError", .type "Exception", .type "BaseException", .type "object"]
theorem bx_ValueError : BaseX "ValueError" "ValueError.__new__" "ValueError.__init__" "ValueError" tl_ValueError := ⟨PySem.F.excBase_ValueError, PySem.F.store_ValueError.passes, by decide +kernel, by kernel_rfl, by decide +kernel, by decide +kernel, by decide +kernel, by decide +kernel⟩
abbrev tl_LookupError : List Value := [.type "LookupError", .type "Exception", .type "BaseException", .type "object"]
theorem bx_LookupError : BaseX "LookupError" "LookupError.__new__" "LookupError.__init__" "LookupError" tl_LookupError := ⟨PySem.F.excBase_LookupError, PySem.F.store_LookupError.passes, by decide +kernel, by kernel_rfl, by decide +kernel, by decide +kernel, by decide +kernel, by decide +kernel⟩
abbrev tl_IndexError : List Value := [.type "IndexError", .type "LookupError", .type "Exception", .type "BaseException", .type "object"]
theorem bx_IndexError : BaseX "IndexError" "IndexError.__new__" "IndexError.__init__" "IndexError" tl_IndexError := ⟨PySem.F.excBase_IndexError, PySem.F.store_IndexError.passes, by decide +kernel, by kernel_rfl, by decide +kernel, by decide +kernel, by decide +kernel, by decide +kernel⟩
abbrev tl_OverflowError : List Value := [.type "OverflowError", .type "ArithmeticError", .type "Exception", .type "BaseException", .type "object"]
theorem bx_OverflowError : BaseX "OverflowError" "OverflowError.__new__" "OverflowError.__init__" "OverflowError" tl_OverflowError := ⟨PySem.F.excBase_OverflowError, PySem.F.store_OverflowError.passes, by decide +kernel, by kernel_rfl, by decide +kernel, by decide +kernel, by decide +kernel, by decide +kernel⟩
abbrev tl_ArithmeticError : List Value := [.type "ArithmeticError", .type "Exception", .type "BaseException", .type "object"]
theorem bx_ArithmeticError : BaseX "ArithmeticError" "ArithmeticError.__new__" "ArithmeticError.__init__" "ArithmeticError" tl_ArithmeticError := ⟨PySem.F.excBase_ArithmeticError, PySem.F.store_ArithmeticError.passes, by decide +kernel, by kernel_rfl, by decide +kernel, by decide +kernel, by decide +kernel, by decide +kernel⟩
abbrev tl_TypeError : List Value := [.type "TypeError", .type "Exception", .type "BaseException", .type "object"]
theorem bx_TypeError : BaseX "TypeError" "TypeError.__new__" "TypeError.__init__" "TypeError" tl_TypeError := ⟨PySem.F.excBase_TypeError, PySem.F.store_TypeError.passes, by decide +kernel, by kernel_rfl, by decide +kernel, by decide +kernel, by decide +kernel, by decide +kernel⟩
abbrev tl_RuntimeError : List Value := [.type "RuntimeError", .type "Exception", .type "BaseException", .type "object"]
theorem bx_RuntimeError : BaseX "RuntimeError" "RuntimeError.__new__" "RuntimeError.__init__" "RuntimeError" tl_RuntimeError := ⟨PySem.F.excBase_RuntimeError, PySem.F.store_RuntimeError.passes, by decide +kernel, by kernel_rfl, by decide +kernel, by decide +kernel, by decide +kernel, by decide +kernel⟩
/-- an own exception class x at C over the base B, its __init__ at fI, its one field n -/
structure ExB (K : PySem.W.Frag) (mg : Str → Option Value) (x n : Str) (C fI : Addr) (B newId initId : String) (bmB : List Value) : Prop where
  gC : mg x = some (.ref C)
  oex : OexB K C B newId initId bmB
  xf : XfC K C
  xc : ExcC K C
  no : PySem.W.findIn K (.ref C) n = some none
  iC : PySem.W.findIn K (.ref C) "__init__" = some (some (.ref fI))
  tI : PySem.W.typeIn K (.ref fI) = some (.type "function")
  te : PySem.W.exmOne K (.ref C) (.ref C) = some true
  kv : PySem.W.kitOne K (.ref C) (.type B) = some true
theorem kvB_of {K : PySem.W.Frag} {C : Addr} {B : String} (hm : PySem.W.kitMeta B = true) (h : PySem.W.subIn K (.ref C) (.type B) = some true) : PySem.W.kitOne K (.ref C) (.type B) = some true := by
  unfold PySem.W.kitOne
  rw [show ((Value.ref C) == (Value.type B)) = false from rfl]
  show PySem.W.kitCls K (.ref C) (.type B) = some true
  unfold PySem.W.kitCls
  show (if PySem.W.kitMeta B = true then _ else none) = some true
  rw [if_pos hm]
  exact h
section
variable {K : PySem.W.Frag} {σ : L2.St} {H : Hp} {B newId initId : String} {bmB : List Value}
theorem st_bei {ta : TA} {Q : VK} (h : ta σ H fun vs H1 => ∃ (a C : Addr) (ws : List V), vs = .ref a :: ws ∧ ws.length ≤ 1000 ∧ OexB K C B newId initId bmB ∧ H1 a = some (exo a C none) ∧ Q .non H1) : tBei K B newId initId bmB ta σ H Q := h
theorem st_bst {f : Str} {to te : TE} {D : Ends} (h : te σ H fun y H1 => to σ H1 fun x H2 => ∃ a C : Addr, x = .ref a ∧ OexB K C B newId initId bmB ∧ PySem.W.findIn K (.ref C) f = some none ∧
    H2 a = some (exo a C none) ∧ ∀ dx, H2 dx = none → dx ≠ a → D.nx σ (upd (upd H2 dx (exd dx [(f, y)])) a (exo a C (some dx)))) : tBst K B newId initId bmB f to te D σ H := h
end
section
variable {K : PySem.W.Frag} {x qual : Str} {params : Arguments} {body : List Stmt} {scope : Scope} {kws : List (Str × V)} {f : Addr} {fd : FuncData} {ps ks : List Str} {n : Nat}
theorem kbnK (F : FunD K x qual params body scope [] kws f fd) (g : List Value → List Value → List Value) {gV : List V → List V → List V} (rel : ∀ {vs : List V} {us : List Value} {zs : List V} {ws : List Value}, Vals vs us → Vals zs ws → Vals (gV vs zs) (g us ws))
    (h : ∀ (kV doc pm : Value) (an : Option Addr) (cdv ct : Value) (us ws : List Value), us.length = n → ws.length = ks.length → bindArgs (PySem.W.fnOf x qual params body scope .none kV doc pm an cdv ct) ⟨us, ks.zip ws⟩ = pure (ps.zip (g us ws))) : KBn K fd ps n ks g gV := by
  obtain ⟨oc, od, dV, kV, doc, pm, an, cdv, ct, osl, rfl, lk, hcd, hD, hK⟩ := F.ex
  rcases hD with ⟨_, rfl⟩ | ⟨e, _⟩
  · exact ⟨fun s us ws _ l1 l2 => .of_eq (h kV doc pm an cdv ct us ws l1 l2), rel⟩
  · exact absurd rfl e
end
/-- f(e, .., k = v, ..) whose exceptions go where the try says -/
def tCallNS (n m : Nat) (sp : Sp) (gV : List V → List V → List V) (E : L2.St → XK) (t tk : TA) : TE := fun σ H Q => t σ H fun vs H1 => tk σ H1 fun zs H2 => vs.length = n ∧ zs.length = m ∧ sp (gV vs zs) H2 Q (E σ)
section
variable {X : Cx} {CX : CXT} {k n : Nat} {f : Addr} {fd : FuncData} {ps ks : List Str} {sp : Sp} {E : L2.St → XK} {x : Str} {p pos : Pos} {e : Expr} {es : List Expr} {kws : List Keyword} {t tk : TA} {g : List Value → List Value → List Value} {gV : List V → List V → List V}
theorem pe_callNS (F : FnOk X.prog X.w X.K X.mg X.base CX k f fd ps sp) (hr : Room k X.A) (hg : Gl X x) (hm : X.mg x = some (.ref f)) (hk : PySem.W.keepIn X.K (.ref f) = true) (hb : KBn X.K fd ps n ks g gV) (hx : ∀ σ, PassesAt CX X σ (E σ)) (ha : PA X (e :: es) t) (hkw : PK X kws tk)
    (hall : (backToKw pos (keywordEach kws X.env)).all (·.1.isSome) = true := by rfl) (hks : (backToKw pos (keywordEach kws X.env)).filterMap (·.1) = ks := by rfl) (hdb : (x == ("__debug__" : Str)) = false := by decide) (he : starEach (e :: es) X.env = (false, eval e X.env) :: starEach es X.env := by rfl) (hpl : ((backTo pos (starEach (e :: es) X.env)).any (·.1) || (backToKw pos (keywordEach kws X.env)).any (·.1.isNone)) = false := by rfl) : PE X (.Call (.Name x p) (e :: es) kws pos) (tCallNS n ks.length sp gV E t tk) := by
  refine ⟨fun pins s σ H Q I h => wpAny_Call_Name_kw (ld_glob I hg hm (PySem.W.callWith_KW (h₀ := X.base) I.ok.mod.kin hk hall (thn (ha.run pos pins s σ H _ I h) fun us s1 ⟨vs, H1, I1, r, q⟩ => thn (hkw.run pos pins s1 σ H1 _ I1 q) fun ws s2 ⟨zs, H2, I2, rz, l1, l2, q2⟩ => ⟨I2.kIn, ?_⟩) hpl he) hdb)⟩
  rw [hks]
  have r2 := hb.rel r rz
  refine wpAny_call (codeAny_mono (F.run X.A X.stack s2 H2 ⟨us, ks.zip ws⟩ (g us ws) (gV vs zs) Q (E σ) hr I2.env0 (hb.to s2 us ws I2.kIn (r.length.symm.trans l1) (rz.length.symm.trans l2)) r2 q2) fun r s' hq => ?_)
  cases r with
  | error e => exact hx σ pins H2 s2 e s' I2 hq
  | ok fl => cases fl with
    | ret u => exact I2.after hq
    | _ => exact False.elim hq
theorem st_callNS {m : Nat} {σ : L2.St} {H : Hp} {Q : VK} (h : t σ H fun vs H1 => tk σ H1 fun zs H2 => vs.length = n ∧ zs.length = m ∧ sp (gV vs zs) H2 Q (E σ)) : tCallNS n m sp gV E t tk σ H Q := h
end
end Z

/-! own classes: made by a local name, methods in a try, len; comprehensions over enumerate, of two parts -/
namespace Z
open PySem PySem.Spec PyProof.Rows L2
section
variable {X : Cx} {CX : CXT} {k : Nat} {f C : Addr} {fd : FuncData} {ps : List Str} {ds : List Value} {dvs : List V} {sp : Sp} {m : Str} {fe o e : Expr} {es : List Expr} {tf ta : TE} {t : TA} {pos apos : Pos} {E : XK}
/-- g(e, ..), g an expression whose value is the class at C -/
def tMakeV (C : Addr) (sp : Sp) (dvs : List V) (E : XK) (tf : TE) (t : TA) : TE := fun σ H Q => tf σ H fun y H1 => y = .ref C ∧ tMake C sp dvs E t σ H1 Q
theorem pe_makeV (hf : PE X fe tf) (M : Mk X.K C f) (F : FnOk X.prog X.w X.K X.mg X.base CX k f fd ps sp) (hr : Room (k + 1) X.A) (hb : Binds X.K fd ps ds) (hd : Vals dvs ds) (hx : Passes CX X E) (ha : PA X (e :: es) t)
    (ht : eval (.Call fe (e :: es) [] pos) X.env = (do callWith pos (← eval fe X.env) [] (backTo pos (starEach (e :: es) X.env)) (backToKw pos (keywordEach [] X.env))) := by rfl)
    (he : starEach (e :: es) X.env = (false, eval e X.env) :: starEach es X.env := by rfl) (hpl : (backTo pos (starEach es X.env)).any (·.1) = false := by rfl) : PE X (.Call fe (e :: es) [] pos) (tMakeV C sp dvs E tf t) := by
  refine ⟨fun pins s σ H Q I h => Call_ (thn (hf.run pins s σ H _ I h) fun u s1 ⟨y, H1, I1, ry, ey, q⟩ => ?_) ht⟩
  subst ey
  obtain rfl : u = Value.ref C := ry
  exact PySem.W.callWith_K (h₀ := X.base) I1.ok.mod.kin M.kp (thn (ha.run pos pins s1 σ H1 _ I1 q) fun us s2 ⟨vs, H2, I2, r, q2⟩ => ⟨I2.kIn, run_make M F hr hb hd hx I2 r q2⟩) he hpl
theorem st_makeV {σ : L2.St} {H : Hp} {Q : VK} (h : tf σ H fun y H1 => y = .ref C ∧ tMake C sp dvs E t σ H1 Q) : tMakeV C sp dvs E tf t σ H Q := h
theorem st_make {σ : L2.St} {H : Hp} {Q : VK} (h : t σ H fun vs H1 => ∀ x dx, H1 x = none → H1 dx = none → dx ≠ x → sp (.ref x :: (vs ++ dvs)) (upd (upd H1 dx (.own x)) x (.ins C dx [])) (fun v H2 => v = .non ∧ Q (.ref x) H2) E) : tMake C sp dvs E t σ H Q := h
theorem st_meth {σ : L2.St} {H : Hp} {Q : VK} (h : ta σ H fun x H1 => ∃ a dx fs, x = .ref a ∧ H1 a = some (.ins C dx fs) ∧ fs.lookup m = none ∧ t σ H1 fun vs H2 => sp (x :: (vs ++ dvs)) H2 Q E) : tMeth C m sp dvs E ta t σ H Q := h
theorem st_fld {K : PySem.W.Frag} {n : Str} {σ : L2.St} {H : Hp} {Q : VK} (h : ta σ H fun x H1 => ∃ a C dx fs v, x = .ref a ∧ H1 a = some (.ins C dx fs) ∧ Cls K C ∧ NoAttr K C n ∧ fs.lookup n = some v ∧ Q v H1) : tFld K ta n σ H Q := h
theorem st_sfld {K : PySem.W.Frag} {tv : TE} {n : Str} {σ : L2.St} {H : Hp} {D : Ends} (h : tv σ H fun y H1 => ta σ H1 fun x H2 => ∃ a C dx fs, x = .ref a ∧ H2 a = some (.ins C dx fs) ∧ Cls K C ∧ NoAttr K C n ∧ fs.length < 1000 ∧ D.nx σ (upd H2 a (.ins C dx (putF n y fs)))) : sFld K ta tv n D σ H := h
theorem st_cval {K : PySem.W.Frag} {n : Str} {σ : L2.St} {H : Hp} {Q : VK} (h : ta σ H fun x H1 => ∃ C mc v u, x = .ref C ∧ ClX.CRead K C mc ∧ ClX.CVal K C mc n v u ∧ Q v H1) : ClX.tCVal K ta n σ H Q := h
theorem st_cmeth {σ : L2.St} {H : Hp} {Q : VK} (h : ta σ H fun x H1 => x = .ref C ∧ t σ H1 fun vs H2 => sp (.ref C :: vs) H2 Q E) : ClX.tCMeth C sp E ta t σ H Q := h
/-- o.m(..) whose exceptions go where the try says -/
def tMethSD (C : Addr) (m : Str) (sp : Sp) (dvs : List V) (E : L2.St → XK) (ta : TE) (t : TA) : TE := fun σ H Q => ta σ H fun x H1 => ∃ a dx fs, x = .ref a ∧ H1 a = some (.ins C dx fs) ∧ fs.lookup m = none ∧ t σ H1 fun vs H2 => sp (x :: (vs ++ dvs)) H2 Q (E σ)
theorem pe_methSD {pl : Sem Bool} {E : L2.St → XK} (he : PE X o ta) (c : Cls X.K C) (hm : Meth X.K C m f) (F : FnOk X.prog X.w X.K X.mg X.base CX k f fd ps sp) (hr : Room k X.A) (hb : Binds X.K fd ps ds) (hd : Vals dvs ds) (hx : ∀ σ, PassesAt CX X σ (E σ)) (ha : PA X (e :: es) t)
    (hst : starEach (e :: es) X.env = (false, eval e X.env) :: starEach es X.env := by rfl) (hpl : (backTo pos (starEach es X.env)).any (·.1) = false := by rfl)
    (ht : eval (.Call (.Attribute o m apos) (e :: es) [] pos) X.env = (do
      let ov ← eval o X.env
      standAt apos.atName
      let (f, first) ← holding [ov] (getMethod ov m pl)
      callWith pos f first (backTo pos (starEach (e :: es) X.env)) (backToKw pos (keywordEach [] X.env))) := by rfl) :
    PE X (.Call (.Attribute o m apos) (e :: es) [] pos) (tMethSD C m sp dvs E ta t) := by
  refine ⟨fun pins s σ H Q I h => PySem.W.methodCall_KW (pl := pl) (thn (he.run pins s σ H _ I h) fun u s1 ⟨x, H1, I1, rx, a, dx, fs, ex, ea, l, q⟩ => ?_) ht⟩
  subst ex
  obtain rfl : u = Value.ref a := rx
  refine getmeth_ok I1 ea c hm l (PySem.W.callWith_K (first := [.ref a]) (h₀ := X.base) I1.ok.mod.kin hm.kp (thn (ha.run pos pins s1 σ H1 _ I1 q) fun us s2 ⟨vs, H2, I2, r, q2⟩ => ⟨I2.kIn, ?_⟩) hst hpl)
  have r2 : Vals (V.ref a :: (vs ++ dvs)) ((Value.ref a :: us) ++ ds) := .cons rfl (r.append hd)
  refine wpAny_call (codeAny_mono (F.run X.A X.stack s2 H2 ⟨Value.ref a :: us, []⟩ _ _ Q (E σ) hr I2.env0 (hb s2 (Value.ref a :: us) I2.kIn (r2.length.symm.trans (F.len _ _ _ _ q2))) r2 q2) fun r s' hq => ?_)
  cases r with
  | error e => exact hx σ pins H2 s2 e s' I2 hq
  | ok fl => cases fl with
    | ret u => exact I2.after hq
    | _ => exact False.elim hq
theorem st_methSD {E : L2.St → XK} {σ : L2.St} {H : Hp} {Q : VK} (h : ta σ H fun x H1 => ∃ a dx fs, x = .ref a ∧ H1 a = some (.ins C dx fs) ∧ fs.lookup m = none ∧ t σ H1 fun vs H2 => sp (x :: (vs ++ dvs)) H2 Q (E σ)) : tMethSD C m sp dvs E ta t σ H Q := h
/-- len of an instance with its own __len__ -/
def rLenO (C : Addr) (sp : Sp) : List V → Hp → VK → Prop := fun vs H Q => ∃ a dx fs, vs = [.ref a] ∧ H a = some (.ins C dx fs) ∧ sp [.ref a] H (fun v H2 => ∃ n : Int, v = .int n ∧ (0 ≤ n ∧ n < 2 ^ 63) ∧ Q (.int n) H2) E0
theorem call_lenO (hm : Meth X.K C "__len__" f) (F : FnOk X.prog X.w X.K X.mg X.base CX0 k f fd ps sp) (hr : Room (k + 1) X.A) (hb : Binds X.K fd ps []) : CallR X (.builtin "len") (rLenO C sp) := by
  intro pins s σ H vs us Q I r h
  obtain ⟨a, dx, fs, rfl, ha, q⟩ := h
  rw [Vals.ref1 r]
  obtain ⟨ox, od, J, _⟩ := StX.insC_at (C := C) I (.inr ⟨dx, fs, ha⟩)
  refine Calls.call_function_entry kind_len plain_len entry_len (args_len1 _) ?_
  unfold Builtin.«len»
  refine wpAny_bind (m := oneArg "len" _) (wpAny_pure ?_)
  have r2 : Vals [V.ref a] ([Value.ref a] ++ []) := .cons rfl .nil
  have run : wpAny (model X.prog X.w) X.A.in1 (call (.ref f) [.ref a]) (EP X pins σ fun v H2 => ∃ n : Int, v = .int n ∧ (0 ≤ n ∧ n < 2 ^ 63) ∧ Q (.int n) H2) X.xe s := by
    refine wpAny_call (codeAny_mono (F.run X.A.in1 X.stack s H ⟨[.ref a], []⟩ _ _ _ E0 hr.in1 I.env0.in1 (hb s [.ref a] I.kIn (r2.length.symm.trans (F.len _ _ _ _ q))) r2 q) fun r s' hq => ?_)
    cases r with
    | error e => exact False.elim hq
    | ok fl => cases fl with
      | ret u => exact I.after hq
      | _ => exact False.elim hq
  refine wpAny_bind (m := callSpecial? (.ref a) (Str.ofString "__len__")) (PySem.W.special_fn I.kIn J hm.at_ (beq_iff_eq.mp hm.fn) (wpAny_mono run (fun u s' hu => ?_) fun _ _ y => y))
  obtain ⟨v, H2, I2, rv, n, rfl, ⟨h0, h1⟩, q2⟩ := hu
  obtain ⟨tk, rfl⟩ := rv
  refine wpAny_bind (wpAny_holding (wpAny_pure ?_))
  refine wpAny_bind (wpAny_letGo ?_)
  show wpAny _ _ (if n < 0 then _ else _) _ _ _
  rw [if_neg (by omega)]
  show wpAny _ _ (if n ≥ 2 ^ 63 then _ else _) _ _ _
  rw [if_neg (by omega)]
  exact wpAny_bind (wpAny_mkInt (wpAny_pure ⟨_, rfl, .int n, H2, I2.tok _, ⟨_, rfl⟩, q2⟩))
end
/-! the ghost heap -/
section
variable {K : PySem.W.Frag} {σ : L2.St} {H G : Hp} {W : Wl} {Q : VK} {a : Addr} {xs : List V} {tt : TT} {te : TE} {vs : List Nat}
theorem new_ins {C : Addr} {P : Addr → Addr → Hp → Prop} (w : Wd G W H) (k : ∀ x dx G1 H1, Same G G1 → G1 dx = some (.own x) → Wd G1 ((x, Is (.ins C dx [])) :: W) H1 → P x dx H1) : ∀ x dx, H x = none → H dx = none → dx ≠ x → P x dx (upd (upd H dx (.own x)) x (.ins C dx [])) := fun x dx hx hd ne =>
  k x dx _ _ (same_upd (w.free hd)) upd_same ((w.new hd).newM (by rw [upd_ne (fun z => ne z.symm)]; exact hx) rfl)
/-- a comprehension over enumerate -/
theorem lc_enumA (hx : SqL K G a xs ∨ SqT K G a xs) {i1 i2 : Nat} (I : Nat → List V → Hp → Prop) (w : Wd G W H) (h0 : I 0 [] G) (hw : ∀ x y, wipe (((wipe σ vs).set i1 x).set i2 y) vs = wipe σ vs)
    (hs : ∀ (i : Nat) x D G' G'' H' acc, xs[i]? = some x → Same G G' → I i acc G' → Same G' G'' → Wd G'' ((D, Is (.lst acc)) :: W) H' → tt (((wipe σ vs).set i1 (some (.int (i : Int)))).set i2 (some x)) H' fun b H3 =>
      if b = true then te (((wipe σ vs).set i1 (some (.int (i : Int)))).set i2 (some x)) H3 fun y H4 => ∃ acc, H4 D = some (.lst acc) ∧ acc.length < sizeLine ∧ LcB I G W D (i + 1) (upd H4 D (.lst (acc ++ [y]))) else LcB I G W D (i + 1) H3)
    (hd : ∀ D G' H' acc, Same G G' → Wd G' ((D, Is (.lst acc)) :: W) H' → I xs.length acc G' → Q (.ref D) H') :
    ∃ a' ys, [V.ref a] = [.ref a'] ∧ ((SqL K H a' ys ∧ LcQ (Ite K a') (gTup K 2 (gCons (gName i1) (gCons (gName i2) gNil))) tt te vs σ H Q) ∨ (SqT K H a' ys ∧ LcQ (IteT K a') (gTup K 2 (gCons (gName i1) (gCons (gName i2) gNil))) tt te vs σ H Q)) := by
  have step : ∀ (i : Nat) (x : V) (D : Addr) (G' H' H'' : Hp) (acc : List V), i < xs.length → Same G G' → Wd G' ((D, Is (.lst acc)) :: W) H' → I i acc G' → YPair (fun i => some (.int (i : Nat))) (fun i => xs[i]?) i H' x H'' →
      gTup K 2 (gCons (gName i1) (gCons (gName i2) gNil)) x (wipe σ vs) H'' fun σ2 H2 => wipe σ2 vs = wipe σ vs ∧ tt σ2 H2 fun b H3 =>
        if b = true then te σ2 H3 fun y H4 => ∃ acc, H4 D = some (.lst acc) ∧ acc.length < sizeLine ∧ LcB I G W D (i + 1) (upd H4 D (.lst (acc ++ [y]))) else LcB I G W D (i + 1) H3 := fun i x D G' H' H'' acc _ e w' h y => by
    obtain ⟨T, x1, x2, rfl, hn, rfl, e1, e2⟩ := y
    cases e1
    refine ⟨T, _, rfl, SqT.of upd_same, rfl, _, _, rfl, ?_⟩
    refine ⟨_, _, rfl, ?_⟩
    exact ⟨rfl, hw _ _, hs i x2 D G' _ _ acc e2 e h (same_upd (w'.free hn)) (w'.new hn)⟩
  rcases hx with hx | hx
  · exact ⟨a, xs, rfl, .inl ⟨seq_up w hx, lc_go walk_enum I w (fun _ _ _ e w' => seq_up w' (e.seq hx)) h0 step hd⟩⟩
  · exact ⟨a, xs, rfl, .inr ⟨tup_up w hx, lc_go walk_enumT I w (fun _ _ _ e w' => tup_up w' (seqT e hx)) h0 step hd⟩⟩
/-- the inner part of a comprehension of two parts -/
def LcIn (J : It) (g : TG) (tt : TT) (te : TE) (vs : List Nat) (D : Addr) (Nx : Hp → Prop) (σ : L2.St) (H4 : Hp) : Prop := ∃ W1 : Nat → Nat → Hp → Prop, (∃ m, W1 0 m H4) ∧ ∀ j k H, W1 j k H →
  (J.stop j H ∧ Nx H) ∨ (J.go j H ∧ ∃ Nx1 : Hp → Prop, (∀ H', Nx1 H' → ∃ k', k' < k ∧ W1 (j + 1) k' H') ∧ ∀ x H', J.yld j H x H' → g x (wipe σ vs) H' fun σ3 H5 => wipe σ3 vs = wipe σ vs ∧ tt σ3 H5 fun b H6 =>
    if b = true then te σ3 H6 fun y H7 => ∃ acc, H7 D = some (.lst acc) ∧ acc.length < sizeLine ∧ Nx1 (upd H7 D (.lst (acc ++ [y]))) else Nx1 H6)
def Lc2Q (J : It) (g : TG) (tt : TT) (wi1 : TI) (g1 : TG) (tt1 : TT) (te : TE) (vs vs1 : List Nat) (σ : L2.St) (H1 : Hp) (Q : VK) : Prop := ∀ D, H1 D = none → ∃ W : Nat → Nat → Hp → Prop, (∃ m, W 0 m (upd H1 D (.lst []))) ∧ ∀ i m H, W i m H →
  (J.stop i H ∧ Q (.ref D) H) ∨ (J.go i H ∧ ∃ Nx : Hp → Prop, (∀ H', Nx H' → ∃ m', m' < m ∧ W (i + 1) m' H') ∧ ∀ x H', J.yld i H x H' → g x (wipe σ vs) H' fun σ2 H2 => wipe σ2 vs = wipe σ vs ∧ tt σ2 H2 fun b H3 =>
    if b = true then wi1 σ2 H3 fun J1 H4 => LcIn J1 g1 tt1 te vs1 D Nx σ2 H4 else Nx H3)
theorem st_lc2 {wi wi1 : TI} {g g1 : TG} {tt1 : TT} {vs1 : List Nat} (h : wi σ H fun J H1 => Lc2Q J g tt wi1 g1 tt1 te vs vs1 σ H1 Q) : tLc2 wi g tt wi1 g1 tt1 te vs vs1 σ H Q := h
theorem lc_in {J : It} {n : Nat} {Gp : Hp → Prop} {Y : Nat → Hp → V → Hp → Prop} (wk : Walk J n Gp Y) {g : TG} {D : Addr} {Nx : Hp → Prop} (Pv : Nat → Hp → Prop) (h0 : Pv 0 H) (hG : ∀ i H, i ≤ n → Pv i H → Gp H)
    (hs : ∀ i x H H', i < n → Pv i H → Y i H x H' → g x (wipe σ vs) H' fun σ2 H2 => wipe σ2 vs = wipe σ vs ∧ tt σ2 H2 fun b H3 =>
      if b = true then te σ2 H3 fun y H4 => ∃ acc, H4 D = some (.lst acc) ∧ acc.length < sizeLine ∧ Pv (i + 1) (upd H4 D (.lst (acc ++ [y]))) else Pv (i + 1) H3) (hd : ∀ H, Pv n H → Nx H) : LcIn J g tt te vs D Nx σ H := by
  refine ⟨fun i m H => m = n - i ∧ i ≤ n ∧ Pv i H, ⟨n, by simp, Nat.zero_le _, h0⟩, ?_⟩
  rintro i m H ⟨rfl, hi, p⟩
  have q := hG i H hi p
  rcases Nat.lt_or_ge i n with hl | hl
  · exact .inr ⟨wk.goes i H hl q, Pv (i + 1), fun H' p' => ⟨n - (i + 1), by omega, rfl, hl, p'⟩, fun x H' y => hs i x H H' hl p (wk.yields i H x H' hl q y)⟩
  · obtain rfl : i = n := by omega
    exact .inl ⟨wk.stops H q, hd H p⟩
/-- .. for j in range(z) -/
theorem lc_in1 {z : Int} {j : Nat} {D : Addr} {Nx : Hp → Prop} {acc0 : List V} (hz : -(2 ^ 62) ≤ z ∧ z < 2 ^ 62) (I : Nat → List V → Hp → Prop) (w : Wd G ((D, Is (.lst acc0)) :: W) H) (h0 : I 0 acc0 G) (hw : ∀ x, wipe ((wipe σ vs).set j x) vs = wipe σ vs)
    (hs : ∀ (i : Nat) G' H' acc, (i : Int) < z → Same G G' → Wd G' ((D, Is (.lst acc)) :: W) H' → I i acc G' → tt ((wipe σ vs).set j (some (.int (i : Int)))) H' fun b H3 =>
      if b = true then te ((wipe σ vs).set j (some (.int (i : Int)))) H3 fun y H4 => ∃ acc, H4 D = some (.lst acc) ∧ acc.length < sizeLine ∧ LcB I G W D (i + 1) (upd H4 D (.lst (acc ++ [y]))) else LcB I G W D (i + 1) H3)
    (hd : ∀ G' H' acc, Same G G' → Wd G' ((D, Is (.lst acc)) :: W) H' → I z.toNat acc G' → Nx H') : ∃ j' : Int, [V.int z] = [.int j'] ∧ -(2 ^ 62) ≤ j' ∧ j' < 2 ^ 62 ∧ LcIn (Itr 0 j'.toNat) (gName j) tt te vs D Nx σ H :=
  ⟨z, rfl, hz.1, hz.2, lc_in walk_range (LcB I G W D) ⟨G, acc0, Same.refl _, w, h0⟩ (fun _ _ _ _ => trivial) (fun i x H' H'' hi ⟨G', acc, e, w', h⟩ y => by
    obtain ⟨rfl, rfl⟩ := y
    have e0 : (0 : Int) + (i : Int) = (i : Int) := Int.zero_add _
    dsimp only
    rw [e0]
    exact ⟨hw _, hs i G' _ acc (by omega) e w' h⟩) fun H' ⟨G', acc, e, w', h⟩ => hd G' H' acc e w' h⟩
/-- the outer part over a list -/
theorem lc2_l {j : Nat} {wi1 : TI} {g1 : TG} {tt1 : TT} {vs1 : List Nat} (hx : SqL K G a xs) (I : Nat → List V → Hp → Prop) (w : Wd G W H) (h0 : I 0 [] G) (hw : ∀ x, wipe ((wipe σ vs).set j x) vs = wipe σ vs)
    (hs : ∀ (i : Nat) x D G' H' acc, xs[i]? = some x → Same G G' → Wd G' ((D, Is (.lst acc)) :: W) H' → I i acc G' → tt ((wipe σ vs).set j (some x)) H' fun b H3 =>
      if b = true then wi1 ((wipe σ vs).set j (some x)) H3 fun J1 H4 => LcIn J1 g1 tt1 te vs1 D (LcB I G W D (i + 1)) ((wipe σ vs).set j (some x)) H4 else LcB I G W D (i + 1) H3)
    (hd : ∀ D G' H' acc, Same G G' → Wd G' ((D, Is (.lst acc)) :: W) H' → I xs.length acc G' → Q (.ref D) H') : ∃ a', V.ref a = .ref a' ∧ (∃ xs, SqL K H a' xs) ∧ Lc2Q (Itl K a') (gName j) tt wi1 g1 tt1 te vs vs1 σ H Q := by
  refine ⟨a, rfl, ⟨xs, seq_up w hx⟩, fun D hD => ⟨fun i m H => m = xs.length - i ∧ i ≤ xs.length ∧ LcB I G W D i H, ⟨xs.length, by simp, Nat.zero_le _, G, [], Same.refl _, w.newM hD rfl, h0⟩, ?_⟩⟩
  rintro i m H1 ⟨rfl, hi, G', acc, e, w', p⟩
  have q := seq_up w' (e.seq hx)
  have wk : Walk (Itl K a) xs.length (fun H => SqL K H a xs) _ := walk_list
  rcases Nat.lt_or_ge i xs.length with hl | hl
  · refine .inr ⟨wk.goes i H1 hl q, LcB I G W D (i + 1), fun H' p' => ⟨xs.length - (i + 1), by omega, rfl, hl, p'⟩, fun x H' y => ?_⟩
    obtain ⟨e3, y2⟩ := wk.yields i H1 x H' hl q y
    subst e3
    exact ⟨hw _, hs i x D G' _ acc y2 e w' p⟩
  · obtain rfl : i = xs.length := by omega
    exact .inl ⟨wk.stops H1 q, hd D G' H1 acc e w' p⟩
end
end Z

/-! own classes: + == != str repr [] of instances -/
namespace PySem.W
open PySem PySem.Calls PyProof.Rows Builtin
section
variable {prog : Program} {w : World} {A : Around} {E : Value → Shared → Prop} {s : Shared} {K : Frag} {x C L f : Addr} {h0 : Heap} {m : Str → Option Value} {ox : Obj} {od : Option Obj}
theorem zc_ifBound {M : Model} {nm : Str} {id : String} {args : List Value} {Q : Option Value → Shared → Prop} (X : K.In s.heap) (I : InstAt s.heap x ox C od) (hs : findIn K (.ref C) nm = some (some (.builtin id)))
    (hb : ∀ v, bindSpecial (.builtin id) v = pure (.builtin id, [v])) (h : wpAny M A (call (.builtin id) (.ref x :: args)) (fun v => Q (some v)) E s) : wpAny M A (callSpecialIfBound? (.ref x) nm args) Q E s := by
  simp only [callSpecialIfBound?, bindSpecialIfBound?]
  have last : wpAny M A (call (.builtin id) ([.ref x] ++ args) >>= fun v => pure (some v)) Q E s := wpAny_bind (wpAny_mono h (fun v t q => wpAny_pure q) fun _ _ q => q)
  refine wpAny_holding (wpAny_bind (wpAny_bind (wpAny_bind (I.type.here ((looks_findIn X hs).here (wpAny_bind (wpAny_askSetting (wpAny_ite ?_))))))))
  split
  · exact wpAny_bind ((Looks.of_pure (hb _)).here (wpAny_pure last))
  · exact wpAny_tryCatch (wpAny_bind ((Looks.of_pure (hb _)).here (wpAny_pure last)))
theorem zc_neBind (v : Value) : bindSpecial (.builtin "object.__ne__") v = pure (.builtin "object.__ne__", [v]) := by kernel_rfl
/-- x != b, the class has __eq__ and no __ne__ of its own -/
theorem zc_ne {b : Value} {Q : Value → Shared → Prop} (hu : A.units < cLine) (hu1 : A.in1.units < cLine) (F : Fr h0 L s.heap m) (X0 : K.In h0) (I : InstAt s.heap x ox C od) (hb : Looks (model prog w) s.heap (typeOf b) (.ref C))
    (hn : findIn K (.ref C) "__ne__" = some (some (.builtin "object.__ne__"))) (hm : mroIn K C (.type "object") = some true) (hs : findIn K (.ref C) "__eq__" = some (some (.ref f))) (hf : isFn K (.ref f) = true)
    (h : wpAny (model prog w) A.in1 (call (.ref f) [.ref x, b]) (fun v t => ∃ c, v = .bool c ∧ Q (.bool (!c)) t) E s) : wpAny (model prog w) A (richCompare .NotEq (.ref x) b) Q E s := by
  have X := X0.keeps F.keep
  have one : wpAny (model prog w) A (tryCompare (.ref x) (cmpInfo .NotEq).2.1 b) (fun r t => ∃ v, r = some v ∧ Q v t) E s := by
    unfold tryCompare
    refine wpAny_bind (zc_ifBound X I (show findIn K (.ref C) (cmpInfo .NotEq).2.1 = _ from hn) zc_neBind (wpAny_call (codeAny_call_builtin PySem.F.slot_object_ne.plain PySem.F.cmpEntry_ne (check_slot PySem.F.cmpKind_ne PySem.F.cmpSplit_ne (I.type.andThen (looks_mroIn X hm)) (PySem.F.cmpArgs_ne _ _) ?_))))
    unfold Builtin.«object.__ne__»
    refine wpAny_bind (m := slotArgs "__ne__" 1 _) (wpAny_pure ?_)
    refine wpAny_bind (m := cRoomFor _ _) (wpAny_cRoomFor hu1 ?_)
    refine wpAny_bind (m := callSpecialIfBound? (.ref x) (Str.ofString "__eq__") _) (ifBound_K X I hs hf (wpAny_mono h (fun r t hr => ?_) fun _ _ y => y))
    obtain ⟨c, rfl, q⟩ := hr
    refine wpAny_bind (m := truthy (.bool _)) (wpAny_truthy_bool ?_)
    exact wpAny_pure (wpAny_pure ⟨_, rfl, q⟩)
  unfold richCompare
  simp only [oneThing_ref]
  refine wpAny_holding (wpAny_bind (wpAny_cRoomFor hu (wpAny_bind (I.type.here (wpAny_bind (hb.here ?_))))))
  rw [show (Value.ref C != Value.ref C) = false from by simp]
  simp only [Bool.false_eq_true, if_false]
  refine wpAny_bind (wpAny_pure ?_)
  simp only [Bool.false_eq_true, if_false]
  refine wpAny_bind (wpAny_mono one (fun r t z => ?_) fun _ _ e => e)
  obtain ⟨v, rfl, q⟩ := z
  exact wpAny_pure q
end
end PySem.W
namespace Z
open PySem PySem.Spec PyProof.Rows L2
section
variable {X : Cx} {k : Nat} {f C : Addr} {fd : FuncData} {ps : List Str} {sp : Sp}
/-- an own def runs within a builtin -/
theorem run_own {A1 : Around} {E1 : Value → Shared → Prop} {pins : List (Addr × Obj)} {σ : L2.St} {H : Hp} {s : Shared} {Q : VK} {us : List Value} {vs : List V} (F : FnOk X.prog X.w X.K X.mg X.base CX0 k f fd ps sp) (hr : Room k A1) (e0 : Env0 X.prog X.w X.K X.mg X.base A1 X.stack s H)
    (hb : Binds X.K fd ps []) (I : Inv X pins σ H s) (r : Vals vs us) (q : sp vs H Q E0) : wpAny (model X.prog X.w) A1 (call (.ref f) us) (EP X pins σ Q) E1 s := by
  have r2 : Vals vs (us ++ []) := by rw [List.append_nil]; exact r
  refine wpAny_call (codeAny_mono (F.run A1 X.stack s H ⟨us, []⟩ _ _ Q E0 hr e0 (hb s us I.kIn (r2.length.symm.trans (F.len _ _ _ _ q))) r2 q) fun r s' hq => ?_)
  cases r with
  | error e => exact False.elim hq
  | ok fl => cases fl with
    | ret u => exact I.after hq
    | _ => exact False.elim hq
theorem vals_a (a : Addr) : Vals [V.ref a] [Value.ref a] := .cons rfl .nil
theorem vals_ab (a b : Addr) : Vals [V.ref a, V.ref b] [Value.ref a, Value.ref b] := .cons rfl (.cons rfl .nil)
/-- a + b, instances of C -/
def rAddO (C : Addr) (sp : Sp) : R2 := fun x y H Q => ∃ a b dx fs dy gs, x = .ref a ∧ y = .ref b ∧ H a = some (.ins C dx fs) ∧ H b = some (.ins C dy gs) ∧ sp [.ref a, .ref b] H (fun v H2 => ∃ p, v = .ref p ∧ Q (.ref p) H2) E0
theorem op_addO (hc : PySem.W.selfFirst X.K C = true) (hm : Meth X.K C "__add__" f) (F : FnOk X.prog X.w X.K X.mg X.base CX0 k f fd ps sp) (hr : Room k X.A) (hb : Binds X.K fd ps []) : OpR X (binaryOp .Add) (rAddO C sp) := by
  intro pins s σ H x y v u Q I rx ry h
  obtain ⟨a, b, dx, fs, dy, gs, rfl, rfl, ha, hb2, q⟩ := h
  cases rx
  cases ry
  obtain ⟨m, hF⟩ := I.fr
  obtain ⟨ox, od, J, _⟩ := StX.insC_at (C := C) I (.inr ⟨dx, fs, ha⟩)
  obtain ⟨oy, od2, J2, _⟩ := StX.insC_at (C := C) I (.inr ⟨dy, gs, hb2⟩)
  refine PySem.W.binop_K (op := .Add) hF I.ok.mod.kin J J2.type hc hm.at_ hm.fn (wpAny_mono (run_own F hr I.env0 hb I (vals_ab a b) q) (fun v s' hv => ?_) fun _ _ y => y)
  obtain ⟨v', H2, I2, rv, p, rfl, q2⟩ := hv
  cases rv
  exact ⟨V.ref p, H2, I2, rfl, q2⟩
/-- a == b, instances of C; != the same, by == -/
def rEqO (C : Addr) (sp : Sp) (neg : Bool) : R2 := fun x y H Q => ∃ a b dx fs dy gs, x = .ref a ∧ y = .ref b ∧ H a = some (.ins C dx fs) ∧ H b = some (.ins C dy gs) ∧ sp [.ref a, .ref b] H (fun v H2 => ∃ c, v = .bl c ∧ Q (.bl (if neg then !c else c)) H2) E0
theorem op_eqO (hm : Meth X.K C "__eq__" f) (F : FnOk X.prog X.w X.K X.mg X.base CX0 k f fd ps sp) (hr : Room k X.A) (hb : Binds X.K fd ps []) : OpR X (compareOp .Eq) (rEqO C sp false) := by
  intro pins s σ H x y v u Q I rx ry h
  obtain ⟨a, b, dx, fs, dy, gs, rfl, rfl, ha, hb2, q⟩ := h
  cases rx
  cases ry
  obtain ⟨m, hF⟩ := I.fr
  obtain ⟨ox, od, J, _⟩ := StX.insC_at (C := C) I (.inr ⟨dx, fs, ha⟩)
  obtain ⟨oy, od2, J2, _⟩ := StX.insC_at (C := C) I (.inr ⟨dy, gs, hb2⟩)
  refine show wpAny _ _ (richCompare .Eq _ _) _ _ _ from PySem.W.cmp_K (op := .Eq) (tb := .ref C) hr.units0 hF I.ok.mod.kin J J2.type (by simp [PySem.W.notFirst]) hm.at_ hm.fn (wpAny_mono (run_own F hr I.env0 hb I (vals_ab a b) q) (fun v s' hv => ?_) fun _ _ y => y)
  obtain ⟨v', H2, I2, rv, c, rfl, q2⟩ := hv
  cases rv
  exact ⟨V.bl c, H2, I2, rfl, q2⟩
/-- what != of instances needs of the class -/
structure NeC (K : PySem.W.Frag) (C : Addr) : Prop where
  ne : PySem.W.findIn K (.ref C) "__ne__" = some (some (.builtin "object.__ne__"))
  mr : PySem.W.mroIn K C (.type "object") = some true
theorem op_neO (hm : Meth X.K C "__eq__" f) (hn : NeC X.K C) (F : FnOk X.prog X.w X.K X.mg X.base CX0 k f fd ps sp) (hr : Room (k + 1) X.A) (hb : Binds X.K fd ps []) : OpR X (compareOp .NotEq) (rEqO C sp true) := by
  intro pins s σ H x y v u Q I rx ry h
  obtain ⟨a, b, dx, fs, dy, gs, rfl, rfl, ha, hb2, q⟩ := h
  cases rx
  cases ry
  obtain ⟨m, hF⟩ := I.fr
  obtain ⟨ox, od, J, _⟩ := StX.insC_at (C := C) I (.inr ⟨dx, fs, ha⟩)
  obtain ⟨oy, od2, J2, _⟩ := StX.insC_at (C := C) I (.inr ⟨dy, gs, hb2⟩)
  refine show wpAny _ _ (richCompare .NotEq _ _) _ _ _ from PySem.W.zc_ne hr.units0 hr.in1.units0 hF I.ok.mod.kin J J2.type hn.ne hn.mr hm.at_ hm.fn (wpAny_mono (run_own F hr.in1 I.env0.in1 hb I (vals_ab a b) q) (fun v s' hv => ?_) fun _ _ y => y)
  obtain ⟨v', H2, I2, rv, c, rfl, q2⟩ := hv
  cases rv
  exact ⟨c, rfl, V.bl (!c), H2, I2, rfl, q2⟩
/-- str(a) -/
def rStrO (C : Addr) (sp : Sp) : List V → Hp → VK → Prop := fun vs H Q => ∃ a dx fs, vs = [.ref a] ∧ H a = some (.ins C dx fs) ∧ sp [.ref a] H (fun v H2 => ∃ z, v = .str z ∧ Q (.str z) H2) E0
theorem call_strO (hm : Meth X.K C "__str__" f) (F : FnOk X.prog X.w X.K X.mg X.base CX0 k f fd ps sp) (hr : Room (k + 1 + 1) X.A) (hb : Binds X.K fd ps []) : CallR X (.type "str") (rStrO C sp) := by
  intro pins s σ H vs us Q I r h
  obtain ⟨a, dx, fs, rfl, ha, q⟩ := h
  rw [Vals.ref1 r]
  obtain ⟨ox, od, J, _⟩ := StX.insC_at (C := C) I (.inr ⟨dx, fs, ha⟩)
  refine PySem.W.kso_call hr.in1.in1.units0 I.kIn J hm.at_ hm.fn (wpAny_mono (run_own F hr.in1.in1 I.env0.in1.in1 hb I (vals_a a) q) (fun v s' hv => ?_) fun _ _ y => y)
  obtain ⟨v', H2, I2, rv, z, rfl, q2⟩ := hv
  obtain ⟨t, rfl⟩ := rv
  exact ⟨V.str z, H2, I2, ⟨_, rfl⟩, q2⟩
/-- repr(a) -/
theorem call_reprO (hm : Meth X.K C "__repr__" f) (F : FnOk X.prog X.w X.K X.mg X.base CX0 k f fd ps sp) (hr : Room (k + 1) X.A) (hb : Binds X.K fd ps []) : CallR X (.builtin "repr") (rStrO C sp) := by
  intro pins s σ H vs us Q I r h
  obtain ⟨a, dx, fs, rfl, ha, q⟩ := h
  rw [Vals.ref1 r]
  obtain ⟨m, hF⟩ := I.fr
  obtain ⟨ox, od, J, _⟩ := StX.insC_at (C := C) I (.inr ⟨dx, fs, ha⟩)
  refine PySem.W.repr_K hr.in1.units0 hF I.ok.mod.kin J hm.at_ hm.fn (wpAny_mono (run_own F hr.in1 I.env0.in1 hb I (vals_a a) q) (fun v s' hv => ?_) fun _ _ y => y)
  obtain ⟨v', H2, I2, rv, z, rfl, q2⟩ := hv
  obtain ⟨t, rfl⟩ := rv
  exact ⟨V.str z, H2, I2, ⟨_, rfl⟩, q2⟩
/-- a[i] -/
def rIxO (C : Addr) (sp : Sp) : R2 := fun x y H Q => ∃ a dx fs, x = .ref a ∧ H a = some (.ins C dx fs) ∧ sp [.ref a, y] H Q E0
theorem ix_own (hm : Meth X.K C "__getitem__" f) (hfn : PySem.W.fnIn X.K f = true) (F : FnOk X.prog X.w X.K X.mg X.base CX0 k f fd ps sp) (hr : Room (k + 1) X.A) (hb : Binds X.K fd ps []) (value slice : Expr) {pins : List (Addr × Obj)} {s : Shared} {σ : L2.St} {H : Hp} {x y : V} {v u : Value} {Q : VK}
    (I : Inv X pins σ H s) (rx : RelV x v) (ry : RelV y u) (h : rIxO C sp x y H Q) (hs : subscripted slice true v u = runValue (.builtin "lifetime.subscript" ⟨[v, u], []⟩)) : wpAny (model X.prog X.w) X.A (subscriptTail value slice v u) (EP X pins σ Q) X.xe s := by
  obtain ⟨a, dx, fs, rfl, ha, q⟩ := h
  cases rx
  obtain ⟨m, hF⟩ := I.fr
  obtain ⟨ox, od, J, _⟩ := StX.insC_at (C := C) I (.inr ⟨dx, fs, ha⟩)
  exact PySem.W.sub_K hF I.ok.mod.kin J hm.at_ hfn hm.fn (run_own F hr.in1 I.env0.in1 hb I (show Vals [V.ref a, y] [Value.ref a, u] from .cons rfl (.cons ry .nil)) q) hs
end
end Z

/-! pairs of ints sorted; ranges with a step; three targets at once; dicts with tuples as keys -/
namespace Z
open PySem PySem.Spec PyProof.Rows L2
section
variable {X : Cx} {K : PySem.W.Frag} {σ : L2.St} {H G : Hp} {W : Wl} {Q : VK} {a : Addr} {tt : TT} {te : TE} {vs : List Nat}
theorem ip_shl : PIp X .LShift (rI CPow fun i j => .int (i * 2 ^ j.toNat)) := iop_shl
theorem st_par3 {i j l : Nat} {ta : TA} {D : Ends} (h : ta σ H fun vs H1 => ∃ u v w, vs = [u, v, w] ∧ D.nx (((σ.set i (some u)).set j (some v)).set l (some w)) H1) : tPar3 i j l ta D σ H := h
theorem st_iRng3 {ta : TA} {R : It → Hp → Prop} (h : ta σ H fun vs H1 => ∃ (i j c : Int) (n : Nat), vs = [.int i, .int j, .int c] ∧ RgC i j c n ∧ R (Itc i c n) H1) : iRng3 ta σ H R := h
/-- [.. for i in range(lo, z, c)] -/
theorem lc_r3 {lo z c : Int} {j n : Nat} (hn : RgC lo z c n) (I : Nat → List V → Hp → Prop) (w : Wd G W H) (h0 : I 0 [] G) (hw : ∀ x, wipe ((wipe σ vs).set j x) vs = wipe σ vs)
    (hs : ∀ (i : Nat) D G' H' acc, i < n → Same G G' → Wd G' ((D, Is (.lst acc)) :: W) H' → I i acc G' → tt ((wipe σ vs).set j (some (.int (lo + (i : Int) * c)))) H' fun b H3 =>
      if b = true then te ((wipe σ vs).set j (some (.int (lo + (i : Int) * c)))) H3 fun y H4 => ∃ acc, H4 D = some (.lst acc) ∧ acc.length < sizeLine ∧ LcB I G W D (i + 1) (upd H4 D (.lst (acc ++ [y]))) else LcB I G W D (i + 1) H3)
    (hd : ∀ D G' H' acc, Same G G' → Wd G' ((D, Is (.lst acc)) :: W) H' → I n acc G' → Q (.ref D) H') : ∃ (i' j' c' : Int) (n' : Nat), [V.int lo, V.int z, V.int c] = [.int i', .int j', .int c'] ∧ RgC i' j' c' n' ∧ LcQ (Itc i' c' n') (gName j) tt te vs σ H Q :=
  ⟨lo, z, c, n, rfl, hn, lc_go (walk_rangeC) I w (fun _ _ _ _ _ => trivial) h0 (fun i x D G' H' H'' acc hi e w' h y => by
    obtain ⟨rfl, rfl⟩ := y
    exact ⟨hw _, hs i D G' H'' acc hi e w' h⟩) hd⟩
/-- a list of pairs -/
def PrG (G : Hp) : List V → List (Int × Int) → Prop
  | [], [] => True
  | x :: xs, p :: ps => (∃ t, x = .ref t ∧ G t = some (.tup [.int p.1, .int p.2])) ∧ PrG G xs ps
  | _, _ => False
theorem PrG.up {G G' : Hp} (e : Same G G') : ∀ {xs : List V} {ps : List (Int × Int)}, PrG G xs ps → PrG G' xs ps
  | [], [], _ => trivial
  | _ :: _, _ :: _, ⟨⟨t, h1, h2⟩, h3⟩ => ⟨⟨t, h1, e _ _ h2⟩, PrG.up e h3⟩
theorem PrG.app {G : Hp} {x : V} {p : Int × Int} (h : ∃ t, x = .ref t ∧ G t = some (.tup [.int p.1, .int p.2])) : ∀ {xs : List V} {ps : List (Int × Int)}, PrG G xs ps → PrG G (xs ++ [x]) (ps ++ [p])
  | [], [], _ => ⟨h, trivial⟩
  | _ :: _, _ :: _, ⟨h1, h3⟩ => ⟨h1, PrG.app h h3⟩
theorem PrG.len {G : Hp} : ∀ {xs : List V} {ps : List (Int × Int)}, PrG G xs ps → xs.length = ps.length
  | [], [], _ => rfl
  | _ :: _, _ :: _, ⟨_, h3⟩ => by rw [List.length_cons, List.length_cons, PrG.len h3]
/-- the pair at an address -/
def kOf (G : Hp) : V → Int × Int
  | .ref t => match G t with
    | some (.tup [.int i, .int j]) => (i, j)
    | _ => (0, 0)
  | _ => (0, 0)
theorem PrG.k {G : Hp} : ∀ {xs : List V} {ps : List (Int × Int)}, PrG G xs ps → xs.map (kOf G) = ps ∧ ∀ x ∈ xs, ∃ t, x = .ref t ∧ G t = some (.tup [.int (kOf G x).1, .int (kOf G x).2])
  | [], [], _ => ⟨rfl, (fun _ h => nomatch h)⟩
  | x :: xs, p :: ps, ⟨⟨t, h1, h2⟩, h3⟩ => by
    obtain ⟨a1, a2⟩ := PrG.k h3
    have e : kOf G x = p := by
      subst h1
      show (match G t with
        | some (.tup [.int i, .int j]) => (i, j)
        | _ => (0, 0)) = p
      rw [h2]
    refine ⟨by rw [List.map_cons, e, a1], fun y hy => ?_⟩
    rcases List.mem_cons.mp hy with rfl | hy
    · exact ⟨t, h1, by rw [e]; exact h2⟩
    · exact a2 y hy
theorem PrG.of_k {G : Hp} : ∀ {xs : List V}, (∀ x ∈ xs, ∃ t, x = .ref t ∧ G t = some (.tup [.int (kOf G x).1, .int (kOf G x).2])) → PrG G xs (xs.map (kOf G))
  | [], _ => trivial
  | _ :: _, h => ⟨h _ List.mem_cons_self, PrG.of_k fun y hy => h y (List.mem_cons_of_mem _ hy)⟩
theorem lex_uniq : ∀ {l m : List (Int × Int)}, SrtO.Srtd SrtO.lexB l → SrtO.Srtd SrtO.lexB m → l.Perm m → l = m
  | [], m, _, _, h => (List.Perm.eq_nil h.symm).symm
  | x :: l, [], _, _, h => absurd h.length_eq (by simp)
  | x :: l, y :: m, hl, hm, h => by
    have h1 : SrtO.lexB x y = false := by
      rcases List.mem_cons.mp (h.mem_iff.mp List.mem_cons_self) with e | hx
      · rw [e]
        exact SrtO.lexB_no.mpr (by omega)
      · exact SrtO.srtd_head hm x hx
    have h2 : SrtO.lexB y x = false := by
      rcases List.mem_cons.mp (h.mem_iff.mpr List.mem_cons_self) with e | hy
      · rw [e]
        exact SrtO.lexB_no.mpr (by omega)
      · exact SrtO.srtd_head hl y hy
    have n1 := SrtO.lexB_no.mp h1
    have n2 := SrtO.lexB_no.mp h2
    have e : x = y := Prod.ext (by omega) (by omega)
    subst e
    rw [lex_uniq (List.pairwise_cons.mp hl).2 (List.pairwise_cons.mp hm).2 (List.Perm.cons_inv h)]
/-- sorted(pairs): cs is what they are in order -/
theorem st_sortedP {xs : List V} {ps cs : List (Int × Int)} (ha : SqL K H a xs) (hp : PrG G xs ps) (w : Wd G W H) (hc : SrtO.Srtd SrtO.lexB cs) (hpm : cs.Perm ps)
    (k : ∀ p ys G' H', Same G G' → Wd G' W H' → G' p = some (.lst ys) → PrG G' ys cs → Q (.ref p) H') : rSortedPO K [.ref a] H Q := by
  obtain ⟨e1, e2⟩ := hp.k
  refine ⟨a, xs, kOf G, rfl, ha, fun x hx => ?_, fun ys p h1 h2 hn => ?_⟩
  · obtain ⟨t, h1, h2⟩ := e2 x hx
    exact ⟨t, h1, w.at h2⟩
  · have hy : ∀ x ∈ ys, ∃ t, x = V.ref t ∧ G t = some (.tup [.int (kOf G x).1, .int (kOf G x).2]) := fun x hx => e2 x (h2.perm.mem_iff.mp hx)
    have hk : ys.map (kOf G) = cs := lex_uniq (List.pairwise_map.mpr h1) hc (((h2.perm.map (kOf G)).trans (by rw [e1])).trans hpm.symm)
    have hP := PrG.of_k hy
    rw [hk] at hP
    have es : Same G (upd G p (.lst ys)) := same_upd (w.free hn)
    exact k p ys _ _ es (w.new hn) upd_same (hP.up es)
end
end Z

/-! dicts with tuples as keys: a display of one pair; texts of bits; a text from behind -/
namespace Z
open PySem PySem.Spec PyProof.Rows L2
section
variable {X : Cx} {σ : L2.St} {H G : Hp} {W : Wl} {Q : VK} {a : Addr} {te tk tv : TE} {pos : Pos}
theorem units1 {A : Around} (h : A.units + 64 < cLine) : A.units + 1 < cLine := Nat.lt_of_le_of_lt (by omega) h
/-- {k: v}, k a tuple of ints and texts -/
def OneT (p : Addr) (Q : VK) (ps : List (V × V)) (H2 : Hp) : Prop := ∃ b k y, ps = [(.ref b, y)] ∧ H2 p = some (.dT []) ∧ H2 b = some (.tup (k.map kV)) ∧ Q (.ref p) (upd H2 p (.dT [(k, y)]))
def tDisp1T (tk tv : TE) : TE := fun σ H Q => ∀ p, H p = none → tk σ (upd H p (.dT [])) fun x H1 => tv σ H1 fun y H2 => OneT p Q [(x, y)] H2
theorem pe_disp1T {k v : Expr} (hu : X.A.units + 1 < cLine) (hk : PE X k tk) (hv : PE X v tv) : PE X (.Dict [some k] [v] pos) (tDisp1T tk tv) := by
  refine ⟨fun pins s σ H Q I q => ?_⟩
  have hn := I.hok.fresh (Nat.le_refl s.heap.objs.size)
  have I1 := I.laid (a := s.heap.objs.size) (o := .dT []) (h' := s.heap.push { cls := .type "dict", data := .dict #[] }) (t' := s.toks) (fun _ _ q => Heap.get?_push_of_some _ q) (Nat.le_refl _) (dt_empty s.heap I.big)
  rw [arm_eval_Dict, zip_pairTrees [some k] [v] X.env pos rfl rfl, dictDisplay_pairs _ (by exact List.cons_ne_nil _ _) (by show 1 < 17; decide)]
  refine wpAny_bind (wpAny_standAt (wpAny_bind (wpAny_subDictH (knd := tupleKind (mixKind X.prog X.w)) (Q := fun d s' => wpAny (model X.prog X.w) X.A (pure (Value.ref d)) (EP X pins σ Q) X.xe s') (Nat.lt_of_succ_lt hu) (by show 1 ≤ 15; decide) ?_)))
  refine thn ((pps_cons hk hv pps_nil).run pins _ σ _ (OneT s.heap.objs.size Q) I1 (q _ hn)) fun ws s2 ⟨ps, H2, I2, rel, b, ks, y, ep, e, eb, q2⟩ => ?_
  subst ep
  cases rel with
  | @cons p0 w0 _ _ hp hr =>
  cases hr
  obtain ⟨kw, vw⟩ := w0
  obtain ⟨h1, h2⟩ := hp
  obtain rfl : kw = Value.ref b := h1
  obtain ⟨z, hd, xs, rel, dd⟩ := dt_of I2.hok e
  cases rel
  refine ⟨[(ks, b, vw)], ⟨rfl, rfl, key_of I2.hok eb, True.intro⟩, dd, fun h' tk' dd' hs => wpAny_pure ⟨.ref s.heap.objs.size, _, ?_, rfl, q2⟩⟩
  obtain ⟨o, es, ep, hq, h3, h4, h5, h6, h7⟩ := dd'
  refine d_write I2 (by rw [e]; exact True.intro) hs ⟨o, hq⟩ ⟨by show 1 ≤ sizeLine; decide, hd, [(ks, b, vw)], Paired.cons ⟨rfl, ?_, h2⟩ .nil, o, es, ep, hq, h3, h4, h5, h7⟩
  rw [upd_ne (ne_of eb e (fun z => nomatch z))]
  exact eb
theorem kys_map (c : List Int) : (c.map fun i => (Sum.inl i : Key)).map kV = c.map V.int := by
  rw [List.map_map]
  rfl
theorem st_disp1T (h : ∀ p, H p = none → tk σ (upd H p (.dT [])) fun x H1 => tv σ H1 fun y H2 => OneT p Q [(x, y)] H2) : tDisp1T tk tv σ H Q := h
theorem st_dnewT (h : NewO (.dT []) H Q) : tDNewT σ H Q := h
theorem st_dput {td ty tv : TE} {D : Ends} (h : tv σ H fun v H1 => td σ H1 fun x H2 => ty σ H2 fun y H3 => ∃ a H4, x = .ref a ∧ DPut H3 a y v H4 ∧ D.nx σ H4) : sDPut td ty tv D σ H := h
theorem st_dget {td ty : TE} (h : td σ H fun x H1 => ty σ H1 fun y H2 => ∃ a v, x = .ref a ∧ DGet H2 a y (some v) ∧ Q v H2) : tDGet td ty σ H Q := h
theorem st_din {td ty : TE} (h : ty σ H fun y H1 => td σ H1 fun x H2 => ∃ a o, x = .ref a ∧ DGet H2 a y o ∧ Q (.bl o.isSome) H2) : tDIn ty td σ H Q := h
theorem st_dnin {td ty : TE} (h : ty σ H fun y H1 => td σ H1 fun x H2 => ∃ a o, x = .ref a ∧ DGet H2 a y o ∧ Q (.bl (!o.isSome)) H2) : tDNotIn ty td σ H Q := h
/-! ### z[::-1] of a text -/
def revS (z : Str) : Str := ⟨z.cps.toList.reverse.toArray⟩
theorem picked_rev (z : Str) : slicePicked z none none (some ((-1 : Int), t)) = (List.range z.length).reverse := by
  unfold slicePicked Builtin.Str.strSliceIndices
  have h := PySem.W.krv_sliceRange z.length
  rw [PySem.W.krv_range] at h
  exact h
def tRevS (te : TE) : TE := fun σ H Q => te σ H fun x H1 => ∃ z, x = .str z ∧ z.length ≤ sizeLine ∧ Q (.str (revS z)) H1
theorem st_revS (h : te σ H fun x H1 => ∃ z, x = .str z ∧ z.length ≤ sizeLine ∧ Q (.str (revS z)) H1) : tRevS te σ H Q := h
theorem pe_revS {e : Expr} {k : Nat} {p1 p2 p3 pos : Pos} (he : PE X e te) : PE X (.Subscript e (.Slice none none (some (.UnaryOp .USub (.Constant (.int 1) k p1) p2)) p3) pos) (tRevS te) := by
  refine ⟨fun pins s σ H Q I h => ?_⟩
  refine Subscript_ (thn (he.run pins s σ H _ I h) fun v s1 ⟨x, H1, I1, r1, q1⟩ => ?_)
  obtain ⟨z, ex, hz, q⟩ := q1
  subst ex
  obtain ⟨t, rfl⟩ := r1
  have hst : PO X (some (.UnaryOp .USub (.Constant (.int 1) k p1) p2)) (tPart (tUn (rU fun i => .int (-i)) (tC (.int 1)))) := po_some (pe_un un_neg pe_int)
  refine wpAny_Slice (thn (po_none.run pins s1 σ H1 (fun o H2 => o = none ∧ H2 = H1) I1 ⟨rfl, rfl⟩) fun vl s2 ⟨l, H2, I2, pl, el, e2⟩ => ?_)
  subst el e2
  refine thn (po_none.run pins s2 σ H2 (fun o H3 => o = none ∧ H3 = H2) I2 ⟨rfl, rfl⟩) fun vu s3 ⟨u, H3, I3, pu, eu, e3⟩ => ?_
  subst eu e3
  refine thn (hst.run pins s3 σ H3 (fun o H4 => o = some (-1) ∧ H4 = H3) I3 ⟨1, rfl, -1, rfl, rfl, rfl⟩) fun vs s4 ⟨o, H4, I4, ps, eo, e4⟩ => ?_
  subst eo e4
  have I5 : Inv X pins σ H4 { s4 with heap := s4.heap.push { cls := .type "slice", data := .fields #[vl, vu, vs] } } := I4.kept (t' := s4.toks) fun b ob q => Heap.get?_push_of_some _ q
  obtain ⟨l, rfl, el⟩ := IsPart.raw pl
  obtain ⟨u, rfl, eu⟩ := IsPart.raw pu
  obtain ⟨st, rfl, es⟩ := IsPart.raw ps
  cases l with
  | some l => cases el
  | none =>
  cases u with
  | some u => cases eu
  | none =>
  cases st with
  | none => cases es
  | some st =>
  obtain ⟨i, ti⟩ := st
  obtain rfl : i = -1 := Option.some.inj es
  show wpAny (model X.prog X.w) X.A (subscriptTail e (.Slice none none (some (.UnaryOp .USub (.Constant (.int 1) k p1) p2)) p3) (.str z t) (.ref s4.heap.objs.size)) (EP X pins σ Q) X.xe { s4 with heap := s4.heap.push { cls := .type "slice", data := .fields #[_, _, _] } }
  refine tail_any (ops := [.ref s4.heap.objs.size, .str z t]) (typeIs_str _ _ _) F.slot_str_getitem.lookup ?_ (by with_unfolding_all rfl)
  refine wpAny_getItem_str_slice (l := none) (u := none) (st := some (-1, ti)) ⟨_, Heap.get?_push_size _ rfl, rfl, rfl⟩ rfl ?_
  show Made.post (if ((-1 : Int) == 1 && (slicePicked z none none (some (-1, ti))).length == z.length) = true then Made.val (.str z t)
    else Made.str ⟨((slicePicked z none none (some (-1, ti))).filterMap (z.cps[·]?)).toArray⟩) (EP X pins σ Q) _
  rw [if_neg (by simp), picked_rev, List.filterMap_reverse, show (List.range z.length).filterMap (z.cps[·]?) = z.cps.toList from PySem.W.krv_all _]
  refine ⟨?_, .str _, H4, I5.tok _, ⟨_, rfl⟩, q⟩
  show ((z.cps.toList.reverse).toArray).size ≤ sizeLine
  rw [List.size_toArray, List.length_reverse, Array.length_toList]
  exact hz
/-! ### texts of bits -/
def bt (bs : List Int) : Str := ⟨(bs.map fun b => (48 + b).toNat).toArray⟩
theorem bt_rev (bs : List Int) : revS (bt bs) = bt bs.reverse := by
  unfold revS bt
  rw [List.toList_toArray, List.map_reverse]
theorem bt_len (bs : List Int) : (bt bs).length = bs.length := by
  show ((bs.map fun b => (48 + b).toNat).toArray).size = _
  rw [List.size_toArray, List.length_map]
theorem bt_inj : ∀ {as bs : List Int}, (∀ b ∈ as, 0 ≤ b) → (∀ b ∈ bs, 0 ≤ b) → bt as = bt bs → as = bs := by
  intro as bs ha hb h
  have h1 : (as.map fun b => (48 + b).toNat) = bs.map fun b => (48 + b).toNat := by
    have := congrArg (fun z : Str => z.cps.toList) h
    simpa [bt] using this
  clear h
  induction as generalizing bs with
  | nil => cases bs with
    | nil => rfl
    | cons b bs => cases h1
  | cons a as ih =>
    cases bs with
    | nil => cases h1
    | cons b bs =>
      rw [List.map_cons, List.map_cons] at h1
      injection h1 with h2 h3
      have := ha a List.mem_cons_self
      have := hb b List.mem_cons_self
      rw [ih (fun x hx => ha x (List.mem_cons_of_mem _ hx)) (fun x hx => hb x (List.mem_cons_of_mem _ hx)) h3, show a = b by omega]
theorem bt_one {b : Int} (h : b = 0 ∨ b = 1) : (toString b : Str) = bt [b] := by
  rcases h with rfl | rfl <;> rfl
theorem bt_join (bs : List Int) : Txt.join "" (bs.map fun b => bt [b]) = bt bs := by
  rw [TL.join_eq]
  have hj : ∀ ps : List (List Nat), TL.joinL [] ps = ps.flatten := by
    intro ps
    induction ps with
    | nil => rfl
    | cons p ps ih =>
      cases ps with
      | nil => simp [TL.joinL]
      | cons q r =>
        show p ++ ([] ++ TL.joinL [] (q :: r)) = _
        rw [ih, List.nil_append]
        rfl
  have h := TL.tl_join "" (bs.map fun b => bt [b])
  rw [show TL.tl "" = [] from rfl, hj] at h
  have h2 : ((bs.map fun b => bt [b]).map TL.tl).flatten = TL.tl (bt bs) := by
    induction bs with
    | nil => rfl
    | cons b bs ih =>
      rw [List.map_cons, List.map_cons, List.flatten_cons]
      have h := TL.tl_join "" (bs.map fun b => bt [b])
      rw [show TL.tl "" = [] from rfl, hj] at h
      rw [ih h]
      rfl
  rw [h2] at h
  generalize Str.join "" (bs.map fun b => bt [b]) = z at h
  obtain ⟨c⟩ := z
  have : c.toList = (bt bs).cps.toList := h
  have : c = (bt bs).cps := Array.toList_inj.mp this
  subst this
  rfl
theorem st_m1 {r : V → List V → Hp → VK → Prop} {to te : TE} (h : to σ H fun x H1 => (∃ a, x = .str a) ∧ te σ H1 fun y H2 => r x [y] H2 Q) : tM1 r to te σ H Q := h
/-! ### an object for good that may change again -/
def del (G : Hp) (p : Addr) : Hp := fun b => if b = p then none else G b
theorem del_at {p b : Addr} {o : HO} (h : G b = some o) (hb : b ≠ p) : del G p b = some o := by
  unfold del
  rw [if_neg hb]
  exact h
theorem del_same {G0 : Hp} {p : Addr} (e : Same G0 G) (hp : G0 p = none) : Same G0 (del G p) := fun b o h => del_at (e _ _ h) (ne_of_none h hp)
theorem Wd.thaw {o : HO} (w : Wd G W H) (h : G a = some o) : Wd (del G a) ((a, Is o) :: W) H := by
  have hn : ∀ q ∈ W, q.1 ≠ a := fun q hq e => by
    have := (w.own q hq).1
    rw [e, h] at this
    cases this
  refine ⟨fun b u hb => ?_, fun q hq => ?_, ?_⟩
  · unfold del at hb
    split at hb
    · cases hb
    · exact w.ex _ _ hb
  · rcases List.mem_cons.mp hq with rfl | hq
    · exact ⟨by unfold del; rw [if_pos rfl], o, w.at h, rfl⟩
    · refine ⟨?_, (w.own q hq).2⟩
      unfold del
      rw [if_neg (hn q hq)]
      exact (w.own q hq).1
  · rw [List.map_cons]
    refine List.nodup_cons.mpr ⟨fun hm => ?_, w.nd⟩
    obtain ⟨q, hq, e⟩ := List.mem_map.mp hm
    exact hn q hq e
def rJoin (K : PySem.W.Frag) : V → List V → Hp → VK → Prop := fun x xs H Q => ∃ a p, ∃ ys : List Str, x = .str a ∧ xs = [.ref p] ∧ (SqL K H p (ys.map V.str) ∨ SqT K H p (ys.map V.str)) ∧
  (ys.map (·.length)).sum + ys.length * a.length ≤ 16777216 ∧ Q (.str (Txt.join a ys)) H
theorem pe_joinK {o e : Expr} {to te : TE} {apos pos : Pos} (ho : PE X o to) (he : PE X e te) (hs : starEach [e] X.env = [(false, eval e X.env)] := by rfl) (hbase : attributeBase o "join" X.env (eval o X.env) = eval o X.env := by rfl) (hline : (apos.endLine == pos.line) = true := by rfl) :
    PE X (.Call (.Attribute o "join" apos) [e] [] pos) (tM1 (rJoin X.K) to te) := pe_join ho he hs hbase hline
def rLenQ (K : PySem.W.Frag) : List V → Hp → VK → Prop := fun xs H Q => ∃ p ys, xs = [.ref p] ∧ (SqL K H p ys ∨ SqT K H p ys) ∧ Q (.int ys.length) H
theorem call_lenQ : CallR X (.builtin "len") (rLenQ X.K) := call_len_seq
end
end Z

/-! own exceptions with two fields; several except clauses with names; an instance called inside a try; keys of a dict with tuples -/
namespace PySem
namespace ZEX
open PySem.W PySem.Calls PyProof.Rows PySem.HandSPX
open Builtin Builtin.ObjectAttr
section
variable {prog : Program} {w : World} {A : Around} {E : Value → Shared → Prop} {R : Result → Shared → Prop} {hp : Heap} {g : Array GenState} {d : Drawn} {t : Nat} {os : OsState}
theorem z_osa2 {K : W.Frag} {name : Str} {tk : Tok} {v : Value} {x C dx : Addr} {fv : Array Value} {cd : ClassData} {bmB : List Value} {m0 : Str → Option Value} {nl : List Str} (pass : ∀ self, refuseLoop self "__setattr__" bmB = pure ()) (hob0 : bmB.contains (.type "object") = true)
    (X : K.In hp) (hx : hp.get? x = some { cls := .ref C, dict := some dx, data := .fields fv }) (hns : hp.Ns1 dx m0) (hw : Within m0 nl) (hz : nl.length ≤ 1000) (hcd : W.clsIn K C = some cd) (hm : cd.mro = .ref C :: bmB) (hh : cd.hasDict = true) (ha : W.findIn K (.ref C) name = some none)
    (hq : ∀ h' tk', (∀ b o, b ≠ dx → hp.get? b = some o → h'.get? b = some o) → h'.Ns1 dx (fun y => if y = name then some v else m0 y) → R (.ok (.ret .none)) ⟨h', g, d, tk', os⟩) :
    codeAny (model prog w) A (.call (.builtin "object.__setattr__") ⟨[.ref x, .str name tk, v], []⟩) R ⟨hp, g, d, t, os⟩ := by
  obtain ⟨oD, esD, epD, hoD, hdD, _⟩ := hns.count hw
  have i0 : W.InstAt hp x { cls := .ref C, dict := some dx, data := .fields fv } C (some oD) := ⟨hx, rfl, rfl, hoD⟩
  have S := F.store_object
  have ne : cd.mro.isEmpty = false := by rw [hm]; rfl
  have hob : cd.mro.contains (.type "object") = true := by rw [hm, List.contains_cons, hob0, Bool.or_true]
  have hps : refuseLoop (.ref x) "__setattr__" cd.mro = pure () := by rw [hm, refuseLoop_ref]; exact pass _
  have li : W.Looks (model prog w) hp (isInstance (.ref x) (.type "object")) true := i0.type.andThen (W.looks_mroIn X (by unfold W.mroIn; rw [hcd, Option.bind_some, if_neg (by rw [ne]; decide), hob]))
  refine codeAny_call_builtin S.slot.plain S.entry (@W.check_slot (model prog w) _ _ ⟨hp, g, d, t, os⟩ "object.__setattr__" "object" "__setattr__" (.ref x) [.str name tk, v] [] _ S.kind S.split li (S.args (.ref x) (.str name tk) v) ?_)
  have lm : W.Looks (model prog w) hp (mroOf (.ref C)) cd.mro := (W.looks_clsIn X hcd).andThen .now
  have lt : W.Looks (model prog w) hp (storeTaker? none) none := .now
  have lc : W.Looks (model prog w) hp (classData C) cd := W.looks_clsIn X hcd
  rw [W.osa_eq, refuse_eq]
  refine wpAny_bind (wpAny_bind (i0.type.at (wpAny_bind (lm.at ?_))))
  rw [hps]
  refine wpAny_pure (wpAny_bind (i0.type.at (wpAny_bind ((W.looks_findIn X ha).at (wpAny_bind (lt.at ?_))))))
  show wpAny (model prog w) _ (storeInOwnDict (.ref x) (.ref C) (.str name tk) name v false) _ _ _
  obtain ⟨nm, bs, mro, ns, qn, hd, sn, sb, ab, col, del⟩ := cd
  dsimp only at hh
  subst hh
  unfold storeInOwnDict ownDictForStores
  repeat first | (with_reducible refine PySem.OEX.store_in_old hns hw hz ?_) | (with_reducible refine wpAny_loadPart_at hx ?_) | (with_reducible refine lc.at ?_) | wp_step
  exact fun h' tk' hn' hs => hq h' tk' (fun b o hb ho => (hs.2 b hb).trans ho) hn'
end
end ZEX
end PySem
namespace Z
open PySem PySem.Spec PyProof.Rows L2
section
variable {X : Cx} {pins : List (Addr × Obj)} {σ : L2.St} {H : Hp} {s : Shared} {a C dx : Addr} {f : Str} {y : V} {u : Value} {E : Value → Shared → Prop} {A : Around} {B newId initId : String} {bmB : List Value} {fs : List (Str × V)}
theorem z_ost2 {Q : Unit → Shared → Prop} (T : OexB X.K C B newId initId bmB) (I : Inv X pins σ H s) (e : H a = some (exo a C (some dx))) (ed : H dx = some (exd dx fs)) (hl : fs.length ≤ 900) (hno : PySem.W.findIn X.K (.ref C) f = some none) (ry : RelV y u)
    (h : ∀ s', Inv X pins σ (upd H dx (exd dx ((f, y) :: fs))) s' → Q () s') : wpAny (model X.prog X.w) A (setAttr (.ref a) f u) Q E s := by
  obtain ⟨nm, q, N, bs, sn, sub, ab, col, dd, k0, k1, k2, k3, k5, hC⟩ := T.cls
  have hcl : PySem.W.clsIn X.K C = some { name := nm, bases := bs, mro := .ref C :: bmB, ns := N, qualname := q, hasDict := true, slotNames := sn, subclasses := sub, abstract := ab, collection := col, hasDel := false } := by
    unfold PySem.W.clsIn
    rw [hC] <;> rfl
  obtain ⟨t1, ho⟩ := exo_at I.hok e
  obtain ⟨mA, hns, rel⟩ := exd_at I.hok ed
  have hw := within_of rel
  obtain ⟨hp, g, d, t, os⟩ := s
  obtain ⟨oD, _, _, hoD, _, _⟩ := hns.count hw
  refine PySem.W.set_plain I.kIn (od := some oD) (ox := { cls := .ref C, dict := some dx, data := .fields #[.ref t1, .none, .none, .none, .bool false, .none] }) ⟨ho, rfl, rfl, hoD⟩ T.sa ?_
  refine PySem.ZEX.z_osa2 T.pass T.hob I.kIn ho hns hw (by rw [List.length_map]; omega) hcl rfl rfl hno fun h' tk' k hn => ?_
  have hd : ∃ o, h'.get? dx = some o := let ⟨o, _, _, e', _⟩ := hn; ⟨o, e'⟩
  exact h _ (I.write (t' := tk') (x := dx) (e := dx) (o := exd dx ((f, y) :: fs)) (by rw [ed]; exact True.intro) (.inl rfl) k hd (exd_ok hn (relO_put ry rel)))
end
/-- self.f = e, a further field -/
def tBst2 (K : PySem.W.Frag) (B newId initId : String) (bmB : List Value) (f : Str) (to te : TE) : TS := fun D σ H => te σ H fun y H1 => to σ H1 fun x H2 => ∃ a C dx fs, x = .ref a ∧ OexB K C B newId initId bmB ∧ PySem.W.findIn K (.ref C) f = some none ∧
  H2 a = some (exo a C (some dx)) ∧ H2 dx = some (exd dx fs) ∧ fs.length ≤ 900 ∧ D.nx σ (upd H2 dx (exd dx ((f, y) :: fs)))
section
variable {X : Cx} {o e : Expr} {to te : TE} {f : Str} {p' pos : Pos} {B newId initId : String} {bmB : List Value} {σ : L2.St} {H G : Hp} {W : Wl}
theorem ps_bst2 (ho : PE X o to) (he : PE X e te) (hs : swapsWith e (some (.Attribute o f p')) pos.line X.env = pure false := by rfl) : PS X (.Assign [.Attribute o f p'] e pos) (tBst2 X.K B newId initId bmB f to te) := by
  refine ⟨fun pins s σ H D I h => plainObj_wpAny_Assign_Attribute (thn (he.run pins s σ H _ I h) fun v s1 ⟨y, H1, I1, r1, q1⟩ => thn (ho.run pins s1 σ H1 _ I1 q1) fun u s2 ⟨x, H2, I2, r2, a, C, dx, fs, ex, T, hno, ea, ed, hl, q⟩ => ?_) hs⟩
  subst ex
  cases (show u = Value.ref a from r2)
  exact z_ost2 T I2 ea ed hl hno r1 fun s' J => ⟨σ, _, J, q⟩
theorem st_bst2 {K : PySem.W.Frag} {D : Ends} (h : te σ H fun y H1 => to σ H1 fun x H2 => ∃ a C dx fs, x = .ref a ∧ OexB K C B newId initId bmB ∧ PySem.W.findIn K (.ref C) f = some none ∧
  H2 a = some (exo a C (some dx)) ∧ H2 dx = some (exd dx fs) ∧ fs.length ≤ 900 ∧ D.nx σ (upd H2 dx (exd dx ((f, y) :: fs)))) : tBst2 K B newId initId bmB f to te D σ H := h
end
/-- what an __init__ of two fields gives -/
def sp_init2 (C : Addr) (n m : Str) : Sp := fun vs H Q _ => ∃ (a : Addr) (v u : V), vs = [.ref a, v, u] ∧ H a = some (exo a C none) ∧ ∀ d, H d = none → d ≠ a → Q .non (upd (upd (upd H d (exd d [(n, v)])) a (exo a C (some d))) d (exd d [(m, u), (n, v)]))
theorem mk_done2 {G H : Hp} {W : Wl} {C : Addr} {n m : Str} {v u : V} {Q : XK} (w : Wd G W H) (k : ∀ d G' H', Same G G' → Wd G' W H' → G' d = some (.xd [(m, u), (n, v)]) → Q (.ref C) (some d) H') (a : Addr) (ha : H a = none) :
    sp_init2 C n m [.ref a, v, u] (upd H a (exo a C none)) (fun v H2 => v = .non ∧ ∃ (d : Addr) (fs : List (Str × V)), H2 a = some (exo a C (some d)) ∧ H2 d = some (exd d fs) ∧ H d = none ∧ Q (.ref C) (some d) (upd (L2.del H2 a) d (.xd fs))) (fun _ _ _ => False) := by
  refine ⟨a, v, u, rfl, upd_same, fun d hd hda => ⟨rfl, d, [(m, u), (n, v)], ?_, upd_same, ?_, ?_⟩⟩
  · rw [upd_ne (Ne.symm hda), upd_same]
  · rw [upd_ne hda] at hd
    exact hd
  · rw [upd_ne hda] at hd
    have e : upd (L2.del (upd (upd (upd (upd H a (exo a C none)) d (exd d [(n, v)])) a (exo a C (some d))) d (exd d [(m, u), (n, v)])) a) d (.xd [(m, u), (n, v)]) = upd H d (.xd [(m, u), (n, v)]) := by
      funext b
      by_cases hb : b = d
      · rw [hb, upd_same, upd_same]
      · rw [upd_ne hb, upd_ne hb]
        by_cases hba : b = a
        · rw [hba, L2.del_same, ha]
        · rw [L2.del_ne hba, upd_ne hb, upd_ne hba, upd_ne hb, upd_ne hba]
    rw [e]
    exact k d _ _ (same_upd (w.free hd)) (w.new hd) upd_same
/-! ### try with several clauses, each with a name or without -/
abbrev ClN := Value × Option Nat × (Addr → Value → Option Addr → TS)
/-- behind a suite its name is gone -/
def goneD (D : Ends) : Option Nat → Ends
  | none => D
  | some i => { nx := fun σ' H' => D.nx (σ'.set i none) H', rt := D.rt, bk := fun σ' H' => D.bk (σ'.set i none) H', ct := fun σ' H' => D.ct (σ'.set i none) H' }
def putN (σ : L2.St) (a : Addr) : Option Nat → L2.St
  | none => σ
  | some i => σ.set i (some (.ref a))
/-- what the clauses wish of an exception of the body, from the first on -/
def wCl (K : PySem.W.Frag) (Wout : WX) (D : Ends) : List ClN → WX
  | [] => Wout
  | (c, o, ts) :: r => fun cls d σ H => ∃ b, PySem.W.exmOne K cls c = some b ∧ (b = true → ∀ a, H a = none → ts a cls d (goneD D o) (putN σ a o) H) ∧ (b = false → wCl K Wout D r cls d σ H)
inductive HdN (X : Cx) : List ExceptHandler → List ClN → Prop
  | nil : HdN X [] []
  | bare {x : Str} {c : Value} {ts : Addr → Value → Option Addr → TS} {b₀ : Stmt} {suite : List Stmt} {np pos' : Pos} {hds : List ExceptHandler} {l : List ClN} (hc : Names X x c)
      (hsu : ∀ (a : Addr) (oe : Obj) (cls : Value) (d : Option Addr) (pn : List (Addr × Obj)), Zc cls d oe → (∃ vs, oe.data = .fields vs) → PSs (X.suite a ((a, oe) :: pn)) (b₀ :: suite) (ts a cls d)) (r : HdN X hds l) :
      HdN X (.ExceptHandler (some (.Name x np)) none (b₀ :: suite) pos' :: hds) ((c, none, ts) :: l)
  | named {x n : Str} {i : Nat} {c : Value} {ts : Addr → Value → Option Addr → TS} {b₀ : Stmt} {suite : List Stmt} {np pos' : Pos} {hds : List ExceptHandler} {l : List ClN} (hN : X.N.Nodup) (hi : X.N[i]? = some n) (hln : X.env.kindOf n = some .local) (hc : Names X x c)
      (hsu : ∀ (a : Addr) (oe : Obj) (cls : Value) (d : Option Addr) (pn : List (Addr × Obj)), Zc cls d oe → (∃ vs, oe.data = .fields vs) → PSs (X.suite a ((a, oe) :: pn)) (b₀ :: suite) (ts a cls d)) (r : HdN X hds l) :
      HdN X (.ExceptHandler (some (.Name x np)) (some n) (b₀ :: suite) pos' :: hds) ((c, some i, ts) :: l)
section
variable {X : Cx} {body : List Stmt} {h₀ : ExceptHandler} {hds : List ExceptHandler} {l : List ClN} {pos : Pos} {tb : WX → TS} {Wout : WX}
theorem ps_tryN (hs : X.stack = X.env :: X.outer) (hf : X.env.frame = some X.env.locals) (tk : Takes X Wout)
    (hb : ∀ (W : WX) (pn : List (Addr × Obj)) (xe : Value → Shared → Prop), Takes (X.tr pn xe) W → PassesOwn (model X.prog X.w) X.A X.env xe → PSs (X.tr pn xe) body (tb W))
    (hh : HdN X (h₀ :: hds) l) : PS X (.Try body (h₀ :: hds) [] [] pos) (fun D σ H => tb (wCl X.K Wout D l) D σ H) := by
  refine ⟨fun pins s σ H D I h => ?_⟩
  have ok := I.ok
  have hfr : X.A.frames = some (X.env :: X.outer) := by rw [ok.frames, hs]
  refine wpAny_Try_except ?_
  refine wpAny_mono ((hb (wCl X.K Wout D l) (X.pn ++ pins) (fun e s₁ => wpAny (model X.prog X.w) X.A (noteFrame e X.env) (fun _ s₂ => wpAny (model X.prog X.w) X.A (setFlight e none) (fun _ s₃ =>
    wpAny (model X.prog X.w) X.A (handleBy e X.env (h₀ :: hds)) (SP X pins D) X.xe s₃) X.xe s₂) X.xe s₁) (fun u s' xx => ?_) PassesOwn.looking).run [] s σ H D (I.toTry _) h) (fun f s1 hsp => ?_) (fun e s1 he => he)
  · obtain ⟨a, B, sI, pins', σ', H', cls, d, rfl, J', nb, up, sky, na, os, ag, wish⟩ := xx
    have J : Inv X pins σ' H' sI := J'.ofTry ok
    show wpAny (model X.prog X.w) X.A (noteFrame (.ref a) X.env) _ _ _
    refine Sky.land Zc.steady hfr hf (by rw [← hs]; exact sky) fun h3 fl3 up3 => ?_
    have J3 : Inv X pins σ' H' { s' with heap := h3 } := J.landed nb fl3.1 (up.trans up3) os ag
    obtain ⟨oe3, vs3, he3, hz3, hd3⟩ := fl3.there
    have nfr : a ∉ frs (X.env :: X.outer) := fun hm => by
      obtain ⟨_, o', e', hnf⟩ := fl3.2.2.1.mem hm
      rw [he3] at e'
      cases e'
      exact hnf _ hd3
    have nL : a ≠ X.env.locals := fun z => nfr (List.mem_filterMap.mpr ⟨X.env, List.mem_cons_self, by rw [hf, z]⟩)
    have nF : a ∉ X.fs := fun hm => by
      obtain ⟨e, he, q⟩ := List.mem_filterMap.mp hm
      exact nfr (List.mem_filterMap.mpr ⟨e, List.mem_cons_of_mem _ he, q⟩)
    have S3 := J3.suite he3 hd3 na nL nF
    have LT : PySem.W.Looks (model X.prog X.w) h3 (typeOf (.ref a)) cls := fun A Q E s k q => wpAny_typeOf_ref (k _ _ he3) (by rw [hz3.1]; exact q)
    have test : ∀ {x : Str} {c : Value} {np : Pos} {Q : Value → Shared → Prop} {E : Value → Shared → Prop}, Names X x c → Q c { s' with heap := h3 } → wpAny (model X.prog X.w) (X.A.mark (some (.ref a))) (eval (.Name x np) X.env) Q E { s' with heap := h3 } := fun {x c np Q E} hc q => by
      obtain ⟨hg, hdbg, hm | ⟨hm, hv, hnn⟩⟩ := hc
      · exact ld_glob (X := X.suite a ((a, oe3) :: (X.pn ++ pins))) S3 hg hm q hdbg
      · exact ld_blt (X := X.suite a ((a, oe3) :: (X.pn ++ pins))) S3 hg hm hv q hnn hdbg
    have go : ∀ {hds' : List ExceptHandler} {l' : List ClN}, HdN X hds' l' → wCl X.K Wout D l' cls d σ' H' → wpAny (model X.prog X.w) X.A (handleBy (.ref a) X.env hds') (SP X pins D) X.xe { s' with heap := h3 } := by
      intro hds' l' hk
      induction hk with
      | nil =>
        intro wish
        refine wpAny_handleBy_nil ?_
        obtain ⟨k1, k2, k3, oe, vs, T, oT, ts', he, hz, hd, h1, hr⟩ := id fl3
        unfold PySem.passOn
        refine wpAny_bind (wpAny_field he hd h1 ?_)
        rw [if_neg (show ¬ ((Value.ref T == Value.none) = true) from by simp)]
        have fin : wpAny (model X.prog X.w) X.A (setFlight (.ref a) X.env.frame) (fun _ s4 => wpAny (model X.prog X.w) X.A (throw (.ref a) : Sem Flow) (SP X pins D) X.xe s4) X.xe { s' with heap := h3 } := by
          rw [hf]
          exact HandSPX.setFlight_upZ fl3 fun h4 hh4 up4 => wpAny_throw (tk _ _ ⟨a, B, sI, pins, σ', H', cls, d, rfl, J, nb, (up.trans up3).trans up4, .inr (.inr (by rw [hs]; exact hh4)), na, os, ag, wish⟩)
        first
          | exact wpAny_bind (wpAny_pure (wpAny_bind fin))
          | exact wpAny_bind fin
      | bare hc hsu _ ih =>
        rintro ⟨b, hb1, hyes, hno⟩
        refine wpAny_handleBy_cons (codeAny_handlers_test ?_) (by intro q; cases q)
        refine test hc ((PySem.W.exm_one (M := model X.prog X.w) (J3.kIn) LT hb1).here ?_)
        cases b with
        | false => exact ih (hno rfl)
        | true =>
          refine codeAny_handlers_suite (HandSPX.lands_againZ fl3 fun h4 fl4 up4 => ?_)
          have J4 : Inv X pins σ' H' { s' with heap := h4 } := J.landed nb fl4.1 ((up.trans up3).trans up4) os ag
          obtain ⟨oe4, vs4, he4, hz4, hd4⟩ := fl4.there
          refine wpAny_mono ((hsu a oe4 cls d (X.pn ++ pins) hz4 ⟨_, hd4⟩).run [] _ _ H' _ (J4.suite he4 hd4 na nL nF) (hyes rfl a na)) (fun f s6 hsp => ?_) (fun _ _ z => False.elim z)
          cases f with
          | ret u => exact let ⟨_, _, _, S6, r6, q6⟩ := hsp; ⟨_, _, _, S6.unsuite ok, r6, q6⟩
          | next => exact let ⟨_, _, S6, q6⟩ := hsp; ⟨_, _, S6.unsuite ok, q6⟩
          | brk => exact let ⟨_, _, S6, q6⟩ := hsp; ⟨_, _, S6.unsuite ok, q6⟩
          | cont => exact let ⟨_, _, S6, q6⟩ := hsp; ⟨_, _, S6.unsuite ok, q6⟩
      | named hN hi hln hc hsu _ ih =>
        rintro ⟨b, hb1, hyes, hno⟩
        refine wpAny_handleBy_cons (codeAny_handlers_test ?_) (by intro q; cases q)
        refine test hc ((PySem.W.exm_one (M := model X.prog X.w) (J3.kIn) LT hb1).here ?_)
        cases b with
        | false => exact ih (hno rfl)
        | true =>
          refine codeAny_handlers_suite_as (HandSPX.lands_againZ fl3 fun h4 fl4 up4 => ?_)
          have J4 : Inv X pins σ' H' { s' with heap := h4 } := J.landed nb fl4.1 ((up.trans up3).trans up4) os ag
          obtain ⟨oe4, vs4, he4, hz4, hd4⟩ := fl4.there
          refine store_ok (X := X.suite a ((a, oe4) :: (X.pn ++ pins))) (v := .ref a) (J4.suite he4 hd4 na nL nF) hN hi (.inl hln) rfl (fun s5 S5 => ?_) (.inr hln)
          refine wpAny_mono ((hsu a oe4 cls d (X.pn ++ pins) hz4 ⟨_, hd4⟩).run [] s5 _ H' _ S5 (hyes rfl a na)) (fun f s6 hsp => ?_) (fun _ _ z => False.elim z)
          cases f with
          | ret u => exact let ⟨_, _, _, S6, r6, q6⟩ := hsp; gone_ok (S6.unsuite ok) hN hi hln fun s7 J7 => ⟨_, _, _, J7, r6, q6⟩
          | next => exact let ⟨_, _, S6, q6⟩ := hsp; gone_ok (S6.unsuite ok) hN hi hln fun s7 J7 => ⟨_, _, J7, q6⟩
          | brk => exact let ⟨_, _, S6, q6⟩ := hsp; gone_ok (S6.unsuite ok) hN hi hln fun s7 J7 => ⟨_, _, J7, q6⟩
          | cont => exact let ⟨_, _, S6, q6⟩ := hsp; gone_ok (S6.unsuite ok) hN hi hln fun s7 J7 => ⟨_, _, J7, q6⟩
    exact go hh wish
  · cases f with
    | next => exact let ⟨σ', H', J', q⟩ := hsp; wpAny_execs_nil ⟨σ', H', J'.ofTry ok, q⟩
    | brk => exact let ⟨σ', H', J', q⟩ := hsp; ⟨σ', H', J'.ofTry ok, q⟩
    | cont => exact let ⟨σ', H', J', q⟩ := hsp; ⟨σ', H', J'.ofTry ok, q⟩
    | ret u => exact let ⟨v, σ', H', J', r, q⟩ := hsp; ⟨v, σ', H', J'.ofTry ok, r, q⟩
end
/-! ### an instance called -/
section
variable {X : Cx} {CX : CXT} {k : Nat} {C g : Addr} {sp : Sp} {fe e : Expr} {es : List Expr} {tf : TE} {t : TA} {pos : Pos} {σ : L2.St} {H : Hp} {Q : VK} {m : Str} {f : Addr}
/-- o(..), o an instance of C; its exceptions go where the try says -/
def tCallOS (C : Addr) (sp : Sp) (E : L2.St → XK) (tf : TE) (t : TA) : TE := fun σ H Q => tf σ H fun y H1 => ∃ a, y = V.ref a ∧ t σ H1 fun vs H2 => (∃ dx fs, H2 a = some (.ins C dx fs)) ∧ sp (V.ref a :: vs) H2 Q (E σ)
theorem pe_callOS {E : L2.St → XK} {fd : FuncData} {ps : List Str} (hf : PE X fe tf) (c : StX.CallO X.K C g) (F : FnOk X.prog X.w X.K X.mg X.base CX k g fd ps sp) (hr : Room k X.A) (hb : Binds X.K fd ps []) (hx : ∀ σ, PassesAt CX X σ (E σ)) (ha : PA X (e :: es) t)
    (ht : eval (.Call fe (e :: es) [] pos) X.env = (do callWith pos (← eval fe X.env) [] (backTo pos (starEach (e :: es) X.env)) (backToKw pos (keywordEach [] X.env))) := by rfl)
    (he : starEach (e :: es) X.env = (false, eval e X.env) :: starEach es X.env := by rfl) (hpl : (backTo pos (starEach es X.env)).any (·.1) = false := by rfl) : PE X (.Call fe (e :: es) [] pos) (tCallOS C sp E tf t) := by
  refine ⟨fun pins s σ H Q I h => ?_⟩
  refine Call_ (thn (hf.run pins s σ H _ I h) fun u s1 ⟨y, H1, I1, ry, a, ey, q⟩ => ?_) ht
  subst ey
  obtain rfl : u = Value.ref a := ry
  refine StX.callO_with (thn (ha.run pos pins s1 σ H1 _ I1 q) fun us s2 ⟨vs, H2, I2, r, hi, q2⟩ => ?_) he hpl
  obtain ⟨ox, od, J, hd⟩ := StX.insC_at (C := C) I2 (.inr hi)
  refine ⟨⟨C, ox, od, J, hd⟩, wpAny_call (PySem.W.kco_code I2.kIn J hd c.at_ c.fn c.fi ?_)⟩
  have r2 : Vals (V.ref a :: vs) ((Value.ref a :: us) ++ []) := by
    rw [List.append_nil]
    exact .cons rfl r
  refine codeAny_mono (F.run X.A X.stack s2 H2 ⟨Value.ref a :: us, []⟩ _ _ Q (E σ) hr I2.env0 (hb s2 (Value.ref a :: us) I2.kIn (by have e2 := r2.length; rw [F.len _ _ _ _ q2] at e2; exact e2.symm)) r2 q2) fun r s' hq => ?_
  cases r with
  | error e => exact hx σ pins H2 s2 e s' I2 hq
  | ok fl => cases fl with
    | ret u => exact I2.after hq
    | _ => exact False.elim hq
theorem st_callOS {E : L2.St → XK} (h : tf σ H fun y H1 => ∃ a, y = V.ref a ∧ t σ H1 fun vs H2 => (∃ dx fs, H2 a = some (.ins C dx fs)) ∧ sp (V.ref a :: vs) H2 Q (E σ)) : tCallOS C sp E tf t σ H Q := h
end
/-! ### enumerate of a text; a comprehension over a text -/
def IteS (z : Str) : It :=
  ⟨fun i _ => i < z.cps.size, fun i H v H' => ∃ T c, v = .ref T ∧ H T = none ∧ H' = upd H T (.tup [.int (i : Nat), .str ⟨#[c]⟩]) ∧ z.cps[i]? = some c, fun i _ => z.cps.size ≤ i⟩
theorem turn_enumS {P : Program} {w : World} {K : PySem.W.Frag} {elts : List Expr} {kk : Nat} {tpos : Pos} (z : Str) (t : Tok) (ty : String) (hty : ty = "str_ascii_iterator" ∨ ty = "str_iterator") (e it : Addr) :
    Turn P w K (.Tuple elts kk tpos) (IteS z) [e, it] e (fun i h => i ≤ z.cps.size ∧ (∃ old, IsEnum h e it ((i : Nat) : Int) old) ∧ h.IsStrIter it ty z t i ∧ e ≠ it) where
  mem := List.mem_cons_self
  obj := fun i h st b hb => by
    obtain ⟨_, ⟨old, he⟩, ⟨o, ho, hc, hd⟩, _⟩ := st
    rcases (show b = e ∨ b = it by simpa using hb) with z | z
    · exact z ▸ ⟨_, he, fun v q => nomatch q⟩
    · exact z ▸ ⟨o, ho, fun v q => by rw [hd] at q; cases q⟩
  keep := fun i h h' st k => let ⟨hi, ⟨old, he⟩, ⟨o, ho, r⟩, hne⟩ := st; ⟨hi, ⟨old, k e List.mem_cons_self _ he⟩, ⟨o, k it (by simp) o ho, r⟩, hne⟩
  item := by
    intro X hP hw hK hc i pins s σ H E I hf st hg
    cases hP; cases hw; cases hK
    obtain ⟨_, ⟨old, he⟩, hit, hne⟩ := st
    have hel := Heap.lt_size he
    have hil : it < s.heap.objs.size := let ⟨o, ho, _⟩ := hit; Heap.lt_size ho
    have D : Draws X.prog X.w X.A.in1 it [it] z.cps.size (fun i v => ∃ c u, z.cps[i]? = some c ∧ v = .str ⟨#[c]⟩ u) (fun i h => h.IsStrIter it ty z t i) := by
      rcases hty with e | e
      · rw [e]; exact Draws.strAscii (A := X.A.in1) (I.ok.hd hc) it z t
      · rw [e]; exact Draws.strWide (A := X.A.in1) (I.ok.hd hc) it z t
    refine wpAny_pyNext_enum_itemD D he hit hg hne (by simp [hne]) fun v h' tk hv ho hst hT hsz hk => ?_
    obtain ⟨c, u, hcx, rfl⟩ := hv
    refine ⟨_, rfl, wpAny_letOwnedTupleGo_enum (s := { s with heap := h', toks := tk + 1 }) ho fun h'' he' sb => ?_⟩
    have hT2 := (sb.2 _ (Nat.ne_of_gt hel)).trans hT
    have new : ObjOk X.prog X.w (upd H s.heap.objs.size (.tup [.int (i : Nat), .str ⟨#[c]⟩])) h'' s.heap.objs.size (.tup [.int (i : Nat), .str ⟨#[c]⟩]) :=
      ⟨by show 2 ≤ sizeLine; decide, [.int i tk, .str ⟨#[c]⟩ u], .cons ⟨_, rfl⟩ (.cons ⟨_, rfl⟩ .nil), ⟨_, hT2, rfl, _, rfl⟩⟩
    have I1 := I.turnedNew (t' := tk + 1) (ch := [e, it]) (fun b ob hb q => (sb.2 b (fun z => hb (by simp [z]))).trans (hk b ob (fun z => hb (by simp [z])) (fun z => hb (by simp [z])) q)) hf (Nat.le_refl _) new
    refine ⟨.ref s.heap.objs.size, _, I1, rfl, ⟨_, c, rfl, I.hok.fresh (Nat.le_refl _), rfl, hcx⟩, ⟨hg, ⟨.str ⟨#[c]⟩ u, ?_⟩, let ⟨o, ho2, r⟩ := hst; ⟨o, (sb.2 it (Ne.symm hne)).trans ho2, r⟩, hne⟩, fun b hb => ?_⟩
    · rw [show ((i + 1 : Nat) : Int) = (i : Int) + 1 by omega]
      exact he'
    · have hb' : b < s.heap.objs.size := by
        rcases (show b = e ∨ b = it by simpa using hb) with z | z
        · exact z ▸ hel
        · exact z ▸ hil
      rw [upd_ne (Nat.ne_of_lt hb')]
      exact (hf b hb).1
  done := by
    intro X hP hw hK hc i pins s σ H E I hf st hg
    cases hP; cases hw; cases hK
    obtain ⟨hi, ⟨old, he⟩, hit, hne⟩ := st
    obtain ⟨f0, f1, f2, f3, f4, f5⟩ := hf it (by simp)
    have D : Draws X.prog X.w X.A.in1 it [it] z.cps.size (fun i v => ∃ c u, z.cps[i]? = some c ∧ v = .str ⟨#[c]⟩ u) (fun i h => h.IsStrIter it ty z t i) := by
      rcases hty with e | e
      · rw [e]; exact Draws.strAscii (A := X.A.in1) (I.ok.hd hc) it z t
      · rw [e]; exact Draws.strWide (A := X.A.in1) (I.ok.hd hc) it z t
    have hn : i = z.cps.size := Nat.le_antisymm hi hg
    subst hn
    exact wpAny_pyNext_enum_endD D he hit fun h' eb => ⟨rfl, I.turned (t' := s.toks) (fun b o hb q => eb b o hb q) f0 f1 f3 f4 f5⟩
  self := fun A i s Q E st h => let ⟨_, ⟨_, he⟩, _⟩ := st; wpAny_pyIter_enum he h
def iEnumS (ta : TA) : TI := fun σ H R => ta σ H fun vs H1 => ∃ z, vs = [.str z] ∧ R (IteS z) H1
theorem pi_enumS {X : Cx} {e : Expr} {ta : TA} {p pos tpos : Pos} {elts : List Expr} {kk : Nat} (hg : Gl X "enumerate") (hm : X.mg "enumerate" = none) (ha : PA X [e] ta) (hs : starEach [e] X.env = [(false, eval e X.env)] := by rfl) :
    PI X (.Tuple elts kk tpos) (.Call (.Name "enumerate" p) [e] [] pos) (iEnumS ta) := by
  refine ⟨fun pins s σ H R I h => Call_ (ld_blt I hg hm boot_enumerate (PyProof.Rows.callWith_type1 (thn (ha.run pos pins s σ H _ I h) fun us s1 ⟨vs, H1, I1, r1, z, ex, q⟩ => ?_) hs rfl))⟩
  subst ex
  cases r1 with
  | cons r rr =>
    cases rr
    obtain ⟨t, rfl⟩ := r
    have fp : ∀ b ∈ [s1.heap.objs.size + 1, s1.heap.objs.size], FpOk X pins H1 b := fun b hb => by
      have hle : s1.heap.objs.size ≤ b := by
        rcases (show b = s1.heap.objs.size + 1 ∨ b = s1.heap.objs.size by simpa using hb) with z | z
        · exact z ▸ Nat.le_add_right _ _
        · exact z ▸ Nat.le_refl _
      exact I1.fpOk hle (I1.hok.fresh hle)
    refine call_enumerate_str fun h' he hit hsz hk => wpAny_pyIter_enum he ?_
    have hty : strIterType z = "str_ascii_iterator" ∨ strIterType z = "str_iterator" := by
      unfold strIterType
      split
      · exact .inl rfl
      · exact .inr rfl
    exact ⟨s1.heap.objs.size + 1, _, _, _, H1, rfl, I1.kept (t' := s1.toks) hk, turn_enumS z t _ hty (s1.heap.objs.size + 1) s1.heap.objs.size, ⟨Nat.zero_le _, ⟨.none, he⟩, hit, Nat.succ_ne_self _⟩, fp, q⟩
section
variable {K : PySem.W.Frag} {σ : L2.St} {H G : Hp} {W : Wl} {Q : VK} {nx : L2.St → Hp → Prop} {rt : VK} {tb : TS} {ta : TA} {R : It → Hp → Prop} {z : Str} {te : TE} {tt : TT} {vs : List Nat}
theorem walk_enumS : Walk (IteS z) z.cps.size (fun _ => True) (YPair (fun i => some (.int (i : Nat))) (fun i => z.cps[i]?.map fun c => .str ⟨#[c]⟩)) :=
  ⟨fun i H hi _ => hi, fun H _ => Nat.le_refl _, fun i H x H' hi _ y => by
    obtain ⟨T, c, e1, e2, e3, e4⟩ := y
    exact ⟨T, _, _, e1, e2, e3, rfl, congrArg (Option.map fun c : Nat => V.str ⟨#[c]⟩) e4⟩⟩
theorem st_iEnumS (h : ta σ H fun vs H1 => ∃ z, vs = [.str z] ∧ R (IteS z) H1) : iEnumS ta σ H R := h
theorem st_iStr (h : te σ H fun v H1 => ∃ x, v = .str x ∧ R (Its x) H1) : iStr te σ H R := h
/-- for i, c in enumerate(a text) -/
theorem for_enumS {i1 i2 : Nat} (I : Nat → L2.St → Hp → Wl → Prop) (w : Wd G W H) (h0 : I 0 σ G W)
    (hs : ∀ (i c : Nat) σ' G' G'' W' H', z.cps[i]? = some c → Same G G' → I i σ' G' W' → Same G' G'' → Wd G'' W' H' → tb ⟨Btw I G (i + 1), rt, nx, Btw I G (i + 1)⟩ ((σ'.set i1 (some (.int (i : Int)))).set i2 (some (.str ⟨#[c]⟩))) H')
    (hd : ∀ σ' G' W' H', Same G G' → Wd G' W' H' → I z.cps.size σ' G' W' → nx σ' H') :
    ∃ z', [V.str z] = [.str z'] ∧ LoopQ (IteS z') (gTup K 2 (gCons (gName i1) (gCons (gName i2) gNil))) tb nx rt σ H :=
  ⟨z, rfl, loop_go walk_enumS I w (fun _ _ _ _ _ => trivial) h0 (fun i x σ' G' W' H' H'' _ e w' h y => by
    obtain ⟨T, x1, x2, rfl, hn, rfl, e1, e2⟩ := y
    cases e1
    obtain ⟨c, hc, rfl⟩ := Option.map_eq_some_iff.mp e2
    refine ⟨T, _, rfl, SqT.of upd_same, rfl, _, _, rfl, ?_⟩
    refine ⟨_, _, rfl, ?_⟩
    exact ⟨rfl, hs i c σ' G' _ W' _ hc e h (same_upd (w'.free hn)) (w'.new hn)⟩) hd⟩
/-- [.. for c in a text] -/
theorem lc_str {j : Nat} (I : Nat → List V → Hp → Prop) (w : Wd G W H) (h0 : I 0 [] G) (hw : ∀ x, wipe ((wipe σ vs).set j x) vs = wipe σ vs)
    (hs : ∀ (i c : Nat) D G' H' acc, z.cps[i]? = some c → Same G G' → Wd G' ((D, Is (.lst acc)) :: W) H' → I i acc G' → tt ((wipe σ vs).set j (some (.str ⟨#[c]⟩))) H' fun b H3 =>
      if b = true then te ((wipe σ vs).set j (some (.str ⟨#[c]⟩))) H3 fun y H4 => ∃ acc, H4 D = some (.lst acc) ∧ acc.length < sizeLine ∧ LcB I G W D (i + 1) (upd H4 D (.lst (acc ++ [y]))) else LcB I G W D (i + 1) H3)
    (hd : ∀ D G' H' acc, Same G G' → Wd G' ((D, Is (.lst acc)) :: W) H' → I z.cps.size acc G' → Q (.ref D) H') : ∃ x, V.str z = .str x ∧ LcQ (Its x) (gName j) tt te vs σ H Q :=
  ⟨z, rfl, lc_go walk_str I w (fun _ _ _ _ _ => trivial) h0 (fun i x D G' H' H'' acc hi e w' h y => by
    obtain ⟨rfl, c, hc, rfl⟩ := y
    exact ⟨hw _, hs i c D G' H'' acc hc e w' h⟩) hd⟩
end
/-! ### a new instance by keywords alone -/
section
variable {X : Cx} {CX : CXT} {k : Nat} {f C : Addr} {fd : FuncData} {ps ks : List Str} {sp : Sp} {E : XK} {x : Str} {p pos : Pos} {kws : List Keyword} {tk : TA} {g : List Value → List Value → List Value} {gV : List V → List V → List V}
theorem pe_makeN0 (M : Mk X.K C f) (F : FnOk X.prog X.w X.K X.mg X.base CX k f fd ps sp) (hr : Room (k + 1) X.A) (hg : Gl X x) (hm : X.mg x = some (.ref C)) (hb : KBn X.K fd ps 1 ks g gV) (hx : Passes CX X E)
    (hkw : PK X kws tk) (hall : (backToKw pos (keywordEach kws X.env)).all (·.1.isSome) = true := by rfl) (hks : (backToKw pos (keywordEach kws X.env)).filterMap (·.1) = ks := by rfl)
    (hdb : (x == ("__debug__" : Str)) = false := by decide) (hpl : ((backTo pos (starEach [] X.env)).any (·.1) || (backToKw pos (keywordEach kws X.env)).any (·.1.isNone)) = false := by rfl) :
    PE X (.Call (.Name x p) [] kws pos) (tMakeN C 0 ks.length sp gV E tNil tk) := by
  refine ⟨fun pins s σ H Q I h => wpAny_Call_Name_kw (ld_glob I hg hm ?_ hdb)⟩
  refine PySem.W.callWith_KW0 (h₀ := X.base) I.ok.mod.kin M.kp hall (thn (hkw.run pos pins _ σ H _ (I.tok _) h) fun ws s2 ⟨zs, H2, I2, rz, l1, l2, q2⟩ => ⟨I2.kIn, ?_⟩) hpl
  rw [hks]
  exact run_makeN (n := 0) (us := []) (vs := []) M F hr hb hx I2 .nil rz rfl l2 q2
theorem st_makeN {n m : Nat} {t : TA} {σ : L2.St} {H : Hp} {Q : VK} (h : t σ H fun vs H1 => tk σ H1 fun zs H2 => vs.length = n ∧ zs.length = m ∧
  ∀ x dx, H2 x = none → H2 dx = none → dx ≠ x → sp (gV (.ref x :: vs) zs) (upd (upd H2 dx (.own x)) x (.ins C dx [])) (fun v H3 => v = .non ∧ Q (.ref x) H3) E) : tMakeN C n m sp gV E t tk σ H Q := h
theorem atP (h : Passes CX X E) : ∀ σ, PassesAt CX X σ E := fun σ pins H s e s' I q => h pins σ H s e s' I q
end
end Z

/-! an own instance by index; texts of bits: parts, in a list, index; *items -/
namespace PySem
open AutoSeq1
theorem zExtT (l : Addr) (items : Array Value) (n : Nat) (b : Addr) (items2 : Array Value) (n2 : Nat) (dd : Option Addr) (sl : Array (Option Value)) (hs0 : ¬(!items.isEmpty && Builtin.List.listTooLong (items.size + items2.size)) = true) (hs1 : items.size ≤ sizeLine) (hs2 : items.size + items2.size ≤ sizeLine + 1) :
    Meets (Builtin.«list.extend» ⟨[.ref l, .ref b], []⟩) (fun _ R s => s.heap.get? l = some { cls := .type "list", dict := none, data := .seq items n, slots := #[] } ∧ s.heap.get? b = some { cls := .type "tuple", dict := dd, data := .seq items2 n2, slots := sl } ∧ R (.ok (.ret Value.none)) { s with heap := s.heap.update l (Obj.mapSeq fun x => x ++ items2), toks := s.toks }) :=
  .of_wp fun prog w A R s h => by
    obtain ⟨hp, g, d, tk, os⟩ := s; obtain ⟨hl, hb, h⟩ := h; have f1 := idx_int; have f2 := sub_tuple_tuple; have f3 := sub_list_list; have f4 := sub_tuple_list; have f5 := sub_list_tuple;
    have hz' : (items ++ items2).size ≤ sizeLine + 1 := by rw [Array.size_append]; exact hs2
    wp_walk using (wpAny_updateSeq hl rfl (hz := hs1) (_hz' := hz')), wpAny_loadPart' hl, wpAny_loadPart' hb; exact ⟨_, rfl, h⟩
end PySem
namespace Z
open PySem PySem.Spec PyProof.Rows L2
def rListOf (K : PySem.W.Frag) : List V → Hp → VK → Prop := fun xs H Q => ∃ p ys, xs = [.ref p] ∧ (SqL K H p ys ∨ SqT K H p ys) ∧ ∀ l, H l = none → Q (.ref l) (upd H l (.lst ys))
theorem call_listOf {X : Cx} : CallR X (.type "list") (rListOf X.K) := call_list_of
/-- xs.extend(t), t a tuple -/
def rExtT (K : PySem.W.Frag) : V → List V → Hp → VK → Prop := fun x vs H Q => ∃ l b xs zs, x = .ref l ∧ vs = [.ref b] ∧ H l = some (.lst xs) ∧ SqT K H b zs ∧ xs.length + zs.length ≤ sizeLine ∧ Q .non (upd H l (.lst (xs ++ zs)))
theorem mt_extT {X : Cx} : MtM X "list.extend" (rExtT X.K) := by
  intro pins s σ H x vs v us Q I rx rv h
  obtain ⟨l, b, xs, zs, rfl, rfl, hH, hB, hz, q⟩ := h
  cases rx
  obtain ⟨u, rfl, ru⟩ := rv.one
  cases ru
  obtain ⟨z, its, n, r, hl, e⟩ := I.lstM hH
  obtain ⟨its2, r2, ht, hz2⟩ := I.tuple hB
  obtain ⟨⟨c, dd, dt, sl⟩, e2, hc, n2, hd⟩ := ht
  obtain rfl : c = .type "tuple" := hc
  obtain rfl : dt = .seq its2.toArray n2 := hd
  have hl2 := r2.length
  have hsz : its.toArray.size + its2.toArray.size ≤ sizeLine := by rw [List.size_toArray, List.size_toArray]; omega
  have hlong : ¬ (!its.toArray.isEmpty && Builtin.List.listTooLong (its.toArray.size + its2.toArray.size)) = true := by
    rw [notLongL hsz, Bool.and_false]
    exact Bool.false_ne_true
  refine call_meets F.slot_list_extend ⟨_, e, rfl⟩ F.entry_list_extend (F.args_list_extend_2 _ _)
    (zExtT l its.toArray n b its2.toArray n2 dd sl hlong (by rw [List.size_toArray]; omega) (by omega)) ⟨e, e2, ?_⟩
  refine ⟨.non, _, I.lset (its' := its ++ its2) hH e (by simp) (r.append r2) ?_, rfl, q⟩
  rw [List.length_append]
  omega
section
variable {X : Cx} {k : Nat} {f C : Addr} {fd : FuncData} {ps : List Str} {sp : Sp} {a b : Expr} {ta tb : TE} {pos : Pos}
theorem pe_ixO (hm : Meth X.K C "__getitem__" f) (hfn : PySem.W.fnIn X.K f = true) (F : FnOk X.prog X.w X.K X.mg X.base CX0 k f fd ps sp) (hr : Room (k + 1) X.A) (hb : Binds X.K fd ps []) (ha : PE X a ta) (hb2 : PE X b tb)
    (hs : ∀ v u : Value, subscripted b true v u = runValue (.builtin "lifetime.subscript" ⟨[v, u], []⟩) := by intro _ _; rfl) : PE X (.Subscript a b pos) (tOp (rIxO C sp) ta tb) := by
  refine ⟨fun pins s σ H Q I h => ?_⟩
  exact Subscript_ (binT ha hb2 I h fun v u s2 x y H2 I2 rx ry q => ix_own hm hfn F hr hb a b I2 rx ry q (hs _ _))
end
section
variable {K : PySem.W.Frag} {σ : L2.St} {H G : Hp} {W : Wl} {Q : VK} {QA : List V → Hp → Prop} {te : TE} {t : TA}
theorem st_star (h : te σ H fun x H1 => ∃ p xs, x = V.ref p ∧ (SqT K H1 p xs ∨ SqL K H1 p xs) ∧ t σ H1 fun ys H2 => QA (xs ++ ys) H2) : StX.tStar K te t σ H QA := h
end
theorem bt_list (bs : List Int) : (bt bs).cps.toList = bs.map fun b => (48 + b).toNat := by
  unfold bt
  exact List.toList_toArray
theorem cutS_bt (bs : List Int) {s e : Nat} (h : s ≤ e) : cutS (bt bs) (some (s : Int)) (some (e : Int)) = bt ((bs.drop s).take (e - s)) := by
  unfold cutS
  rw [HT.sIx_nat, HT.sIx_nat, bt_len, bt_list]
  unfold bt
  rw [List.map_take, List.map_drop]
  congr 1
  rcases Nat.le_total s bs.length with h1 | h1
  · rw [Nat.min_eq_left h1]
    rcases Nat.le_total e bs.length with h2 | h2
    · rw [Nat.min_eq_left h2]
    · rw [Nat.min_eq_right h2, List.take_of_length_le (by rw [List.length_drop, List.length_map]; omega), List.take_of_length_le (by rw [List.length_drop, List.length_map]; omega)]
  · rw [Nat.min_eq_right h1, List.drop_of_length_le (by rw [List.length_map]; omega), List.drop_of_length_le (by rw [List.length_map]; omega)]
    simp
theorem cutS_lo (bs : List Int) (e : Nat) : cutS (bt bs) none (some (e : Int)) = bt (bs.take e) := by
  have h := cutS_bt bs (Nat.zero_le e)
  rw [List.drop_zero, Nat.sub_zero] at h
  rw [← h]
  unfold cutS
  rw [HT.sIx_none, HT.sIx_nat, HT.sIx_nat, Nat.min_eq_left (Nat.zero_le _)]
def Pos0 (c : List Int) : Prop := ∀ b ∈ c, 0 ≤ b
theorem bt_eq {a b : List Int} (ha : Pos0 a) (hb : Pos0 b) : decide (V.str (bt a) = V.str (bt b)) = decide (a = b) := by
  by_cases h : a = b
  · rw [decide_eq_true h, decide_eq_true (by rw [h])]
  · rw [decide_eq_false h, decide_eq_false fun e => h (bt_inj ha hb (by injection e))]
def tb (cs : List (List Int)) : List V := cs.map fun c => V.str (bt c)
theorem flat_tb (cs : List (List Int)) : (tb cs).all flatV = true := by
  unfold tb
  rw [List.all_map, List.all_eq_true]
  intro c _
  rfl
theorem eqV_bt {a b : List Int} (ha : Pos0 a) (hb : Pos0 b) : eqV (.str (bt a)) (.str (bt b)) = decide (a = b) := by
  show (bt a == bt b) = _
  by_cases h : a = b
  · rw [decide_eq_true h, h]
    exact beq_self_eq_true _
  · rw [decide_eq_false h]
    exact beq_eq_false_iff_ne.mpr fun e => h (bt_inj ha hb e)
theorem in_tb {c : List Int} (hc : Pos0 c) : ∀ {cs : List (List Int)}, (∀ d ∈ cs, Pos0 d) → inV (.str (bt c)) (tb cs) = decide (c ∈ cs)
  | [], _ => by simp [inV, tb]
  | d :: cs, h => by
    have ih := in_tb hc (cs := cs) fun x hx => h x (List.mem_cons_of_mem _ hx)
    unfold inV tb at ih ⊢
    rw [List.map_cons, List.any_cons, ih, eqV_bt (h d List.mem_cons_self) hc]
    by_cases e : d = c
    · simp [e]
    · have e' : ¬ c = d := fun z => e z.symm
      simp [e, e', List.mem_cons]
section
variable {K : PySem.W.Frag} {H G : Hp} {W : Wl} {Q : VK} {a : Addr}
/-- c in a list of texts of bits -/
theorem st_inB {c : List Int} {cs : List (List Int)} (ha : SqL K H a (tb cs)) (hc : Pos0 c) (hcs : ∀ d ∈ cs, Pos0 d) (q : Q (.bl (decide (c ∈ cs))) H) : rIn K false (.str (bt c)) (.ref a) H Q := by
  refine ⟨a, _, rfl, .inl ha, rfl, flat_tb cs, ?_⟩
  rw [in_tb hc hcs]
  exact q
theorem first_of {α : Type} [DecidableEq α] [BEq α] [LawfulBEq α] {cs : List α} {c : α} (h : c ∈ cs) : cs[cs.idxOf c]? = some c ∧ ∀ i : Nat, i < cs.idxOf c → cs[i]? ≠ some c := by
  induction cs with
  | nil => exact nomatch h
  | cons x xs ih =>
    by_cases e : x = c
    · subst e
      rw [List.idxOf_cons_self]
      exact ⟨rfl, fun i hi => absurd hi (Nat.not_lt_zero i)⟩
    · obtain ⟨h2, h3⟩ := ih ((List.mem_cons.mp h).resolve_left fun z => e z.symm)
      rw [List.idxOf_cons, show (x == c) = false from beq_eq_false_iff_ne.mpr e]
      refine ⟨h2, fun i hi => ?_⟩
      cases i with
      | zero => exact fun z => e (Option.some.inj z)
      | succ i => exact h3 i (Nat.lt_of_succ_lt_succ hi)
/-- cs.index(c), texts of bits -/
theorem st_indexB {c : List Int} {cs : List (List Int)} (ha : SqL K H a (tb cs)) (hc : Pos0 c) (hcs : ∀ d ∈ cs, Pos0 d) (hm : c ∈ cs) (q : Q (.int ((cs.idxOf c : Nat) : Int)) H) : rIndex K (.ref a) [.str (bt c)] H Q := by
  obtain ⟨h2, h3⟩ := first_of hm
  refine ⟨a, _, _, cs.idxOf c, .str (bt c), rfl, rfl, ha, rfl, flat_tb cs, by unfold tb; rw [List.getElem?_map, h2]; rfl, by rw [eqV_bt hc hc]; exact decide_eq_true rfl, fun i z hi hz => ?_, q⟩
  unfold tb at hz
  rw [List.getElem?_map] at hz
  obtain ⟨d, hd, rfl⟩ := Option.map_eq_some_iff.mp hz
  rw [eqV_bt (hcs d (List.mem_of_getElem? hd)) hc]
  exact decide_eq_false fun e => h3 i hi (by rw [hd, e])
end
theorem bt_joins : ∀ cs : List (List Int), Txt.join "" (cs.map bt) = bt cs.flatten := fun cs => by
  have h : (Str.join "" (cs.map bt)).cps.toList = (bt cs.flatten).cps.toList := by
    have h1 := TL.tl_join "" (cs.map bt)
    have hj : ∀ ps : List (List Nat), TL.joinL [] ps = ps.flatten := by
      intro ps
      induction ps with
      | nil => rfl
      | cons p ps ih =>
        cases ps with
        | nil => simp [TL.joinL]
        | cons q r =>
          show p ++ ([] ++ TL.joinL [] (q :: r)) = _
          rw [ih, List.nil_append]
          rfl
    rw [show TL.tl "" = [] from rfl, hj] at h1
    refine Eq.trans h1 ?_
    clear h1 hj
    induction cs with
    | nil => rfl
    | cons c cs ih =>
      rw [List.map_cons, List.map_cons, List.flatten_cons, ih, List.flatten_cons, bt_list, bt_list, List.map_append]
      show (bt c).cps.toList ++ _ = _
      rw [bt_list]
  rw [TL.join_eq]
  generalize Str.join "" (cs.map bt) = z at h
  obtain ⟨c⟩ := z
  have : c = (bt cs.flatten).cps := Array.toList_inj.mp h
  subst this
  rfl
end Z

/-! lambdas: tables of code objects as ghosts; the end of a law whose defs hold lambdas -/
namespace Z
open PySem PySem.Spec PyProof.Rows L2
open LamX (CodeO TabS Tabs ExtN codeO_ne TabB GivesTo tLam lamCx LamS lamEnv)
/-! ### tables among what may change -/
def TabP (G : Hp) (q : Str) : HO → Prop := fun o => ∃ ps : Array Value, o = .tbl ps ∧ TriplesOk ps.toList ∧ ∀ (pos : Pos) (cv : Value), codeAmong pos ps.toList = some cv → ∃ c, cv = .ref c ∧ G c = some (CodeO c q)
def TabW (T : List (Addr × Str)) (G : Hp) : Wl := T.map fun p => (p.1, TabP G p.2)
def NoTbl (G : Hp) : Prop := ∀ b ps, G b ≠ some (.tbl ps)
def NoX (W : Wl) : Prop := ∀ p ∈ W, ∀ o, p.2 o → (∀ ps, o ≠ .tbl ps) ∧ ∀ c q, o ≠ CodeO c q
def strip (G : Hp) : Hp := fun b => match G b with
  | some (.tbl _) => none
  | x => x
theorem strip_of {G : Hp} {b : Addr} {o : HO} (h : G b = some o) (n : ∀ ps, o ≠ .tbl ps) : strip G b = some o := by
  unfold strip
  rw [h]
  cases o <;> first | rfl | exact absurd rfl (n _)
theorem of_strip {G : Hp} {b : Addr} {o : HO} (h : strip G b = some o) : G b = some o := by
  unfold strip at h
  split at h
  · cases h
  · exact h
theorem strip_nt (G : Hp) : NoTbl (strip G) := fun b ps h => by
  have h2 := of_strip h
  unfold strip at h
  rw [h2] at h
  cases h
theorem same_strip {G G' : Hp} (nt : NoTbl G) (e : Same G G') : Same G (strip G') := fun b o h => strip_of (e _ _ h) fun ps z => nt b ps (by rw [h, z])
theorem Wd.strip {G H : Hp} {W : Wl} (w : Wd G W H) : Wd (strip G) W H :=
  ⟨fun b o h => w.ex _ _ (of_strip h), fun p hp => ⟨by
    have h := (w.own p hp).1
    unfold Z.strip
    rw [h], (w.own p hp).2⟩, w.nd⟩
section
variable {K : PySem.W.Frag} {G : Hp}
theorem lstrip {a : Addr} {xs : List V} (h : SqL K G a xs) : SqL K (strip G) a xs := by
  rcases h with (h | ⟨o, h⟩) | h
  · exact .inl (.inl (strip_of h fun _ z => by cases z))
  · exact .inl (.inr ⟨o, strip_of h fun _ z => by cases z⟩)
  · exact .inr h
theorem tstrip {a : Addr} {xs : List V} (h : SqT K G a xs) : SqT K (strip G) a xs := by
  rcases h with (h | ⟨o, h⟩) | h
  · exact .inl (.inl (strip_of h fun _ z => by cases z))
  · exact .inl (.inr ⟨o, strip_of h fun _ z => by cases z⟩)
  · exact .inr h
mutual
theorem dstrip : ∀ {d : PyData} {v : V}, Dp K G v d → Dp K (strip G) v d
  | _, _, .non => .non
  | _, _, .bl b => .bl b
  | _, _, .int i => .int i
  | _, _, .str x => .str x
  | _, _, .lst h r => .lst (lstrip h) (dstripAll r)
  | _, _, .tup h r => .tup (tstrip h) (dstripAll r)
theorem dstripAll : ∀ {ds : List PyData} {vs : List V}, DpAll K G vs ds → DpAll K (strip G) vs ds
  | _, _, .nil => .nil
  | _, _, .cons h r => .cons (dstrip h) (dstripAll r)
end
end
theorem tabW_map (T : List (Addr × Str)) (G : Hp) : (TabW T G).map (·.1) = T.map (·.1) := by
  unfold TabW
  rw [List.map_map]
  rfl
theorem tabW_mem {T : List (Addr × Str)} {G : Hp} {p : Addr × (HO → Prop)} (h : p ∈ TabW T G) : ∃ t ∈ T, p = (t.1, TabP G t.2) := by
  obtain ⟨t, ht, e⟩ := List.mem_map.mp h
  exact ⟨t, ht, e.symm⟩
theorem Wd.tabUp {G G' H : Hp} {T : List (Addr × Str)} {Wr : Wl} (w : Wd G' (TabW T G ++ Wr) H) (e : Same G G') : Wd G' (TabW T G' ++ Wr) H := by
  refine ⟨w.ex, fun p hp => ?_, ?_⟩
  · rcases List.mem_append.mp hp with hp | hp
    · obtain ⟨t, ht, rfl⟩ := tabW_mem hp
      obtain ⟨g, o, ho, ps, h1, h2, h3⟩ := w.own (t.1, TabP G t.2) (List.mem_append_left _ (List.mem_map.mpr ⟨t, ht, rfl⟩))
      exact ⟨g, o, ho, ps, h1, h2, fun pos cv hc => let ⟨c, e1, e2⟩ := h3 pos cv hc; ⟨c, e1, e _ _ e2⟩⟩
    · exact w.own p (List.mem_append_right _ hp)
  · have := w.nd
    rw [List.map_append, tabW_map] at this ⊢
    exact this
open Classical in
/-- G and the code objects of H -/
noncomputable def addC (G H : Hp) : Hp := fun b => if G b = none ∧ ∃ q, H b = some (CodeO b q) then H b else G b
section
variable {G H H1 : Hp} {T : List (Addr × Str)} {Wr : Wl}
theorem addC_old {b : Addr} {o : HO} (h : G b = some o) : addC G H1 b = some o := by
  unfold addC
  rw [if_neg (fun z => by rw [h] at z; exact nomatch z.1), h]
theorem addC_new {b : Addr} {q : Str} (h : G b = none) (hc : H1 b = some (CodeO b q)) : addC G H1 b = some (CodeO b q) := by
  unfold addC
  rw [if_pos ⟨h, q, hc⟩, hc]
theorem addC_cases {b : Addr} {o : HO} (h : addC G H1 b = some o) : G b = some o ∨ (H1 b = some o ∧ ∃ q, o = CodeO b q) := by
  unfold addC at h
  split at h
  · rename_i z
    obtain ⟨_, q, hq⟩ := z
    rw [hq] at h
    exact .inr ⟨by rw [hq]; exact h, q, (Option.some.inj h).symm⟩
  · exact .inl h
theorem tabs_of (w : Wd G (TabW T G ++ Wr) H) : Tabs T H := fun p hp => by
  obtain ⟨_, o, ho, ps, rfl, h2, h3⟩ := w.own (p.1, TabP G p.2) (List.mem_append_left _ (List.mem_map.mpr ⟨p, hp, rfl⟩))
  exact ⟨ps, ho, h2, fun pos cv hc => let ⟨c, e1, e2⟩ := h3 pos cv hc; ⟨c, e1, w.at e2⟩⟩
/-- a lambda is made -/
theorem lam_ghost (w : Wd G (TabW T G ++ Wr) H) (nx : NoX Wr) (nt : NoTbl G) (e : ExtN H H1) (t1 : Tabs T H1) : ∃ G1, Same G G1 ∧ NoTbl G1 ∧ Wd G1 (TabW T G1 ++ Wr) H1 := by
  have old : ∀ b o, G b = some o → H1 b = some o := fun b o h => e b o (w.at h) fun ps z => nt b ps (by rw [h, z])
  refine ⟨addC G H1, fun b o h => addC_old h, fun b ps h => ?_, fun b o h => ?_, fun p hp => ?_, ?_⟩
  · rcases addC_cases h with h | ⟨_, q, hq⟩
    · exact nt b ps h
    · exact codeO_ne ps hq.symm
  · rcases addC_cases h with h | ⟨h, _⟩
    · exact old b o h
    · exact h
  · have none_of : ∀ {b : Addr} {o : HO}, G b = none → H1 b = some o → (∀ c q, o ≠ CodeO c q) → addC G H1 b = none := fun {b o} g h1 n => by
      unfold addC
      rw [if_neg fun z => by
        obtain ⟨_, q, hq⟩ := z
        rw [h1] at hq
        exact n b q (Option.some.inj hq), g]
    rcases List.mem_append.mp hp with hp | hp
    · obtain ⟨t, ht, rfl⟩ := tabW_mem hp
      obtain ⟨g, _⟩ := w.own (t.1, TabP G t.2) (List.mem_append_left _ (List.mem_map.mpr ⟨t, ht, rfl⟩))
      obtain ⟨ps, h1, h2, h3⟩ := t1 t ht
      refine ⟨none_of g h1 fun c q z => codeO_ne ps z.symm, _, h1, ps, rfl, h2, fun pos cv hc => ?_⟩
      obtain ⟨c, e1, e2⟩ := h3 pos cv hc
      refine ⟨c, e1, ?_⟩
      cases gc : G c with
      | none => exact addC_new gc e2
      | some u =>
        have := old c u gc
        rw [e2] at this
        rw [addC_old gc]
        exact this.symm
    · obtain ⟨g, o, ho, hP⟩ := w.own p (List.mem_append_right _ hp)
      obtain ⟨n1, n2⟩ := nx p hp o hP
      have h1 := e _ _ ho n1
      exact ⟨none_of g h1 n2, o, h1, hP⟩
  · have := w.nd
    rw [List.map_append, tabW_map] at this ⊢
    exact this
theorem st_lam {TT : (XK → Hp → VK → Prop) → Hp → VK → Prop} {t : XK → TE} {σ : L2.St} {Q : VK} (w : Wd G (TabW T G ++ Wr) H) (nx : NoX Wr) (nt : NoTbl G)
    (k : ∀ G1 H1, Same G G1 → NoTbl G1 → Wd G1 (TabW T G1 ++ Wr) H1 → TT (fun E H' Q' => t E σ H' Q') H1 Q) : tLam T TT t σ H Q :=
  ⟨tabs_of w, fun H1 e t1 => let ⟨G1, e1, n1, w1⟩ := lam_ghost w nx nt e t1; k G1 H1 e1 n1 w1⟩
end
/-! ### the call of what was handed -/
section
variable {X : Cx}
theorem takes_len {W : WX} (t : Takes X W) : Takes X (fun cls d σ H => σ.length = X.N.length → W cls d σ H) := fun u s' ⟨a, B, sI, pins, σ, H, cls, d, e, I, nb, up, sky, na, os, ag, w⟩ =>
  t u s' ⟨a, B, sI, pins, σ, H, cls, d, e, I, nb, up, sky, na, os, ag, w I.len⟩
/-- a(), what was handed is called -/
def tLc (n : Nat) (f c' : Addr) (q : Str) (tl : XK → Hp → VK → Prop) (W : WX) : TS := fun D σ H => ∃ E : XK, (∀ cls d σ' H', σ'.length = n → E cls d H' → W cls d σ' H') ∧ σ[0]? = some (some (.ref f)) ∧ H c' = some (CodeO c' q) ∧ tl E H fun _ H' => D.nx σ H'
theorem ps_lcall {n : Nat} {W : WX} {f c' : Addr} {q : Str} {tl : XK → Hp → VK → Prop} {a : Str} {p1 p2 p3 : Pos} (hn : X.N.length = n) (tk : Takes X W)
    (act : ∀ (W : WX) (E : XK), Takes X W → (∀ cls d σ' H', E cls d H' → W cls d σ' H') → PE X (.Call (.Name a p1) [] [] p2) (fun σZ HZ Q => σZ[0]? = some (some (.ref f)) ∧ HZ c' = some (CodeO c' q) ∧ tl E HZ Q)) :
    PS X (.Expr (.Call (.Name a p1) [] [] p2) p3) (tLc n f c' q tl W) := by
  refine ⟨fun pins s σ H D I h => ?_⟩
  obtain ⟨E, hW, h1, h2, h3⟩ := h
  exact (ps_expr (act _ E (takes_len tk) fun cls d σ' H' he hl => hW cls d σ' H' (hl.trans hn) he)).run pins s σ H D I ⟨h1, h2, h3⟩
end
section
variable {X : Cx}
/-- x(lambda: body), x a def of the module -/
theorem pe_lamF {T : List (Addr × Str)} {TT : (XK → Hp → VK → Prop) → Hp → VK → Prop} {x a : Str} {g c P : Addr} {k : Nat} {pg : Arguments} {bg : List Stmt} {sg : Scope} {fd : FuncData} {Ng : List Str}
    {params : Arguments} {body : Expr} {scope : Scope} {t : XK → TE} {p lpos pos : Pos} (F : FunD X.K x x pg bg sg [] [] g fd) (hg : Gl X x) (hm : X.mg x = some (.ref g)) (hb : Binds X.K fd [a] []) (Sg : FnScope Ng [a] sg) (hNg : Ng[0]? = some a) (hva : Vis sg a)
    (hG : ∀ cdg : Value, GivesTo X Ng x sg g cdg bg a (X.env.qual ++ "<lambda>") TT)
    (TB : TabB X.base X.mg c P) (hcode : X.env.code = .ref c) (hmT : (P, X.env.qual ++ "<lambda>") ∈ T) (hu : ∀ p ∈ T, p.1 = P → p.2 = X.env.qual ++ "<lambda>") (hr : Room (k + 2) X.A) (L : LamS X.env.scope scope) (hdef : defaultsOf params X.env = ([], []))
    (hbind : ∀ (q : Str) (cl : List (Str × Addr)) (pm cv ctv : Value), bindArgs (PySem.W.kla_fn "<lambda>" q params body scope cl pm cv ctv) ⟨[], []⟩ = pure [])
    (hbody : ∀ (A : Around) (outer : List Env) (s : Shared) (H : Hp) (E : XK) (f c' : Addr), Room k (A.deeper (lamEnv X scope s.heap.objs.size f c')) → PE (lamCx X A outer s H E scope f c') body (t E))
    (hdb : (x == ("__debug__" : Str)) = false := by decide) (hd : (a == ("__debug__" : Str)) = false := by decide) (hcd : (a == ("__classdict__" : Str)) = false := by decide) :
    PE X (.Call (.Name x p) [.Lambda params body scope lpos] [] pos) (tLam T TT t) := by
  obtain ⟨oc, od, dV, kV, doc, pm, an, cdv, ct, osl, rfl, lk, hcd2, _, _⟩ := F.ex
  exact LamX.pe_lamcall hg hm F.kp lk hcd2 hb Sg hNg hva (hG cdv) TB hcode hmT hu hr L hdef hbind hbody hdb hd hcd
end
section
variable {P : Program} {w : World} {K : PySem.W.Frag} {mg mb : Str → Option Value} {base : Heap} {x qual : Str} {params : Arguments} {body : List Stmt} {scope : Scope} {dvs : List V} {kws : List (Str × V)} {f : Addr} {fd : FuncData}
/-- a def whose code object is known -/
theorem okC {N ps : List Str} {k : Nat} {sp : Sp} {c : Addr} (F : FunD K x qual params body scope dvs kws f fd) (hc : fd.code = .ref c) (S : FnScope N ps scope) (len : ∀ vs H Q E, sp vs H Q E → vs.length = ps.length)
    (hbody : ∀ (A : Around) (outer : List Env) (s : Shared) (H : Hp) (vs : List V) (Q : VK) (E : XK), A.guards = some [] → Room k (A.deeper (envOfC qual scope s.heap.objs.size f (.ref c))) → sp vs H Q E →
      ∃ t, PSs (cxOf CX0 P w K mg base N qual scope f (.ref c) A outer s H E).nox body t ∧ t { nx := fun _ H' => Q .non H', rt := Q } (start N vs) H) : FnG P w K mg base (k + 1) f fd ps sp := by
  obtain ⟨oc, od, dV, kV, doc, pm, an, cdv, ct, osl, rfl, lk, hcd, _, _⟩ := F.ex
  obtain rfl : cdv = .ref c := hc
  refine ⟨len, fun A outer s H args us vs Q E hr hgd e0 hb r hsp => ?_⟩
  have KX : K.In s.heap := e0.mod.kin.keeps fun b o e => (e0.bs b o e).1
  have kd : ∀ y ∈ ps.zip us, scope.names.lookup y.1 = some .local ∨ (scope.names.lookup y.1 = some .cell ∧ ((cellsFrom (s.heap.objs.size + 1) scope.names []).lookup y.1).isSome = true) := fun y hy =>
    (S.par y.1 (List.of_mem_zip (a := y.1) (b := y.2) hy).1).imp (fun q => q) fun q => ⟨q, PySem.W.cellsFrom_some _ _ _ (.inl q)⟩
  refine codeAny_call_function hr.depth (KX _ _ lk) rfl S.co S.gen rfl (PySem.W.codeRec_of KX hcd) (hb _ _ _ _ (wpAny_newFunctionEnv_cells S.kind kd fun env he s1 y => ?_))
  cases he
  obtain ⟨t, ht, hq⟩ := hbody A outer s H vs Q E hgd (hr.deeper _) hsp
  refine And.intro ((e0.mod.nolimit.keeps fun b o e => (e0.bs b o e).1).keeps y.toInCall.keep) (codeAny_func (wpAny_mono (ht.nox.run [] s1 (start N vs) H _ (inv_start S hr.hd e0 (len _ _ _ _ hsp) r y) hq) (fun fl s' hs => ?_) fun e s' hs => hs))
  cases fl with
  | ret u =>
    obtain ⟨v, _, H', J, rv, q⟩ := hs
    exact ⟨v, H', J.os, J.bare, J.base, J.hok, rv, q⟩
  | next =>
    obtain ⟨_, H', J, q⟩ := hs
    exact ⟨.non, H', J.os, J.bare, J.base, J.hok, rfl, q⟩
  | brk => exact hs.elim fun _ hs => hs.elim fun _ hs => hs.2.elim
  | cont => exact hs.elim fun _ hs => hs.elim fun _ hs => hs.2.elim
end
/-! ### the law itself, with tables -/
section
variable {P : Program} {w : World} {K : PySem.W.Frag} {mg mb : Str → Option Value} {k : Nat} {fa a : Addr} {fd : FuncData} {x : Str} {sp : Sp} {s₁ : Shared} {vs : List Value} {ns : List Int} {cs : List (Addr × Addr)} {H : Hp}
/-- what H tells of is the script or a table -/
def TwoK (h : Heap) (H : Hp) (va : Array Value) : Prop := ∀ b, H b ≠ none → ∀ o, h.get? b = some o → o.data = .seq va ∨ o.data = .fields #[]
theorem hid_of {h : Heap} {va : Array Value} {b : Addr} {o : Obj} (hA : TwoK h H va) (e : h.get? b = some o) (n1 : o.data ≠ .seq va) (n2 : o.data ≠ .fields #[]) : (hidT h H).get? b = some o :=
  hidT_get e (by
    cases q : H b with
    | none => rfl
    | some u => exact ((hA b (by rw [q]; exact fun z => nomatch z) o e).elim n1 n2).elim)
theorem hid_ns2 {h : Heap} {va : Array Value} {b : Addr} {m : Str → Option Value} (hA : TwoK h H va) (n : h.Ns b m) : (hidT h H).Ns b m := by
  obtain ⟨o, es, ep, e, d, r⟩ := n
  exact ⟨o, es, ep, hid_of hA e (by rw [d]; exact fun z => nomatch z) (by rw [d]; exact fun z => nomatch z), d, r⟩
theorem law_tabs (KX : K.In s₁.heap) (hns : s₁.heap.Ns mainGlobals mg) (hb : s₁.heap.Ns builtinsNs mb) (hbb : ∀ x : Str, x ≠ "__name__" → mb x = bootBuiltins x) (hlim : s₁.heap.NoLimit) (hg : s₁.gens = #[])
    (hT : ∀ p ∈ cs, s₁.heap.get? p.2 = some { cls := .none, data := .fields #[] }) (C : ∀ p ∈ cs, PySem.W.CodeHd s₁.heap p.1 p.2)
    (hbm : ∃ (bm : Addr) (ob : Obj), mg "__builtins__" = some (.ref bm) ∧ bm ≠ builtinsNs ∧ s₁.heap.get? bm = some ob ∧ ob.cls = .type "module" ∧ ob.dict = some builtinsNs ∧ ob.data = .plain)
    (hr : Room k callerA) (F : ∀ base : Heap, K.In base → base.Ns mainGlobals mg → (∀ p ∈ cs, TabB base mg p.1 p.2) → FnG P w K mg base k fa fd [x] sp) (hbind : ∀ (s : Shared) (u : Value), BindsTo s fd ⟨[u], []⟩ [(x, u)])
    (hH : ∀ p ∈ cs, H p.2 = some (.tbl #[])) (hO : ∀ b, H b = none ∨ b ∈ cs.map (·.2) ∨ ∃ o xs, H b = some (.frz o (.lst xs))) (hsp : sp [.ref a] H (fun v _ => v = .bl true) fun _ _ _ => False) (hok : HOk P w H s₁.heap)
    (hA : TwoK s₁.heap H vs.toArray) (hK : ∀ b, H b ≠ none → K.lookup b = none) :
    codeAny (model P w) callerA (.call (.ref fa) ⟨[.ref a], []⟩) (fun r s' => r = .ok (.ret (.bool true)) ∧ OldK s₁.heap s'.heap ∧ s'.os = s₁.os ∧ AllBare s'.gens) s₁ := by
  have hKb : K.In (hidT s₁.heap H) := fun b o e => hidT_get (KX b o e) (by
    cases q : H b with
    | none => rfl
    | some u =>
      rw [hK b (by rw [q]; exact fun z => nomatch z)] at e
      exact nomatch e)
  have M : Mod K mg (hidT s₁.heap H) := ⟨hKb, hid_ns2 hA hns, ⟨mb, hid_ns2 hA hb, hbb⟩, let ⟨mc, h1, h2⟩ := hlim; ⟨mc, hid_ns2 hA h1, h2⟩⟩
  have TB : ∀ p ∈ cs, TabB (hidT s₁.heap H) mg p.1 p.2 := fun p hp => by
    have hTp := hT p hp
    refine ⟨?_, ?_, fun z => ?_⟩
    · obtain ⟨o, us, file, tf, flags, tg, inF, text, tt, e1, r1, r2, r3, rest⟩ := C p hp
      refine ⟨o, us, file, tf, flags, tg, inF, text, tt, hid_of hA e1 (by rw [r2]; exact fun z => nomatch z) (fun z => ?_), r1, r2, r3, rest⟩
      rw [r2] at z
      injection z with z
      rw [z] at r3
      exact nomatch r3
    · obtain ⟨bm, ob, b1, b2, b3, b4, b5, b6⟩ := hbm
      refine ⟨bm, ob, b1, b2, fun q => ?_, fun q => ?_, hid_of hA b3 (by rw [b6]; exact fun z => nomatch z) (by rw [b6]; exact fun z => nomatch z), b4, b5, b6⟩
      · obtain ⟨o, es, ep, e, hd, _⟩ := hns
        rw [q, e] at b3
        cases b3
        rw [hd] at b6
        exact nomatch b6
      · rw [q, hTp] at b3
        cases b3
        exact nomatch b6
    · obtain ⟨o, es, ep, e, hd, _⟩ := hns
      rw [z, hTp] at e
      cases e
      exact nomatch hd
  have e0 : Env0 P w K mg (hidT s₁.heap H) callerA [] s₁ H := ⟨rfl, M, fun b o e => of_hidT e, Nat.le_of_eq (hidT_size _ _), trivial, fun b z => (List.not_mem_nil z).elim, hok, .of_eq hg⟩
  refine codeAny_mono ((F _ hKb (hid_ns2 hA hns) TB).run callerA [] s₁ H ⟨[.ref a], []⟩ [.ref a] [.ref a] _ _ hr rfl e0 (hbind s₁ (.ref a)) (.cons rfl .nil) hsp) fun r s' h => ?_
  cases r with
  | error e => exact False.elim h
  | ok fl => cases fl with
    | ret u =>
      obtain ⟨v, H', os, bare, un, hok', r', q⟩ := h
      cases (show v = .bl true from q)
      cases (show u = Value.bool true from r')
      have other : ∀ b o, b ∉ cs.map (·.2) → s₁.heap.get? b = some o → s'.heap.get? b = some o := fun b o nb e => by
        rcases hO b with y | y | ⟨ob, xs, y⟩
        · exact un.keep b o e y (List.not_mem_nil) (List.not_mem_nil)
        · exact absurd y nb
        · have e1 := (hok b _ y).1
          rw [e] at e1
          cases e1
          exact (hok' b _ (un.frzs b _ _ y)).1
      have table : ∀ b o, b ∈ cs.map (·.2) → s₁.heap.get? b = some o → ∃ p more, p ∈ cs ∧ b = p.2 ∧ o = ({ cls := .none, data := .fields #[] } : Obj) ∧ s'.heap.get? b = some { cls := .none, data := .fields more } := fun b o hb e => by
        obtain ⟨p, hp, rfl⟩ := List.mem_map.mp hb
        obtain ⟨more, z⟩ := un.tbls p.2 #[] (hH p hp)
        have hTp := hT p hp
        rw [e] at hTp
        cases hTp
        exact ⟨p, _, hp, rfl, rfl, hok' p.2 _ z⟩
      refine ⟨rfl, ⟨fun b o e => ?_, fun b o e => ?_⟩, os, bare⟩
      · by_cases hb : b ∈ cs.map (·.2)
        · obtain ⟨p, more, hp, rfl, rfl, hm⟩ := table b o hb e
          exact .inr (.inl ⟨((C p hp).tab (hT p hp)).isCodeTable, rfl, #[], more, rfl, by rw [Array.empty_append]; exact hm⟩)
        · exact .inl (other b o hb e)
      · by_cases hb : b ∈ cs.map (·.2)
        · obtain ⟨p, more, hp, rfl, rfl, hm⟩ := table b o hb e
          exact ⟨_, hm⟩
        · exact ⟨o, other b o hb e⟩
    | _ => exact False.elim h
end
section
variable {P : Program} {w : World} {K : PySem.W.Frag} {mg mb : Str → Option Value} {k : Nat} {fa a : Addr} {fd : FuncData} {x : Str} {sp : Sp} {s₁ : Shared} {vs : List Value} {ns : List Int} {cs : List (Addr × Addr)}
theorem law_callL (KX : K.In s₁.heap) (hns : s₁.heap.Ns mainGlobals mg) (hb : s₁.heap.Ns builtinsNs mb) (hbb : ∀ x : Str, x ≠ "__name__" → mb x = bootBuiltins x) (hlim : s₁.heap.NoLimit) (hg : s₁.gens = #[])
    (hT : ∀ p ∈ cs, s₁.heap.get? p.2 = some { cls := .none, data := .fields #[] }) (nT : ∀ p ∈ cs, K.lookup p.2 = none) (C : ∀ p ∈ cs, PySem.W.CodeHd s₁.heap p.1 p.2)
    (hbm : ∃ (bm : Addr) (ob : Obj), mg "__builtins__" = some (.ref bm) ∧ bm ≠ builtinsNs ∧ s₁.heap.get? bm = some ob ∧ ob.cls = .type "module" ∧ ob.dict = some builtinsNs ∧ ob.data = .plain)
    (ha : s₁.heap.get? a = some { cls := .type "list", data := .seq vs.toArray }) (hi : IntsAre vs ns) (hl : ns.length ≤ sizeLine) (hr : Room k callerA)
    (F : ∀ base : Heap, K.In base → base.Ns mainGlobals mg → (∀ p ∈ cs, TabB base mg p.1 p.2) → FnG P w K mg base k fa fd [x] sp) (hbind : ∀ (s : Shared) (u : Value), BindsTo s fd ⟨[u], []⟩ [(x, u)])
    (hsp : ∀ H : Hp, (∀ p ∈ cs, H p.2 = some (.tbl #[])) → SqL K H a (ns.map V.int) → sp [.ref a] H (fun v _ => v = .bl true) fun _ _ _ => False) :
    codeAny (model P w) callerA (.call (.ref fa) ⟨[.ref a], []⟩) (fun r s' => r = .ok (.ret (.bool true)) ∧ OldK s₁.heap s'.heap ∧ s'.os = s₁.os ∧ AllBare s'.gens) s₁ := by
  have rv := vals_ints hi
  have isT : ∀ b : Addr, b ∈ cs.map (·.2) → s₁.heap.get? b = some { cls := .none, data := .fields #[] } ∧ K.lookup b = none := fun b hb => by
    obtain ⟨p, hp, rfl⟩ := List.mem_map.mp hb
    exact ⟨hT p hp, nT p hp⟩
  have inT : ∀ p ∈ cs, p.2 ∈ cs.map (·.2) := fun p hp => List.mem_map.mpr ⟨p, hp, rfl⟩
  have aT : a ∉ cs.map (·.2) := fun z => by
    have q := (isT a z).1
    rw [ha] at q
    cases q
  cases hk : K.lookup a with
  | some o =>
    have e := KX a o hk
    rw [ha] at e
    cases e
    have Hc : ∀ {b : Addr} {u : HO}, (fun b => if b ∈ cs.map (·.2) then some (HO.tbl #[]) else none : Hp) b = some u → b ∈ cs.map (·.2) ∧ u = .tbl #[] := fun {b u} z => by
      by_cases y : b ∈ cs.map (·.2)
      · exact ⟨y, (Option.some.inj ((if_pos y).symm.trans z)).symm⟩
      · exact nomatch (if_neg y).symm.trans z
    refine law_tabs (H := fun b => if b ∈ cs.map (·.2) then some (.tbl #[]) else none) (vs := vs) KX hns hb hbb hlim hg hT C hbm hr F hbind (fun p hp => if_pos (inT p hp)) (fun b => ?_) (hsp _ (fun p hp => if_pos (inT p hp)) (.inr ⟨_, vs.toArray, _, hk, rfl, rfl, rfl, by rw [List.size_toArray, hi.length]; exact hl, by simpa using rv⟩)) (fun b u z => ?_) (fun b z o e => ?_) (fun b z => ?_)
    · by_cases y : b ∈ cs.map (·.2)
      · exact .inr (.inl y)
      · exact .inl (if_neg y)
    · obtain ⟨y, rfl⟩ := Hc z
      exact (isT b y).1
    · cases q : (fun b => if b ∈ cs.map (·.2) then some (HO.tbl #[]) else none : Hp) b with
      | none => exact absurd q z
      | some u =>
        rw [(isT b (Hc q).1).1] at e
        cases e
        exact .inr rfl
    · cases q : (fun b => if b ∈ cs.map (·.2) then some (HO.tbl #[]) else none : Hp) b with
      | none => exact absurd q z
      | some u => exact (isT b (Hc q).1).2
  | none =>
    have Hc : ∀ {b : Addr} {u : HO}, (fun b => if b = a then some (HO.frz { cls := .type "list", data := .seq vs.toArray } (.lst (ns.map V.int))) else if b ∈ cs.map (·.2) then some (.tbl #[]) else none : Hp) b = some u →
        (b = a ∧ u = .frz { cls := .type "list", data := .seq vs.toArray } (.lst (ns.map V.int))) ∨ (b ∈ cs.map (·.2) ∧ u = .tbl #[]) := fun {b u} z => by
      by_cases y : b = a
      · exact .inl ⟨y, (Option.some.inj ((if_pos y).symm.trans z)).symm⟩
      · by_cases y2 : b ∈ cs.map (·.2)
        · exact .inr ⟨y2, (Option.some.inj (((if_neg y).trans (if_pos y2)).symm.trans z)).symm⟩
        · exact nomatch ((if_neg y).trans (if_neg y2)).symm.trans z
    have pT : ∀ p ∈ cs, (fun b => if b = a then some (HO.frz { cls := .type "list", data := .seq vs.toArray } (.lst (ns.map V.int))) else if b ∈ cs.map (·.2) then some (.tbl #[]) else none : Hp) p.2 = some (.tbl #[]) := fun p hp =>
      (if_neg (show ¬ p.2 = a from fun z => aT (by rw [← z]; exact inT p hp))).trans (if_pos (inT p hp))
    refine law_tabs (H := fun b => if b = a then some (HO.frz { cls := .type "list", data := .seq vs.toArray } (.lst (ns.map V.int))) else if b ∈ cs.map (·.2) then some (.tbl #[]) else none) (vs := vs) KX hns hb hbb hlim hg hT C hbm hr F hbind pT (fun b => ?_) (hsp _ pT (.inl (.inr ⟨_, if_pos rfl⟩))) (fun b u z => ?_) (fun b z o e => ?_) (fun b z => ?_)
    · by_cases y : b = a
      · exact .inr (.inr ⟨_, _, if_pos y⟩)
      · by_cases y2 : b ∈ cs.map (·.2)
        · exact .inr (.inl y2)
        · exact .inl ((if_neg y).trans (if_neg y2))
    · rcases Hc z with ⟨rfl, rfl⟩ | ⟨y, rfl⟩
      · exact ⟨ha, by rw [List.length_map]; exact hl, vs, _, rv, ha⟩
      · exact (isT b y).1
    · cases q : (fun b => if b = a then some (HO.frz { cls := .type "list", data := .seq vs.toArray } (.lst (ns.map V.int))) else if b ∈ cs.map (·.2) then some (.tbl #[]) else none : Hp) b with
      | none => exact absurd q z
      | some u =>
        rcases Hc q with ⟨y, _⟩ | ⟨y, _⟩
        · rw [y, ha] at e
          cases e
          exact .inl rfl
        · rw [(isT b y).1] at e
          cases e
          exact .inr rfl
    · cases q : (fun b => if b = a then some (HO.frz { cls := .type "list", data := .seq vs.toArray } (.lst (ns.map V.int))) else if b ∈ cs.map (·.2) then some (.tbl #[]) else none : Hp) b with
      | none => exact absurd q z
      | some u =>
        rcases Hc q with ⟨y, _⟩ | ⟨y, _⟩
        · rw [y]
          exact hk
        · exact (isT b y).2
end
theorem tabIn_of {K : PySem.W.Frag} {nm : Str} {f c P : Addr} {oc lo : Value} {od ld : Option Addr} {fd : FuncData} {sl ls : Array (Option Value)} {lv : Array Value} (a : PySem.W.nsIn K mainGlobals nm = some (some (.ref f))) (l : K.lookup f = some ⟨oc, od, .func fd, sl⟩)
    (tc : K.lookup c = some ⟨lo, ld, .fields lv, ls⟩) (tp : lv[11]? = some (.ref P)) (hc : fd.code = .ref c := by rfl) : PySem.W.tabIn K nm = some (c, P) := by
  unfold PySem.W.tabIn
  rw [a]
  show (match K.lookup f with | some ⟨_, _, .func fd, _⟩ => _ | _ => _) = _
  rw [l]
  show (match fd.code with | .ref c => _ | _ => _) = _
  rw [hc]
  show (match K.lookup c with | some ⟨_, _, .fields vs, _⟩ => _ | _ => _) = _
  rw [tc]
  show (match (lv[11]? : Option Value) with | some (.ref P) => _ | _ => _) = _
  rw [tp]
/-- the start of a law with tables -/
def spLawL (K : PySem.W.Frag) (T : List (Addr × Str)) : Sp := fun vs H Q _ => ∃ (a : Addr) (ns : List Int), vs = [.ref a] ∧ SqL K H a (ns.map V.int) ∧ ns.length ≤ 63 ∧ (∀ p ∈ T, H p.1 = some (.tbl #[])) ∧ ∀ H', Q (.bl true) H'
theorem law_start {H : Hp} {T : List (Addr × Str)} (h : ∀ p ∈ T, H p.1 = some (.tbl #[])) (nd : (T.map (·.1)).Nodup) : NoTbl (strip H) ∧ Wd (strip H) (TabW T (strip H)) H := by
  refine ⟨strip_nt H, fun b o h => of_strip h, fun p hp => ?_, ?_⟩
  · obtain ⟨t, ht, rfl⟩ := tabW_mem hp
    have := h t ht
    refine ⟨?_, _, this, #[], rfl, ?_, fun pos cv hc => nomatch hc⟩
    · show strip H t.1 = none
      unfold strip
      rw [this]
    · exact trivial
  · rw [tabW_map]
    exact nd
theorem st_lam2 {G0 G H : Hp} {T : List (Addr × Str)} {Wr : Wl} {TT : (XK → Hp → VK → Prop) → Hp → VK → Prop} {t : XK → TE} {σ : L2.St} {Q : VK} (w : Wd G (TabW T G0 ++ Wr) H) (e : Same G0 G) (nt : NoTbl G0) (nx : NoX Wr)
    (k : ∀ G1 H1, Same G0 G1 → Same (strip G) G1 → NoTbl G1 → Wd G1 (TabW T G1 ++ Wr) H1 → TT (fun E H' Q' => t E σ H' Q') H1 Q) : tLam T TT t σ H Q :=
  st_lam (w.strip.tabUp (same_strip nt e)) nx (strip_nt G) fun G1 H1 e1 n1 w1 => k G1 H1 ((same_strip nt e).trans e1) e1 n1 w1
theorem walk_L {l : PySem.W.OpenLaw} {n k : Nat} {q : Program} {loose : List Str} {XP : (Str → Option Value) → Heap → Prop} {YP : World → Heap → Prop} {d : DefRec} {K : Params → PySem.W.Frag} {x : Str} {names : List Str} (hn : l.most = some n) (hn2 : n ≤ sizeLine) (hdf : d.params.defaults = [])
    (hr : Room k callerA) (hrec : ∀ nm ∈ names, ((recsOf q).any fun e => e.name == nm) = true) (hY : ∀ (w : World) (h : Heap), YP w h → (K w.params).In h)
    (F : ∀ (w : World) (mg : Str → Option Value) (fa : Addr) (h : Heap), (K w.params).In h → h.Ns mainGlobals mg → mg d.name = some (.ref fa) →
      ∃ (fd : FuncData) (cs : List (Addr × Addr)) (sp : Sp), (∀ (s : Shared) (u : Value), BindsTo s fd ⟨[u], []⟩ [(x, u)]) ∧ (∀ p ∈ cs, (∃ nm ∈ names, PySem.W.tabIn (K w.params) nm = some p) ∧ (K w.params).lookup p.2 = none) ∧
        (∀ (H : Hp) (a : Addr) (ns : List Int), ns.length ≤ n → (∀ p ∈ cs, H p.2 = some (.tbl #[])) → SqL (K w.params) H a (ns.map V.int) → sp [.ref a] H (fun v _ => v = .bl true) fun _ _ _ => False) ∧
        ∀ base : Heap, (K w.params).In base → base.Ns mainGlobals mg → (∀ p ∈ cs, TabB base mg p.1 p.2) → FnG l.prog w (K w.params) mg base k fa fd [x] sp) :
    PySem.W.WalkO q loose XP YP l.row.toRowW d [] (fun f vs => PySem.call f vs) := by
  refine Att.attach_call hn hdf fun w s₀ s₁ mg mb fa o pm cd doc a vs ns G Y ho hd hcd hmg hobj hints hlen hg => ?_
  have KX := hY w _ Y
  obtain ⟨fd, cs, sp, hb, hc, hsp, hF⟩ := F w mg fa _ KX G.T.g hmg
  have hc2 : ∀ p ∈ cs, PySem.W.CodeHd s₁.heap p.1 p.2 ∧ s₁.heap.get? p.2 = some { cls := .none, data := .fields #[] } := fun p hp => by
    obtain ⟨⟨nm, hnm, ht⟩, _⟩ := hc p hp
    obtain ⟨d', hd'⟩ : ∃ d', (recsOf q).find? (fun e => e.name == nm) = some d' := by
      exact Option.isSome_iff_exists.mp (List.find?_isSome.mpr (List.any_eq_true.mp (hrec nm hnm)))
    exact PySem.W.tab_of G.T KX hd' ht
  exact law_callL KX G.T.g G.T.b G.T.builtins G.T.nolimit hg (fun p hp => (hc2 p hp).2) (fun p hp => (hc p hp).2) (fun p hp => (hc2 p hp).1) G.T.bmain hobj hints (Nat.le_trans hlen hn2) hr hF hb (fun H hH hS => hsp H a ns hlen hH hS)
end Z

/-! own classes: truth by __len__, == with anything, != of other signs -/
namespace PySem
theorem zBoolNew {prog : Program} {w : World} (x : Value) : MeetsIn prog w (Builtin.«bool.__new__» ⟨[.type "bool", x], []⟩)
    (fun A R s => wpAny (model prog w) A.in1 (truthy x) (fun b s' => R (.ok (.ret (.bool b))) s') (fun e s' => R (.error e) s') s) :=
  .of_wp fun A R s h => by
    obtain ⟨hp, g, d, tk, os⟩ := s
    have f1 := F.conv_sub_bool
    repeat (any_goals (first | assumption | (with_reducible refine wpAny_bind (wpAny_mono h (fun b s' hb => ?_) fun _ _ e => e)) | wp_step))
    all_goals exact ⟨_, rfl, hb⟩
namespace W
open PySem.Calls PyProof.Rows Builtin
section
variable {prog : Program} {w : World} {A : Around} {E : Value → Shared → Prop} {s : Shared} {K : Frag} {x C L f : Addr} {h0 : Heap} {m : Str → Option Value} {ox : Obj} {od : Option Obj}
theorem zTruthLen {Q : Bool → Shared → Prop} (X : K.In s.heap) (I : InstAt s.heap x ox C od) (hs : findIn K (.ref C) "__bool__" = some none) (hl : findIn K (.ref C) "__len__" = some (some (.ref f))) (hf : isFn K (.ref f) = true)
    (h : wpAny (model prog w) A.in1 (call (.ref f) [.ref x]) (LenBack fun v s' => ∃ n t, v = .int n t ∧ Q (n != 0) s') E s) : wpAny (model prog w) A (truthy (.ref x)) Q E s := by
  unfold truthy
  refine wpAny_bind (m := callSpecial? (.ref x) (Str.ofString "__bool__")) (wpAny_bind (wpAny_bind (I.type.here ((looks_findIn X hs).here (wpAny_pure ?_)))))
  refine wpAny_bind (wpAny_bind (I.type.here ((looks_findIn X hl).here ?_)))
  show wpAny _ _ (if (some (Value.ref f)).isNone = true then _ else _) _ _ _
  rw [if_neg (by simp)]
  refine wpAny_bind (runValue_entry entry_len ?_)
  rw [show A.under (.builtin "len" ⟨[.ref x], []⟩) = A.in1 from Around.under_plainId plain_len _]
  unfold Builtin.«len»
  refine wpAny_bind (m := oneArg "len" _) (wpAny_pure ?_)
  refine wpAny_bind (m := callSpecial? (.ref x) (Str.ofString "__len__")) (special_fn X I hl (beq_iff_eq.mp hf) (wpAny_mono h (fun r s' hr => ?_) fun _ _ y => y))
  cases r <;> first | exact hr.elim | skip
  rename_i n u
  obtain ⟨⟨h1, h2⟩, n', t', e, hq⟩ := hr
  cases e
  refine wpAny_bind (wpAny_holding (wpAny_pure ?_))
  refine wpAny_bind (wpAny_letGo ?_)
  show wpAny _ _ (if n < 0 then _ else _) _ _ _
  rw [if_neg (by omega)]
  show wpAny _ _ (if n ≥ 2 ^ 63 then _ else _) _ _ _
  rw [if_neg (by omega)]
  refine wpAny_bind (wpAny_mkInt (wpAny_pure ⟨_, rfl, ?_⟩))
  exact wpAny_pure hq
end
end W
end PySem

namespace Z
open PySem PySem.Spec PyProof.Rows L2
section
variable {X : Cx} {k : Nat} {f C : Addr} {fd : FuncData} {ps : List Str} {sp : Sp}
/-- the truth of an instance, by its __len__ -/
def rTruO (C : Addr) (sp : Sp) : V → Hp → (Bool → Hp → Prop) → Prop := fun x H Q => ∃ a dx fs, x = .ref a ∧ H a = some (.ins C dx fs) ∧ sp [.ref a] H (fun v H2 => ∃ n : Int, v = .int n ∧ (0 ≤ n ∧ n < 2 ^ 63) ∧ Q (n != 0) H2) E0
theorem run_len {A1 : Around} {E1 : Value → Shared → Prop} {pins : List (Addr × Obj)} {σ : L2.St} {H : Hp} {s : Shared} {a : Addr} {R : Bool → Hp → Prop} {R' : Bool → Shared → Prop} (F : FnOk X.prog X.w X.K X.mg X.base CX0 k f fd ps sp) (hr : Room k A1) (e0 : Env0 X.prog X.w X.K X.mg X.base A1 X.stack s H)
    (hb : Binds X.K fd ps []) (I : Inv X pins σ H s) (q : sp [.ref a] H (fun v H2 => ∃ n : Int, v = .int n ∧ (0 ≤ n ∧ n < 2 ^ 63) ∧ R (n != 0) H2) E0) (hR : ∀ b H2 s2, Inv X pins σ H2 s2 → R b H2 → R' b s2) :
    wpAny (model X.prog X.w) A1 (call (.ref f) [.ref a]) (PySem.W.LenBack fun v s' => ∃ n t, v = .int n t ∧ R' (n != 0) s') E1 s :=
  wpAny_mono (run_own F hr e0 hb I (vals_a a) q) (fun v s' hv => by
    obtain ⟨v', H2, I2, rv, n, rfl, hn, q2⟩ := hv
    obtain ⟨t, rfl⟩ := rv
    exact ⟨hn, n, _, rfl, hR _ _ _ (I2.tok _) q2⟩) fun _ _ y => y
theorem tru_own (hb0 : PySem.W.findIn X.K (.ref C) "__bool__" = some none) (hm : Meth X.K C "__len__" f) (F : FnOk X.prog X.w X.K X.mg X.base CX0 k f fd ps sp) (hr : Room (k + 1) X.A) (hb : Binds X.K fd ps []) : TruR X (rTruO C sp) := by
  intro pins s σ H x v Q I rx h
  obtain ⟨a, dx, fs, rfl, ha, q⟩ := h
  cases rx
  obtain ⟨ox, od, J, _⟩ := StX.insC_at (C := C) I (.inr ⟨dx, fs, ha⟩)
  exact PySem.W.zTruthLen I.kIn J hb0 hm.at_ hm.fn (run_len F hr.in1 I.env0.in1 hb I q fun b H2 s2 I2 q2 => ⟨H2, I2, q2⟩)
/-- bool of an instance -/
def rBoolO (C : Addr) (sp : Sp) : List V → Hp → VK → Prop := fun vs H Q => ∃ x, vs = [x] ∧ rTruO C sp x H fun b H2 => Q (.bl b) H2
theorem call_boolO (hb0 : PySem.W.findIn X.K (.ref C) "__bool__" = some none) (hm : Meth X.K C "__len__" f) (F : FnOk X.prog X.w X.K X.mg X.base CX0 k f fd ps sp) (hr : Room (k + 1 + 1 + 1) X.A) (hb : Binds X.K fd ps []) : CallR X (.type "bool") (rBoolO C sp) := by
  intro pins s σ H vs us Q I r h
  obtain ⟨x, rfl, a, dx, fs, rfl, ha, q⟩ := h
  rw [Vals.ref1 r]
  obtain ⟨ox, od, J, _⟩ := StX.insC_at (C := C) I (.inr ⟨dx, fs, ha⟩)
  refine callType_newIn PySem.F.called_bool PySem.F.newNe_bool (PySem.F.typeCall_bool_1 _) (PySem.F.newCall_bool_1 _) (fun obj => PySem.F.args_object_init_2 obj _) PySem.F.entry_bool_new (PySem.zBoolNew (.ref a)) ?_
  refine wpAny_mono (PySem.W.zTruthLen (Q := fun b s2 => ∃ H2, Inv X pins σ H2 s2 ∧ Q (.bl b) H2) I.kIn J hb0 hm.at_ hm.fn (run_len (a := a) (R' := fun b s2 => ∃ H2, Inv X pins σ H2 s2 ∧ Q (.bl b) H2) F hr.in1.in1.in1 I.env0.in1.in1.in1 hb I q fun b H2 s2 I2 q2 => ⟨H2, I2, q2⟩)) (fun b s2 hb => ?_) (fun e s2 he => he)
  obtain ⟨H2, I2, q2⟩ := hb
  exact ⟨PySem.typeIs_bool _ _, .bl b, H2, I2, rfl, q2⟩
theorem pe_notR {a : Expr} {ta : TE} {r : V → Hp → (Bool → Hp → Prop) → Prop} {pos : Pos} (ha : PE X a ta) (hr : TruR X r) : PE X (.UnaryOp .Not a pos) (fun σ H Q => ta σ H fun x H1 => r x H1 fun b H2 => Q (.bl (!b)) H2) := by
  refine ⟨fun pins s σ H Q I h => ?_⟩
  refine UnaryOp_ (thn (ha.run pins s σ H _ I h) fun v s1 ⟨x, H1, I1, r1, q1⟩ => ?_)
  refine not_of (wpAny_mono (hr pins s1 σ H1 x v _ I1 r1 q1) (fun b s2 hb => ?_) fun _ _ y => y)
  obtain ⟨H2, I2, q2⟩ := hb
  exact ⟨.bl (!b), H2, I2, rfl, q2⟩
/-- a == y, a an instance of C -/
inductive Oth (K : PySem.W.Frag) (H : Hp) : V → Prop
  | int (i : Int) : Oth K H (.int i)
  | bl (b : Bool) : Oth K H (.bl b)
  | non : Oth K H .non
  | str (x : Str) : Oth K H (.str x)
  | lst {a : Addr} {xs : List V} (h : SqL K H a xs) : Oth K H (.ref a)
  | tup {a : Addr} {xs : List V} (h : SqT K H a xs) : Oth K H (.ref a)
def rEqX (K : PySem.W.Frag) (C : Addr) (sp : Sp) : R2 := fun x y H Q => ∃ a dx fs, x = .ref a ∧ H a = some (.ins C dx fs) ∧ Oth K H y ∧ sp [.ref a, y] H (fun v H2 => ∃ c, v = .bl c ∧ Q (.bl c) H2) E0
theorem oth_looks {pins : List (Addr × Obj)} {σ : L2.St} {H : Hp} {s : Shared} {y : V} {u : Value} (I : Inv X pins σ H s) (ry : RelV y u) (h : Oth X.K H y) (C : Addr) : ∃ t, PySem.W.Looks (model X.prog X.w) s.heap (typeOf u) t ∧ PySem.W.notFirst X.K C t = true := by
  have nf : ∀ n : String, (n = "int" ∨ n = "bool" ∨ n = "NoneType" ∨ n = "str" ∨ n = "list" ∨ n = "tuple") → PySem.W.notFirst X.K C (.type n) = true := fun n hn => by
    have : PySem.W.subIn X.K (.type n) (.ref C) = some false := by
      rcases hn with rfl | rfl | rfl | rfl | rfl | rfl <;> rfl
    unfold PySem.W.notFirst
    rw [this]
    rfl
  have at_ : ∀ {a : Addr} {o : Obj} {n : String}, s.heap.get? a = some o → o.cls = .type n → PySem.W.Looks (model X.prog X.w) s.heap (typeOf (.ref a)) (.type n) := fun {a o n} ho hc A Q E s k q => wpAny_typeOf_ref (k _ _ ho) (by rw [hc]; exact q)
  cases h with
  | int i =>
    obtain ⟨t, rfl⟩ := ry
    exact ⟨_, PySem.W.Looks.of_pure rfl, nf "int" (by simp)⟩
  | bl b =>
    cases ry
    exact ⟨_, PySem.W.Looks.of_pure rfl, nf "bool" (by simp)⟩
  | non =>
    cases ry
    exact ⟨_, PySem.W.Looks.of_pure rfl, nf "NoneType" (by simp)⟩
  | str x =>
    obtain ⟨t, rfl⟩ := ry
    exact ⟨_, PySem.W.Looks.of_pure rfl, nf "str" (by simp)⟩
  | lst h =>
    cases ry
    obtain ⟨its, _, pl, _⟩ := I.list h
    obtain ⟨o, ho, hc, _⟩ := pl.isList
    exact ⟨_, at_ ho hc, nf "list" (by simp)⟩
  | tup h =>
    cases ry
    obtain ⟨its, _, ⟨o, ho, hc, _⟩, _⟩ := I.tuple h
    exact ⟨_, at_ ho hc, nf "tuple" (by simp)⟩
theorem op_eqX (hm : Meth X.K C "__eq__" f) (F : FnOk X.prog X.w X.K X.mg X.base CX0 k f fd ps sp) (hr : Room k X.A) (hb : Binds X.K fd ps []) : OpR X (compareOp .Eq) (rEqX X.K C sp) := by
  intro pins s σ H x y v u Q I rx ry h
  obtain ⟨a, dx, fs, rfl, ha, ho, q⟩ := h
  cases rx
  obtain ⟨m, hF⟩ := I.fr
  obtain ⟨ox, od, J, _⟩ := StX.insC_at (C := C) I (.inr ⟨dx, fs, ha⟩)
  obtain ⟨t, ht, hn⟩ := oth_looks I ry ho C
  refine show wpAny _ _ (richCompare .Eq _ _) _ _ _ from PySem.W.cmp_K (op := .Eq) (tb := t) hr.units0 hF I.ok.mod.kin J ht hn hm.at_ hm.fn (wpAny_mono (run_own F hr I.env0 hb I (show Vals [V.ref a, y] [Value.ref a, u] from .cons rfl (.cons ry .nil)) q) (fun v s' hv => ?_) fun _ _ y => y)
  obtain ⟨v', H2, I2, rv, c, rfl, q2⟩ := hv
  cases rv
  exact ⟨V.bl c, H2, I2, rfl, q2⟩
theorem kit_own {K : PySem.W.Frag} {C : Addr} : PySem.W.kitOne K (.ref C) (.ref C) = some true := by
  unfold PySem.W.kitOne
  rw [if_pos (beq_self_eq_true _)]
/-- an own class, by itself not a metaclass's -/
structure PlainC (K : PySem.W.Frag) (C : Addr) : Prop where
  cls : (PySem.W.clsIn K C).isSome = true
  typ : PySem.W.typeIn K (.ref C) = some (.type "type")
theorem PlainC.no {K : PySem.W.Frag} {C : Addr} (p : PlainC K C) {n : String} (h : PySem.W.subIn K (.type n) (.ref C) = some false) : PySem.W.kitOne K (.type n) (.ref C) = some false := by
  unfold PySem.W.kitOne
  rw [show ((Value.type n) == (Value.ref C)) = false from rfl]
  show PySem.W.kitCls K (.type n) (.ref C) = some false
  unfold PySem.W.kitCls
  show (if ((PySem.W.clsIn K C).isSome && PySem.W.typeIn K (.ref C) == some (.type "type")) = true then _ else none) = some false
  rw [if_pos (by rw [p.cls, p.typ]; rfl)]
  exact h
theorem oth_ty {K : PySem.W.Frag} {H : Hp} {y : V} (h : Oth K H y) (C : Addr) : ∃ n, TyX K H y (.type n) ∧ PySem.W.subIn K (.type n) (.ref C) = some false := by
  cases h with
  | int i => exact ⟨"int", .base (.int i), rfl⟩
  | bl b => exact ⟨"bool", .base (.bl b), rfl⟩
  | non => exact ⟨"NoneType", .base .non, rfl⟩
  | str s => exact ⟨"str", .base (.str s), rfl⟩
  | lst h => exact ⟨"list", tyL h, rfl⟩
  | tup h => exact ⟨"tuple", tyT h, rfl⟩
/-- what == != + of instances, their truth and isinstance ask of the class -/
structure EqC (K : PySem.W.Frag) (C : Addr) : Prop where
  ca : PySem.W.findIn K (.ref C) "__class__" = some (some (.builtin "object.__class__"))
  cn : PySem.W.specialIn K (.builtin "object.__class__") "__get__" = some (some (.builtin "getset_descriptor.__get__"))
  ct : PySem.W.takesIn K (.builtin "object.__class__") = some true
  mr : PySem.W.mroIn K C (.type "object") = some true
  ne : PySem.W.findIn K (.ref C) "__ne__" = some (some (.builtin "object.__ne__"))
  b0 : PySem.W.findIn K (.ref C) "__bool__" = some none
  sf : PySem.W.selfFirst K C = true
  pc : PlainC K C
theorem EqC.nec {K : PySem.W.Frag} {C : Addr} (h : EqC K C) : NeC K C := ⟨h.ne, h.mr⟩
theorem EqC.ty {K : PySem.W.Frag} {C : Addr} (h : EqC K C) (cl : Cls K C) {H : Hp} {a dx : Addr} {fs : List (Str × V)} (e : H a = some (.ins C dx fs)) : TyX K H (.ref a) (.ref C) := .base (.ins e cl h.ca h.cn h.ct h.mr)
end
end Z

/-! sorted(list of data) -/
namespace Z
open PySem PySem.Spec PyProof.Rows L2
open PySem.W (AllAlike Sortable dataLe EachIs)
section
variable {X : Cx} {k : Nat}
def zipD (xs : List V) (ds : List PyData) : List (V × PyData) := xs.zip ds
/-- sorted(xs), xs a list of data that are alike -/
def rSortD (K : PySem.W.Frag) : List V → Hp → VK → Prop := fun vs H Q => ∃ (a : Addr) (xs : List V) (ds : List PyData), vs = [.ref a] ∧ SqL K H a xs ∧ DpAll K H xs ds ∧ AllAlike ds ∧ Sortable ds ∧ (∀ d ∈ ds, d.depth ≤ 30) ∧ xs.length ≤ 1000000 ∧
  ∀ p, H p = none → Q (.ref p) (upd H p (.lst (((zipD xs ds).mergeSort (dataLe false (·.2))).map (·.1))))
theorem zipD_snd {H : Hp} {K : PySem.W.Frag} : ∀ {xs : List V} {ds : List PyData}, DpAll K H xs ds → (zipD xs ds).map (·.2) = ds
  | _, _, .nil => rfl
  | _, _, .cons _ t => by
    show _ :: (zipD _ _).map (·.2) = _
    rw [zipD_snd t]
theorem zipD_fst {H : Hp} {K : PySem.W.Frag} : ∀ {xs : List V} {ds : List PyData}, DpAll K H xs ds → (zipD xs ds).map (·.1) = xs
  | _, _, .nil => rfl
  | _, _, .cons _ t => by
    show _ :: (zipD _ _).map (·.1) = _
    rw [zipD_fst t]
theorem each_rel {H : Hp} {K : PySem.W.Frag} : ∀ {xs : List V} {ds : List PyData} {vs : List Value}, DpAll K H xs ds → Vals xs vs → EachIs (fun v (b : V × PyData) => RelV b.1 v) vs (zipD xs ds)
  | _, _, _, .nil, .nil => .nil
  | _, _, _, .cons _ t, .cons r rs => .cons r (each_rel t rs)
theorem each_reads {pins : List (Addr × Obj)} {σ : L2.St} {H : Hp} {s : Shared} (I : Inv X pins σ H s) : ∀ {xs : List V} {ds : List PyData} {vs : List Value}, DpAll X.K H xs ds → Vals xs vs → EachIs (fun v (b : V × PyData) => ∃ as, Reads s.heap v b.2 as) vs (zipD xs ds)
  | _, _, _, .nil, .nil => .nil
  | _, _, _, .cons h t, .cons r rs => .cons (Dp.reads I _ _ _ h r) (each_reads I t rs)
theorem vals_each : ∀ {vs : List Value} {bs : List (V × PyData)}, EachIs (fun v (b : V × PyData) => RelV b.1 v) vs bs → Vals (bs.map (·.1)) vs
  | _, _, .nil => .nil
  | _, _, .cons h t => .cons h (vals_each t)
theorem cr_sortedD (hr : Room k X.A) : CallR X (.builtin "sorted") (rSortD X.K) := by
  intro pins s σ H vs us Q I r h
  obtain ⟨a, xs, ds, rfl, hs, hd, hal, hk, hdp, hz, q⟩ := h
  obtain ⟨its, rv, hl, _⟩ := I.list hs
  obtain ⟨u, rfl, ru⟩ := vals1 r
  obtain rfl : u = Value.ref a := ru
  have hu := hr.units
  have hsn := zipD_snd hd
  refine PySem.W.sorted_data (bs := zipD xs ds) (enc := (·.2)) hl.isList (each_rel hd rv) (each_reads I hd rv) (by rw [hsn]; exact hal) (by rw [hsn]; exact hk) ?_ (fun b hb => ?_) fun out hlen he => ?_
  · have : (zipD xs ds).length = xs.length := by rw [← List.length_map (f := (·.1)), zipD_fst hd]
    rw [this]
    exact small hz
  · have := hdp b.2 (by rw [← hsn]; exact List.mem_map.mpr ⟨b, hb, rfl⟩)
    omega
  · have ho : (((zipD xs ds).mergeSort (dataLe false (·.2))).map (·.1)).length ≤ sizeLine := by
      rw [List.length_map, List.length_mergeSort]
      have : (zipD xs ds).length = xs.length := by rw [← List.length_map (f := (·.1)), zipD_fst hd]
      rw [this]
      exact small hz
    obtain ⟨n, hn⟩ := PyProof.Rows.sortedAll_at s.heap its out.toArray
    exact ⟨.ref (s.heap.objs.size + 1), _, I.laid (t' := s.toks) (o := .lst _) (fun b o e => PyProof.Rows.sortedAll_old e) (Nat.le_succ _) ⟨ho, out, n, vals_each he, hn⟩, rfl, q _ (I.hok.fresh (Nat.le_succ _))⟩
end
end Z

/-! xs[::2], xs[1::2]; xs[i] op= y; comprehensions over lists, enumerate and zip with nested targets; mergeSort, one list alone -/
namespace Z
open PySem PySem.Spec PyProof.Rows L2
/-! ### every second one -/
def evO {α : Type} (o : Nat) (d : α) (xs : List α) : List α := (List.range ((xs.length + 1 - o) / 2)).map fun k => xs.getD (o + 2 * k) d
theorem evO_len {α : Type} {o : Nat} {d : α} {xs : List α} : (evO o d xs).length = (xs.length + 1 - o) / 2 := by
  unfold evO
  rw [List.length_map, List.length_range]
theorem evO_at {α : Type} {o i : Nat} {d x : α} {xs : List α} (h : xs[o + 2 * i]? = some x) : (evO o d xs)[i]? = some x := by
  have hlt := (List.getElem?_eq_some_iff.mp h).1
  unfold evO
  rw [List.getElem?_map, List.getElem?_range (by omega)]
  show some (xs.getD (o + 2 * i) d) = some x
  rw [List.getD_eq_getElem?_getD, h]
  rfl
theorem evO_of {α : Type} {o i : Nat} {d x : α} {xs : List α} (h : (evO o d xs)[i]? = some x) : o + 2 * i < xs.length ∧ xs[o + 2 * i]? = some x := by
  have hlt := (List.getElem?_eq_some_iff.mp h).1
  rw [evO_len] at hlt
  have h2 : o + 2 * i < xs.length := by omega
  refine ⟨h2, ?_⟩
  have := evO_at (d := d) (List.getElem?_eq_getElem h2)
  rw [h] at this
  rw [List.getElem?_eq_getElem h2]
  exact this.symm
theorem filterMap_getD {α : Type} {xs : List α} {d : α} : ∀ {js : List Nat}, (∀ j ∈ js, j < xs.length) → js.filterMap (xs[·]?) = js.map fun j => xs.getD j d
  | [], _ => rfl
  | j :: js, h => by
    have hj := h j List.mem_cons_self
    rw [List.filterMap_cons, List.map_cons, filterMap_getD fun j hj => h j (List.mem_cons_of_mem _ hj)]
    rw [List.getD_eq_getElem?_getD, List.getElem?_eq_getElem hj]
    rfl
theorem range2 (o n : Nat) (ho : o ≤ n) : sliceRange (o : Int) (n : Int) 2 = (List.range ((n + 1 - o) / 2)).map fun k => o + 2 * k := by
  unfold sliceRange
  by_cases h : (o : Int) < n
  · have e : ((n : Int) - o + 2 - 1) / 2 = (((n + 1 - o) / 2 : Nat) : Int) := by omega
    simp only [show (2 : Int) > 0 by decide, if_true, h, e, Int.toNat_natCast]
    apply List.map_congr_left
    intro k _
    omega
  · have e : (n + 1 - o) / 2 = 0 := by omega
    simp [h, e]
theorem pick2 (items : Array Value) (o : Nat) (lo : Option Int) (ho : o ≤ items.size) (hb : sliceBounds lo none (some 2) items.size = ((o : Int), (items.size : Int), 2)) : slicePick items lo none (some 2) = (evO o Value.none items.toList).toArray := by
  unfold slicePick
  rw [hb]
  show ((sliceRange (o : Int) (items.size : Int) 2).filterMap (items[·]?)).toArray = _
  rw [range2 _ _ ho]
  have e : (fun j : Nat => items[j]?) = (items.toList[·]?) := by
    funext j
    rw [Array.getElem?_toList]
  rw [e, filterMap_getD (d := Value.none) fun j hj => by
    obtain ⟨k, hk, rfl⟩ := List.mem_map.mp hj
    have := List.mem_range.mp hk
    rw [Array.length_toList]
    omega]
  unfold evO
  rw [List.map_map, Array.length_toList]
  rfl
theorem vals_evO {xs : List V} {us : List Value} (r : Vals xs us) (o : Nat) : Vals (evO o V.non xs) (evO o Value.none us) := by
  have hl := r.length
  unfold evO
  rw [← hl]
  have go : ∀ js : List Nat, (∀ k ∈ js, o + 2 * k < xs.length) → Vals (js.map fun k => xs.getD (o + 2 * k) V.non) (js.map fun k => us.getD (o + 2 * k) Value.none) := by
    intro js
    induction js with
    | nil => exact fun _ => .nil
    | cons k js ih =>
      intro h
      have hk := h k List.mem_cons_self
      obtain ⟨u, hu, rv⟩ := r.get (List.getElem?_eq_getElem hk)
      rw [List.map_cons, List.map_cons]
      refine .cons ?_ (ih fun k hk => h k (List.mem_cons_of_mem _ hk))
      rw [List.getD_eq_getElem?_getD, List.getElem?_eq_getElem hk, List.getD_eq_getElem?_getD, hu]
      exact rv
  exact go _ fun k hk => by
    have := List.mem_range.mp hk
    omega
section
variable {X : Cx}
def tEv (K : PySem.W.Frag) (o : Nat) (te : TE) : TE := fun σ H Q => te σ H fun x H1 => ∃ a xs, x = .ref a ∧ SqL K H1 a xs ∧ o ≤ xs.length ∧ ∀ p, H1 p = none → Q (.ref p) (upd H1 p (.lst (evO o V.non xs)))
theorem pe_ev0 {e : Expr} {te : TE} {k : Nat} {p1 p3 pos : Pos} (he : PE X e te) : PE X (.Subscript e (.Slice none none (some (.Constant (.int 2) k p1)) p3) pos) (tEv X.K 0 te) := by
  refine ⟨fun pins s σ H Q I h => ?_⟩
  refine Subscript_ (thn (he.run pins s σ H _ I h) fun v s1 ⟨x, H1, I1, r1, q1⟩ => ?_)
  obtain ⟨a, xs, ex, hx, ho, q⟩ := q1
  subst ex
  cases r1
  have hst : PO X (some (.Constant (.int 2) k p1)) (tPart (tC (.int 2))) := po_some pe_int
  refine wpAny_Slice (thn (po_none.run pins s1 σ H1 (fun o H2 => o = none ∧ H2 = H1) I1 ⟨rfl, rfl⟩) fun vl s2 ⟨l, H2, I2, pl, el, e2⟩ => ?_)
  subst el e2
  refine thn (po_none.run pins s2 σ H2 (fun o H3 => o = none ∧ H3 = H2) I2 ⟨rfl, rfl⟩) fun vu s3 ⟨u, H3, I3, pu, eu, e3⟩ => ?_
  subst eu e3
  refine thn (hst.run pins s3 σ H3 (fun o H4 => o = some 2 ∧ H4 = H3) I3 ⟨2, rfl, rfl, rfl⟩) fun vs s4 ⟨o, H4, I4, ps, eo, e4⟩ => ?_
  subst eo e4
  have I5 : Inv X pins σ H4 { s4 with heap := s4.heap.push { cls := .type "slice", data := .fields #[vl, vu, vs] } } := I4.kept (t' := s4.toks) fun b ob q => Heap.get?_push_of_some _ q
  obtain ⟨its, r, ht, hz⟩ := I5.list hx
  have hlen := r.length
  show wpAny (model X.prog X.w) X.A (subscriptTail e (.Slice none none (some (.Constant (.int 2) k p1)) p3) (.ref a) (.ref s4.heap.objs.size)) (EP X pins σ Q) X.xe { s4 with heap := s4.heap.push { cls := .type "slice", data := .fields #[vl, vu, vs] } }
  refine tail_any (ops := [.ref a, .ref s4.heap.objs.size]) ht.isList.typeIs (PySem.slot_list_getitem.lookup) ?_ (by with_unfolding_all rfl)
  refine wpAny_getItem_list_slice ht.isList (Heap.IsSliceOf.new _ vl vu vs) pl pu ps (by decide) ?_ (by rw [List.size_toArray]; omega)
  rw [pick2 _ 0 none (Nat.zero_le _) (by rfl)]
  refine ⟨.ref _, _, I5.laid (t' := s4.toks) (o := .lst (evO 0 V.non xs)) (fun b ob q => Heap.get?_push_of_some _ q) (Nat.le_refl _) ?_, rfl, q _ (I5.hok.fresh (Nat.le_refl _))⟩
  exact ⟨by rw [evO_len]; omega, _, 0, vals_evO r 0, Heap.get?_push_size _ rfl⟩
theorem pe_ev1 {e : Expr} {te : TE} {k k2 : Nat} {p1 p2 p3 pos : Pos} (he : PE X e te) : PE X (.Subscript e (.Slice (some (.Constant (.int 1) k2 p2)) none (some (.Constant (.int 2) k p1)) p3) pos) (tEv X.K 1 te) := by
  refine ⟨fun pins s σ H Q I h => ?_⟩
  refine Subscript_ (thn (he.run pins s σ H _ I h) fun v s1 ⟨x, H1, I1, r1, q1⟩ => ?_)
  obtain ⟨a, xs, ex, hx, ho, q⟩ := q1
  subst ex
  cases r1
  have hst : PO X (some (.Constant (.int 2) k p1)) (tPart (tC (.int 2))) := po_some pe_int
  have hlo : PO X (some (.Constant (.int 1) k2 p2)) (tPart (tC (.int 1))) := po_some pe_int
  refine wpAny_Slice (thn (hlo.run pins s1 σ H1 (fun o H2 => o = some 1 ∧ H2 = H1) I1 ⟨1, rfl, rfl, rfl⟩) fun vl s2 ⟨l, H2, I2, pl, el, e2⟩ => ?_)
  subst el e2
  refine thn (po_none.run pins s2 σ H2 (fun o H3 => o = none ∧ H3 = H2) I2 ⟨rfl, rfl⟩) fun vu s3 ⟨u, H3, I3, pu, eu, e3⟩ => ?_
  subst eu e3
  refine thn (hst.run pins s3 σ H3 (fun o H4 => o = some 2 ∧ H4 = H3) I3 ⟨2, rfl, rfl, rfl⟩) fun vs s4 ⟨o, H4, I4, ps, eo, e4⟩ => ?_
  subst eo e4
  have I5 : Inv X pins σ H4 { s4 with heap := s4.heap.push { cls := .type "slice", data := .fields #[vl, vu, vs] } } := I4.kept (t' := s4.toks) fun b ob q => Heap.get?_push_of_some _ q
  obtain ⟨its, r, ht, hz⟩ := I5.list hx
  have hlen := r.length
  show wpAny (model X.prog X.w) X.A (subscriptTail e (.Slice (some (.Constant (.int 1) k2 p2)) none (some (.Constant (.int 2) k p1)) p3) (.ref a) (.ref s4.heap.objs.size)) (EP X pins σ Q) X.xe { s4 with heap := s4.heap.push { cls := .type "slice", data := .fields #[vl, vu, vs] } }
  refine tail_any (ops := [.ref a, .ref s4.heap.objs.size]) ht.isList.typeIs (PySem.slot_list_getitem.lookup) ?_ (by with_unfolding_all rfl)
  refine wpAny_getItem_list_slice ht.isList (Heap.IsSliceOf.new _ vl vu vs) pl pu ps (by decide) ?_ (by rw [List.size_toArray]; omega)
  have hsz : (1 : Int) ≤ its.toArray.size := by rw [List.size_toArray]; omega
  rw [pick2 _ 1 (some 1) (by omega) (by
    unfold sliceBounds
    simp only [Option.getD_some]
    have h1 : ¬ ((1 : Int) < 0) := by decide
    simp only [h1, if_false, show (2 : Int) > 0 by decide, if_true]
    congr 1
    omega)]
  refine ⟨.ref _, _, I5.laid (t' := s4.toks) (o := .lst (evO 1 V.non xs)) (fun b ob q => Heap.get?_push_of_some _ q) (Nat.le_refl _) ?_, rfl, q _ (I5.hok.fresh (Nat.le_refl _))⟩
  exact ⟨by rw [evO_len]; omega, _, 0, vals_evO r 1, Heap.get?_push_size _ rfl⟩
/-- xs[i], by values -/
theorem pget_list : PGet X (fun x y H Q => ∃ p xs i z, x = .ref p ∧ y = .int i ∧ 0 ≤ i ∧ SqL X.K H p xs ∧ atI xs i = some z ∧ Q z H) := by
  intro pins s σ H x y v u Q I rx ry h
  obtain ⟨p, xs, i, z, rfl, rfl, h0, hq, he, q⟩ := h
  cases rx
  obtain ⟨t, rfl⟩ := ry
  obtain ⟨its, r, pl, hz⟩ := I.list hq
  obtain ⟨j, h1, h2, h3, h4, h5⟩ := atI_get he
  obtain ⟨w, ew, rw'⟩ := r.get h2
  have hl := r.length
  have hn := line63
  have fin : EP X pins σ Q w s := ⟨z, H, I, rw', q⟩
  have hj : i.toNat = j := by
    rw [seqIndex_of h0 h5] at h1
    exact Option.some.inj h1
  exact wpAny_getItem_list (x := w) pl.isList h0 (by omega) (by rw [hj]; simpa using ew) fin
theorem ip_ext : PIp X .Add rExt2 := fun pins s σ H x y v u Q I rx ry h => iop_ext pins s σ H x y v u Q I rx ry h
end
/-! ### comprehensions, any target -/
section
variable {K : PySem.W.Frag} {σ : L2.St} {H G : Hp} {W : Wl} {g : TG} {tt : TT} {te : TE} {vs : List Nat} {Q : VK} {a b : Addr} {xs ys : List V}
/-- what one turn has to do -/
def LcT (I : Nat → List V → Hp → Prop) (G : Hp) (W : Wl) (g : TG) (tt : TT) (te : TE) (vs : List Nat) (σ : L2.St) (D : Addr) (i : Nat) (x : V) (H' : Hp) : Prop :=
  g x (wipe σ vs) H' fun σ2 H2 => wipe σ2 vs = wipe σ vs ∧ tt σ2 H2 fun b H3 => if b = true then te σ2 H3 fun y H4 => ∃ acc, H4 D = some (.lst acc) ∧ acc.length < sizeLine ∧ LcB I G W D (i + 1) (upd H4 D (.lst (acc ++ [y]))) else LcB I G W D (i + 1) H3
theorem lc_lG (hx : SqL K G a xs) (I : Nat → List V → Hp → Prop) (w : Wd G W H) (h0 : I 0 [] G)
    (hs : ∀ (i : Nat) x D G' H' acc, xs[i]? = some x → Same G G' → Wd G' ((D, Is (.lst acc)) :: W) H' → I i acc G' → LcT I G W g tt te vs σ D i x H')
    (hd : ∀ D G' H' acc, Same G G' → Wd G' ((D, Is (.lst acc)) :: W) H' → I xs.length acc G' → Q (.ref D) H') : ∃ a', V.ref a = .ref a' ∧ (∃ xs, SqL K H a' xs) ∧ LcQ (Itl K a') g tt te vs σ H Q :=
  ⟨a, rfl, ⟨xs, seq_up w hx⟩, lc_go walk_list I w (fun _ _ _ e w' => seq_up w' (e.seq hx)) h0 (fun i x D G' H' H'' acc _ e w' h y => by
    obtain ⟨rfl, y⟩ := y
    exact hs i x D G' H'' acc y e w' h) hd⟩
/-- over enumerate; the pair's tuple stands for good -/
theorem lc_enumG (hx : SqL K G a xs ∨ SqT K G a xs) (I : Nat → List V → Hp → Prop) (w : Wd G W H) (h0 : I 0 [] G)
    (hs : ∀ (i : Nat) x T D G' G'' H' acc, xs[i]? = some x → Same G G' → I i acc G' → Same G' G'' → Wd G'' ((D, Is (.lst acc)) :: W) H' → G'' T = some (.tup [.int (i : Int), x]) → LcT I G W g tt te vs σ D i (.ref T) H')
    (hd : ∀ D G' H' acc, Same G G' → Wd G' ((D, Is (.lst acc)) :: W) H' → I xs.length acc G' → Q (.ref D) H') :
    ∃ a' ys, [V.ref a] = [.ref a'] ∧ ((SqL K H a' ys ∧ LcQ (Ite K a') g tt te vs σ H Q) ∨ (SqT K H a' ys ∧ LcQ (IteT K a') g tt te vs σ H Q)) := by
  have step : ∀ (i : Nat) (x : V) (D : Addr) (G' H' H'' : Hp) (acc : List V), i < xs.length → Same G G' → Wd G' ((D, Is (.lst acc)) :: W) H' → I i acc G' → YPair (fun i => some (.int (i : Nat))) (fun i => xs[i]?) i H' x H'' → LcT I G W g tt te vs σ D i x H'' := fun i x D G' H' H'' acc _ e w' h y => by
    obtain ⟨T, x1, x2, rfl, hn, rfl, e1, e2⟩ := y
    cases e1
    exact hs i x2 T D G' _ _ acc e2 e h (same_upd (w'.free hn)) (w'.new hn) upd_same
  rcases hx with hx | hx
  · exact ⟨a, xs, rfl, .inl ⟨seq_up w hx, lc_go walk_enum I w (fun _ _ _ e w' => seq_up w' (e.seq hx)) h0 step hd⟩⟩
  · exact ⟨a, xs, rfl, .inr ⟨tup_up w hx, lc_go walk_enumT I w (fun _ _ _ e w' => tup_up w' (seqT e hx)) h0 step hd⟩⟩
theorem lc_zipG (hx : SqL K G a xs) (hy : SqL K G b ys) (I : Nat → List V → Hp → Prop) (w : Wd G W H) (h0 : I 0 [] G)
    (hs : ∀ (i : Nat) x y T D G' G'' H' acc, xs[i]? = some x → ys[i]? = some y → Same G G' → I i acc G' → Same G' G'' → Wd G'' ((D, Is (.lst acc)) :: W) H' → G'' T = some (.tup [x, y]) → LcT I G W g tt te vs σ D i (.ref T) H')
    (hd : ∀ D G' H' acc, Same G G' → Wd G' ((D, Is (.lst acc)) :: W) H' → I (min xs.length ys.length) acc G' → Q (.ref D) H') :
    ∃ a' b' xs ys, [V.ref a, V.ref b] = [.ref a', .ref b'] ∧ SqL K H a' xs ∧ SqL K H b' ys ∧ LcQ (Itz K a' b') g tt te vs σ H Q :=
  ⟨a, b, xs, ys, rfl, seq_up w hx, seq_up w hy, lc_go (walk_zip (xs := xs) (ys := ys) rfl) I w (fun _ _ _ e w' => ⟨seq_up w' (e.seq hx), seq_up w' (e.seq hy)⟩) h0 (fun i x D G' H' H'' acc _ e w' h y => by
    obtain ⟨T, x1, x2, rfl, hn, rfl, e1, e2⟩ := y
    exact hs i x1 x2 T D G' _ _ acc e1 e2 e h (same_upd (w'.free hn)) (w'.new hn) upd_same) hd⟩
end
/-! ### sorted lists, one alone -/
theorem sorted_one {α : Type} {le : α → α → Prop} : ∀ {l m : List α}, l.Perm m → (∀ x ∈ l, ∀ y ∈ l, le x y → le y x → x = y) → l.Pairwise le → m.Pairwise le → l = m
  | [], m, h, _, _, _ => (List.Perm.eq_nil h.symm).symm
  | x :: l, [], h, _, _, _ => absurd h.length_eq (by simp)
  | x :: l, y :: m, h, ha, hl, hm => by
    have hx : x ∈ y :: m := h.mem_iff.mp List.mem_cons_self
    have hy : y ∈ x :: l := h.mem_iff.mpr List.mem_cons_self
    have e : x = y := by
      rcases List.mem_cons.mp hx with e | hx
      · exact e
      · rcases List.mem_cons.mp hy with e | hy
        · exact e.symm
        · exact ha x List.mem_cons_self y (List.mem_cons_of_mem _ hy) ((List.pairwise_cons.mp hl).1 y hy) ((List.pairwise_cons.mp hm).1 x hx)
    subst e
    rw [sorted_one h.cons_inv (fun a ha1 b hb1 => ha a (List.mem_cons_of_mem _ ha1) b (List.mem_cons_of_mem _ hb1)) (List.pairwise_cons.mp hl).2 (List.pairwise_cons.mp hm).2]
end Z

/-! a dict with tuple keys while a loop walks it; get with two; sorted from above -/
namespace Z
open PySem PySem.Spec PyProof.Rows L2
section
variable {K : PySem.W.Frag} {σ : L2.St} {H G : Hp} {W : Wl} {g : TG} {tb : TS} {nx : L2.St → Hp → Prop} {rt : VK} {Q : VK} {n : Nat}
/-- a loop whose walked thing may be among what changes -/
theorem loop_goI {J : It} {Gp : Hp → Prop} {Y : Nat → Hp → V → Hp → Prop} (wk : Walk J n Gp Y) (I : Nat → L2.St → Hp → Wl → Prop) (w : Wd G W H) (hG : ∀ i σ' G' W' H', Same G G' → Wd G' W' H' → I i σ' G' W' → Gp H') (h0 : I 0 σ G W)
    (hs : ∀ i x σ' G' W' H' H'', i < n → Same G G' → Wd G' W' H' → I i σ' G' W' → Y i H' x H'' → g x σ' H'' fun σ2 H2 => tb ⟨Btw I G (i + 1), rt, nx, Btw I G (i + 1)⟩ σ2 H2)
    (hd : ∀ σ' G' W' H', Same G G' → Wd G' W' H' → I n σ' G' W' → nx σ' H') : LoopQ J g tb nx rt σ H :=
  for_it (D := ⟨nx, rt, nx, nx⟩) wk (Btw I G) ⟨G, W, Same.refl _, w, h0⟩ (fun _ _ _ _ ⟨_, _, e, w', h⟩ => hG _ _ _ _ _ e w' h) (fun i x σ' H' H'' hi ⟨G', W', e, w', h⟩ y => hs i x σ' G' W' H' H'' hi e w' h y) fun σ' H' ⟨G', W', e, w', h⟩ => hd σ' G' W' H' e w' h
/-- for k in a dict with tuple keys -/
theorem for_keysT {kvs : List (List Key × V)} {d : Addr} {od : Obj} (I : Nat → L2.St → Hp → Wl → Prop) (w : Wd G W H) (hI : ∀ i σ' G' W', I i σ' G' W' → (d, Is (.frz od (.dT kvs))) ∈ W') (h0 : I 0 σ G W)
    (hs : ∀ i k v q σ' G' W' H', kvs[i]? = some (k, v) → H' q = some (.tup (k.map kV)) → Same G G' → Wd G' W' H' → I i σ' G' W' → g (.ref q) σ' H' fun σ2 H2 => tb ⟨Btw I G (i + 1), rt, nx, Btw I G (i + 1)⟩ σ2 H2)
    (hd : ∀ σ' G' W' H', Same G G' → Wd G' W' H' → I kvs.length σ' G' W' → nx σ' H') :
    ∃ d' o, V.ref d = .ref d' ∧ ((∃ kvs, H d' = some (.frz o (.dK kvs)) ∧ LoopQ (Itk d' o kvs) g tb nx rt σ H) ∨ ∃ kvs, H d' = some (.frz o (.dT kvs)) ∧ LoopQ (Itkt d' o kvs) g tb nx rt σ H) := by
  have hat : ∀ {i σ' G' W' H'}, Wd G' W' H' → I i σ' G' W' → H' d = some (.frz od (.dT kvs)) := fun {i σ' G' W' H'} w' h => by
    obtain ⟨o, ho, rfl⟩ := w'.get (hI i σ' G' W' h)
    exact ho
  refine ⟨d, od, rfl, .inr ⟨kvs, hat w h0, loop_goI walk_keysT I w (fun i σ' G' W' H' _ w' h => hat w' h) h0 (fun i x σ' G' W' H' H'' _ e w' h y => ?_) hd⟩⟩
  obtain ⟨rfl, k, v, q, h1, rfl, h3⟩ := y
  exact hs i k v q σ' G' W' H'' h1 h3 e w' h
theorem st_keys {td : TE} {R : It → Hp → Prop} (h : td σ H fun x H1 => ∃ d o, x = .ref d ∧ ((∃ kvs, H1 d = some (.frz o (.dK kvs)) ∧ R (Itk d o kvs) H1) ∨ ∃ kvs, H1 d = some (.frz o (.dT kvs)) ∧ R (Itkt d o kvs) H1)) : iKeys td σ H R := h
/-- the loop's dict is locked -/
theorem st_lockT {t : TS} {D : Ends} {d : Addr} {kvs : List (List Key × V)} (w : Wd G ((d, Is (.dT kvs)) :: W) H)
    (h : ∀ od H', Wd G ((d, Is (.frz od (.dT kvs))) :: W) H' → t ⟨fun σ' H' => H' d = some (.frz od (.dT kvs)) ∧ D.nx σ' (upd H' d (.dT kvs)), fun v H' => H' d = some (.frz od (.dT kvs)) ∧ D.rt v (upd H' d (.dT kvs)),
      fun σ' H' => H' d = some (.frz od (.dT kvs)) ∧ D.bk σ' (upd H' d (.dT kvs)), fun σ' H' => H' d = some (.frz od (.dT kvs)) ∧ D.ct σ' (upd H' d (.dT kvs))⟩ σ H') : tLock t D σ H := by
  refine ⟨d, _, Wd.is1 w, trivial, fun od => h od _ (Wd.put1 w)⟩
theorem Wd.unlock {d : Addr} {u : HO} {od : Obj} (w : Wd G ((d, Is (.frz od u)) :: W) H) : H d = some (.frz od u) ∧ Wd G ((d, Is u) :: W) (upd H d u) := ⟨Wd.is1 w, Wd.put1 w⟩
theorem st_dget2 {td ty tx : TE} (h : td σ H fun x H1 => ∃ a, x = .ref a ∧ IsD H1 a ∧ ty σ H1 fun y H2 => tx σ H2 fun z H3 => ∃ o, DGet H3 a y o ∧ Q (o.getD z) H3) : tDGet2 td ty tx σ H Q := h
theorem st_cKw {r : List V → List V → Hp → VK → Prop} {t tk : TA} (h : t σ H fun vs H1 => tk σ H1 fun zs H2 => r vs zs H2 Q) : tCKw r t tk σ H Q := h
/-- the rows of a dict -/
abbrev Row := (Nat × Nat) × Int
def kyP (k : Nat × Nat) : List Key := [Sum.inl (k.1 : Int), Sum.inl (k.2 : Int)]
def encR (p : Row) : List Key × V := (kyP p.1, .int p.2)
theorem kyP_inj {a b : Nat × Nat} : kyP a = kyP b ↔ a = b := by
  constructor
  · intro h
    unfold kyP at h
    injection h with h1 h2
    injection h2 with h2 _
    injection h1 with h1
    injection h2 with h2
    exact Prod.ext (by omega) (by omega)
  · rintro rfl
    rfl
theorem kyP_map (k : Nat × Nat) : (kyP k).map kV = [V.int (k.1 : Int), .int (k.2 : Int)] := rfl
end
end Z

/-! d.setdefault(k, x) of a dict with tuple keys; a local name that holds a def, called with keywords; o.f += e -/
namespace Z
open PySem PySem.Spec PyProof.Rows L2
section
variable {X : Cx} {pins : List (Addr × Obj)} {σ : L2.St} {H : Hp} {s : Shared} {a : Addr} {u r : Value} {A : Around} {E : Value → Shared → Prop}
theorem d_setdT {kvs : List (List Key × V)} {k : List Key} {b : Addr} {d : V} {Q : Value → Shared → Prop} (hu : A.units + 1 < cLine) (I : Inv X pins σ H s) (e : H a = some (.dT kvs)) (eb : H b = some (.tup (k.map kV))) (rd : RelV d r) (hl : kvs.length < sizeLine)
    (h1 : ∀ v, valV kvs k = some v → ∀ (w' : Value) (s' : Shared), Inv X pins σ H s' → RelV v w' → Q w' s') (h2 : valV kvs k = none → ∀ (w' : Value) (s' : Shared), Inv X pins σ (upd H a (.dT (putK kvs k d))) s' → RelV d w' → Q w' s') :
    wpAny (model X.prog X.w) A (call (.builtin "dict.setdefault") [.ref a, .ref b, r]) Q E s := by
  obtain ⟨z, hd, xs, rel, dd⟩ := dt_of I.hok e
  have hz : xs.length ≤ sizeLine := by rw [← Paired.length rel]; exact z
  refine call_setdefault_heap (hsz := hz) (tupleKind_room_in1 hu) (key_of I.hok eb) hd dd (fun p hp => ?_) fun hn h' dd' hs => ?_
  · have q := rel.val k
    rw [hp] at q
    cases q0 : valV kvs k with
    | none =>
      rw [q0] at q
      exact (show False from q).elim
    | some v0 =>
      rw [q0] at q
      exact h1 v0 q0 _ _ (I.tok _) q
  · have q := rel.val k
    rw [hn] at q
    cases q0 : valV kvs k with
    | some v0 =>
      rw [q0] at q
      exact (show False from q).elim
    | none =>
      have hl2 : (putK kvs k d).length ≤ sizeLine := by
        have := length_putK kvs k d
        omega
      refine h2 q0 _ _ ?_ rd
      obtain ⟨q, es, ep, hq, h2, h3, h4, _, h5⟩ := dd'
      refine d_write I (by rw [e]; exact True.intro) hs ⟨q, hq⟩ ⟨hl2, hd, _, (rel.put k eb rd).keeps fun c ys ec => ?_, q, es, ep, hq, h2, h3, h4, h5⟩
      rw [upd_ne (ne_of ec e (fun z => nomatch z))]
      exact ec
end
/-- d.setdefault(y, z), the keys tuples -/
def tDSetdT (td ty tx : TE) : TE := fun σ H Q => td σ H fun x H1 => ∃ a, x = .ref a ∧ IsD H1 a ∧ ty σ H1 fun y H2 => tx σ H2 fun z H3 => ∃ (kvs : List (List Key × V)) (k : List Key) (b : Addr), H3 a = some (.dT kvs) ∧ y = .ref b ∧ H3 b = some (.tup (k.map kV)) ∧ kvs.length < sizeLine ∧
  (∀ v, valV kvs k = some v → Q v H3) ∧ (valV kvs k = none → Q z (upd H3 a (.dT (putK kvs k z))))
section
variable {X : Cx} {o e f : Expr} {td ty tx : TE} {apos cpos : Pos}
theorem pe_dsetdT (hu : X.A.units + 1 < cLine) (ho : PE X o td) (he : PE X e ty) (hf : PE X f tx) (m : M2 X o "setdefault" apos e f cpos) : PE X (.Call (.Attribute o "setdefault" apos) [e, f] [] cpos) (tDSetdT td ty tx) := by
  refine ⟨fun pins s σ H Q I h => ?_⟩
  refine wpAny_Call_method m.base m.few m.line PySem.F.plainAttrs_dict PySem.F.slot_dict_setdefault PySem.F.type_dict_setdefault (thn (ho.run pins s σ H _ I h) fun u s1 ⟨x, H1, I1, rx, a, ex, d, q1⟩ => ?_)
  subst ex
  obtain rfl : u = Value.ref a := rx
  obtain ⟨t1, t2, _⟩ := isD_at I1 d
  refine ⟨t1, t2, ?_⟩
  rw [m.trees]
  refine Calls.callWith_builtin rfl (Calls.evalArgs_plain (Calls.spliced_cons (thn (he.run pins s1 σ H1 _ I1 q1) fun iv s2 ⟨y, H2, I2, ry, q2⟩ =>
    Calls.spliced_cons (thn (hf.run pins s2 σ H2 _ I2 q2) fun fv s3 ⟨z, H3, I3, rz, kvs, k, b, ea, ey, eb, hl, q3, q4⟩ => Calls.spliced_nil ?_))))
  subst ey
  cases (show iv = Value.ref b from ry)
  exact d_setdT hu I3 ea eb rz hl (fun v hv w' s4 I4 rw' => ⟨v, _, I4, rw', q3 v hv⟩) fun hn w' s4 I4 rw' => ⟨z, _, I4, rw', q4 hn⟩
end
section
variable {K : PySem.W.Frag} {x qual : Str} {params : Arguments} {body : List Stmt} {scope : Scope} {kws : List (Str × V)} {f : Addr} {fd : FuncData} {ps ks : List Str} {n : Nat}
/-- some keyword-only parameters are given, the others (ms) have their defaults -/
theorem kbnKM (F : FunD K x qual params body scope [] kws f fd) (ms : List (Str × V)) (hk : kws ≠ []) (hms : ∀ q ∈ ms, q ∈ kws) (gg : List Value → List Value → List Value → List Value) {gV : List V → List V → List V}
    (rel : ∀ {vs zs : List V} {us mv ws : List Value}, Vals vs us → Vals (ms.map (·.2)) mv → Vals zs ws → Vals (gV vs zs) (gg us mv ws))
    (h : ∀ (D : Addr) (doc pm : Value) (an : Option Addr) (cdv ct : Value) (us mv ws : List Value), us.length = n → mv.length = ms.length → ws.length = ks.length →
      KwChain D ((ms.map (·.1)).zip mv) (bindArgs (PySem.W.fnOf x qual params body scope .none (.ref D) doc pm an cdv ct) ⟨us, ks.zip ws⟩) (ps.zip (gg us mv ws))) : ∃ g', KBn K fd ps n ks g' gV := by
  obtain ⟨oc, od, dV, kV, doc, pm, an, cdv, ct, osl, rfl, lk, hcd, hD, hK⟩ := F.ex
  rcases hD with ⟨_, rfl⟩ | ⟨e, _⟩
  · rcases hK with e | ⟨D, rfl, hq⟩
    · exact absurd e hk
    · obtain ⟨mv, hl, rk, hks⟩ := kwd_vals (ms := ms) fun q hm => hq q (hms q hm)
      exact ⟨fun us ws => gg us mv ws, fun s us ws X l1 l2 => BindsTo.of_looks fun M => KwChain.looks X hks (h D doc pm an cdv ct us mv ws l1 hl l2), fun r1 r2 => rel r1 rk r2⟩
  · exact absurd rfl e
end
/-- the i-th slot holds the def at f; keywords behind the given ones -/
def tCallNL (i : Nat) (f : Addr) (n m : Nat) (sp : Sp) (gV : List V → List V → List V) (E : XK) (t tk : TA) : TE := fun σ H Q => σ[i]? = some (some (.ref f)) ∧ tCallN n m sp gV E t tk σ H Q
section
variable {X : Cx} {CX : CXT} {k i n : Nat} {f : Addr} {fd : FuncData} {ps ks : List Str} {sp : Sp} {E : XK} {x : Str} {p pos : Pos} {e : Expr} {es : List Expr} {t tk : TA} {kws : List Keyword} {g : List Value → List Value → List Value} {gV : List V → List V → List V}
theorem pe_callNL (F : FnOk X.prog X.w X.K X.mg X.base CX k f fd ps sp) (hr : Room k X.A) (hN : X.N[i]? = some x) (hv : Vis X.env.scope x) (hk : PySem.W.keepIn X.K (.ref f) = true) (hb : KBn X.K fd ps n ks g gV) (hx : Passes CX X E)
    (ha : PA X (e :: es) t) (hkw : PK X kws tk) (hall : (backToKw pos (keywordEach kws X.env)).all (·.1.isSome) = true := by rfl) (hks : (backToKw pos (keywordEach kws X.env)).filterMap (·.1) = ks := by rfl)
    (hdb : (x == ("__debug__" : Str)) = false := by decide) (hcd : (x == ("__classdict__" : Str)) = false := by decide)
    (he : starEach (e :: es) X.env = (false, eval e X.env) :: starEach es X.env := by rfl)
    (hpl : ((backTo pos (starEach (e :: es) X.env)).any (·.1) || (backToKw pos (keywordEach kws X.env)).any (·.1.isNone)) = false := by rfl) :
    PE X (.Call (.Name x p) (e :: es) kws pos) (tCallNL i f n ks.length sp gV E t tk) := by
  refine ⟨fun pins s σ H Q I h => ?_⟩
  obtain ⟨hs, h⟩ := h
  refine wpAny_Call_Name_kw (thn ((pe_var (pos := p) hN hv hdb hcd).run pins s σ H (fun v H1 => v = .ref f ∧ H1 = H) I ⟨.ref f, hs, rfl, rfl⟩) fun u s0 ⟨v, H0, I0, r0, q0⟩ => ?_)
  obtain ⟨rfl, rfl⟩ := q0
  cases r0
  refine PySem.W.callWith_KW (h₀ := X.base) I0.ok.mod.kin hk hall (thn (ha.run pos pins s0 σ _ _ I0 h) fun us s1 ⟨vs, H1, I1, r, q⟩ => ?_) hpl he
  refine thn (hkw.run pos pins s1 σ H1 _ I1 q) fun ws s2 ⟨zs, H2, I2, rz, l1, l2, q2⟩ => ⟨I2.kIn, ?_⟩
  rw [hks]
  exact run_fnN F hr hb hx I2 r rz l1 l2 q2
end
section
variable {K : PySem.W.Frag} {σ : L2.St} {H : Hp} {Q : VK}
theorem st_dsetdT {td ty tx : TE} (h : td σ H fun x H1 => ∃ a, x = .ref a ∧ IsD H1 a ∧ ty σ H1 fun y H2 => tx σ H2 fun z H3 => ∃ (kvs : List (List Key × V)) (k : List Key) (b : Addr), H3 a = some (.dT kvs) ∧ y = .ref b ∧ H3 b = some (.tup (k.map kV)) ∧ kvs.length < sizeLine ∧
  (∀ v, valV kvs k = some v → Q v H3) ∧ (valV kvs k = none → Q z (upd H3 a (.dT (putK kvs k z))))) : tDSetdT td ty tx σ H Q := h
theorem st_aug {i : Nat} {te : TE} {ti : TIp} {nx bk ct : L2.St → Hp → Prop} {rt : VK} {x : V} (hx : σ[i]? = some (some x)) (h : te σ H fun y H1 => ti x y H1 fun z H2 => nx (σ.set i (some z)) H2) : tAug i te ti ⟨nx, rt, bk, ct⟩ σ H := ⟨x, hx, h⟩
theorem st_revL {te : TE} (h : te σ H fun x H1 => ∃ a xs, x = .ref a ∧ SqL K H1 a xs ∧ ∀ p, H1 p = none → Q (.ref p) (upd H1 p (.lst xs.reverse))) : tRevL K te σ H Q := h
theorem st_ipI {f : Int → Int → Int} {i j : Int} (q : Q (.int (f i j)) H) : ipI f (.int i) (.int j) H Q := ⟨i, j, rfl, rfl, q⟩
theorem st_callNL {i : Nat} {f : Addr} {n m : Nat} {sp : Sp} {gV : List V → List V → List V} {E : XK} {t tk : TA} (h : σ[i]? = some (some (.ref f))) (q : tCallN n m sp gV E t tk σ H Q) : tCallNL i f n m sp gV E t tk σ H Q := ⟨h, q⟩
theorem st_fldaug {ta tv : TE} {rd : V → V → Hp → VK → Prop} {f : Str} {nx bk ct : L2.St → Hp → Prop} {rt : VK} (h : ta σ H fun x H1 => ∃ a C dx fs v, x = .ref a ∧ H1 a = some (.ins C dx fs) ∧ Cls K C ∧ NoAttr K C f ∧ fs.lookup f = some v ∧
  tv σ H1 fun y H2 => rd v y H2 fun z H3 => ∃ dx' fs', H3 a = some (.ins C dx' fs') ∧ fs'.length < 1000 ∧ nx σ (upd H3 a (.ins C dx' (putF f z fs')))) : sFldAug K ta tv rd f ⟨nx, rt, bk, ct⟩ σ H := h
end
end Z

/-! isinstance(e, (C1, C2, ..)) of the caught exception -/
namespace Z
open PySem PySem.Spec PyProof.Rows L2
/-- isinstance(e, t), e the exception that the suite holds, t a tuple of classes on the heap -/
def rIsEdT (K : PySem.W.Frag) (D a : Addr) (cls : Value) (d : Option Addr) : List V → Hp → VK → Prop := fun xs H Q => ∃ (tp : Addr) (cs : List V) (us : List Value) (b : Bool) (dd : Addr) (fs : List (Str × V)), xs = [.ref a, .ref tp] ∧ cls = .ref D ∧ d = some dd ∧ H dd = some (.xd fs) ∧ H tp = some (.tup cs) ∧ Paired ClsV cs us ∧ PySem.W.kitAny K (.ref D) us = some b ∧ Q (.bl b) H
theorem call_isEdT {X : Cx} {a D : Addr} {oe : Obj} {cls : Value} {d : Option Addr} {pn : List (Addr × Obj)} (C : ExcC X.K D) (hz : Zc cls d oe) (hf : ∃ vs, oe.data = .fields vs) : CallR (X.suite a ((a, oe) :: pn)) (.builtin "isinstance") (rIsEdT X.K D a cls d) := by
  intro pins s σ H xs us Q I r h
  obtain ⟨tp, cs, ks, b, dd, fs, rfl, rfl, rfl, ea, hT, hk, e, q⟩ := h
  obtain ⟨u1, u2, rfl, r1, r2⟩ := vals2 r
  cases r1
  cases (show u2 = Value.ref tp from r2)
  have hget := (I.pin (a, oe) (List.mem_append.mpr (.inl List.mem_cons_self))).1
  obtain ⟨vs, hv⟩ := hf
  obtain ⟨mA, hns, _⟩ : ObjOk _ _ _ _ dd (.xd fs) := I.hok dd _ ea
  obtain ⟨od, ho, _⟩ := lookIn_ns hns
  have J : PySem.W.InstAt s.heap a oe D (some od) := ⟨hget, hz.1, by unfold PySem.W.notCls; rw [hv] <;> rfl, by rw [hz.2]; exact ho⟩
  obtain ⟨_, its, rv, t, g1, g2, n, g3⟩ : ObjOk _ _ _ _ tp (.tup cs) := I.hok tp _ hT
  have es := ClsV.all hk rv
  subst es
  rcases t with ⟨tc, td, tdata, tsl⟩
  dsimp only at g2 g3
  cases g2
  cases g3
  exact PySem.W.kia_tup (PySem.W.z_kit C) I.kIn ⟨_, J⟩ g1 e (fun z => nomatch z) fun tk => ⟨.bl b, H, I.kept (t' := tk) fun _ _ z => z, rfl, q⟩
theorem kitAny_no {K : PySem.W.Frag} {t u v : Value} (h1 : PySem.W.kitOne K t u = some false) (h2 : PySem.W.kitOne K t v = some false) : PySem.W.kitAny K t [u, v] = some false := by
  unfold PySem.W.kitAny
  rw [h1]
  show PySem.W.kitAny K t [v] = _
  unfold PySem.W.kitAny
  rw [h2]
  rfl
end Z

local macro_rules | `(tactic| walk_at "cond") => `(tactic| first
  | (show (0 : Int) < _; first | decide | omega) | (show (0 : Int) ≤ _; first | decide | omega) | ((refine (show L2.CDiv _ _ from ⟨?_, ?_⟩)) <;> omega) | ((refine (show L2.CMul _ _ from Or.inl ⟨?_, ?_⟩)) <;> omega) | ((refine (show L2.CMul _ _ from Or.inr ⟨?_, ?_⟩)) <;> omega)
  | (refine (show Z.CPowW _ _ from ⟨?_, ?_⟩) <;> decide) | (refine (show L2.CPow _ _ from ⟨?_, ?_, ?_⟩); omega; omega; decide))
local macro_rules | `(tactic| walk_at "z") => `(tactic| first
  | with_reducible refine Z.st_seq ?_ | with_reducible refine Z.st_asg ?_ | with_reducible refine Z.st_if ?_ | with_reducible refine Z.st_ret ?_ | with_reducible refine Z.st_drop ?_ | with_reducible refine Z.st_next ?_ | with_reducible refine Z.st_retN ?_ | with_reducible refine Z.st_brk ?_ | with_reducible refine Z.st_cont ?_
  | with_reducible refine Z.st_gname ?_ | with_reducible refine Z.st_par ?_ | with_reducible refine Z.st_two ?_
  | ((with_reducible refine' Z.st_var ?hv ?hq); (case hv => exact rfl)) | with_reducible refine Z.st_c ?_ | with_reducible refine Z.st_op ?_ | with_reducible refine Z.st_un ?_ | with_reducible refine Z.st_i0 ?_ | with_reducible refine Z.st_u ?_
  | with_reducible refine Z.st_test ?_ | with_reducible refine Z.st_tB ?_ | with_reducible refine Z.st_bl ?_ | with_reducible refine Z.st_not ?_ | with_reducible refine Z.st_and ?_ | with_reducible refine Z.st_or ?_
  | with_reducible refine Z.st_andV ?_ | with_reducible refine Z.st_orV ?_ | with_reducible refine Z.st_notV ?_
  | with_reducible refine Z.st_nil ?_ | with_reducible refine Z.st_cons ?_ | with_reducible refine Z.st_cb ?_ | with_reducible refine Z.st_call ?_ | with_reducible refine Z.st_callN ?_
  | with_reducible refine Z.st_lst ?_ | with_reducible refine Z.st_tup ?_
  | ((with_reducible refine Z.st_eq ?_ ?_); exact rfl) | ((with_reducible refine Z.st_ne ?_ ?_); exact rfl)
  | with_reducible refine Z.st_for ?_ | with_reducible refine Z.st_iEnumA ?_ | with_reducible refine Z.st_iList ?_ | with_reducible refine Z.st_iTup ?_ | with_reducible refine Z.st_iR1 ?_ | with_reducible refine Z.st_iR2 ?_
  | ((with_reducible refine' Z.st_i ?hc ?hq); (case hc => walk_at "cond"))
  | with_reducible refine Z.st_gsub ?_ | with_reducible refine Z.st_bm ?_ | with_reducible refine Z.st_bm0 ?_
  | with_reducible refine Z.st_lc ?_ | with_reducible refine Z.st_yes ?_ | with_reducible refine Z.st_sl ?_ | with_reducible refine Z.st_chain ?_ | with_reducible refine Z.st_gcons ?_ | with_reducible refine Z.st_gnil ?_ | with_reducible refine Z.st_noPart ?_ | with_reducible refine Z.st_part ?_
  | with_reducible refine L2.iteT ?_ | with_reducible refine L2.iteF ?_ | with_reducible refine Z.iteNT ?_ | with_reducible refine Z.iteNF ?_)
local macro_rules | `(tactic| walk_at "zz") => `(tactic| repeat walk_at "z")
local macro_rules | `(tactic| walk_at "sm") => `(tactic| first | exact L2.Same.refl _ | assumption | (refine' L2.Same.trans ?ha ?hb; (case hb => assumption); (case ha => walk_at "sm")))
local macro_rules | `(tactic| walk_at "up") => `(tactic| first
  | assumption
  | (refine' Z.seq_up ?w ?h; (case w => assumption); (case h => walk_at "up")) | (refine' Z.tup_up ?w ?h; (case w => assumption); (case h => walk_at "up")) | (refine' Z.dUp ?w ?h; (case w => assumption); (case h => walk_at "up")) | (refine' Z.hUp ?w ?h; (case w => assumption); (case h => walk_at "up"))
  | (refine' L2.Same.seq ?e ?h; (case e => assumption); (case h => walk_at "up")) | (refine' Z.seqT ?e ?h; (case e => assumption); (case h => walk_at "up")) | (refine' Z.dmono ?e ?h; (case e => assumption); (case h => walk_at "up")) | (refine' Z.atUp ?e ?h; (case e => assumption); (case h => walk_at "up")))
local macro_rules | `(tactic| walk_at "zi") => `(tactic| with_reducible refine Z.st_ifE ?_)
local macro_rules | `(tactic| walk_at "nw") => `(tactic| first
  | refine ⟨by first | decide | exact Z.small (by simp), Z.NewO.good (by assumption) fun p G1 H1 e1 w1 h1 => ?_⟩
  | refine Z.st_catV (by walk_at "up") (by walk_at "up") (by first | decide | (simp; done) | (simp; omega)) (by assumption) fun p G1 H1 e1 w1 h1 => ?_)
local macro_rules | `(tactic| walk_at "zn") => `(tactic| repeat first
  | walk_at "z"
  | walk_at "nw")
local macro_rules | `(tactic| walk_at "dp") => `(tactic| first
  | exact L2.Dp.non
  | exact L2.Dp.bl _
  | exact L2.Dp.int _
  | exact L2.Dp.str _
  | assumption
  | (refine' L2.Dp.lst (L2.SqL.of ?h) ?t; (case h => walk_at "up"); (case t => walk_at "dps"))
  | (refine' L2.Dp.tup (L2.SqT.of ?h) ?t; (case h => walk_at "up"); (case t => walk_at "dps"))
  | walk_at "up")
local macro_rules | `(tactic| walk_at "dps") => `(tactic| first
  | exact L2.DpAll.nil
  | (refine' L2.DpAll.cons ?a ?b; (case a => walk_at "dp"); (case b => walk_at "dps")))
local macro_rules | `(tactic| walk_at "od") => `(tactic| first
  | decide +kernel
  | (refine Z.Od.int ?_; omega)
  | exact Z.Od.strInt (by omega)
  | exact Z.Od.bool _
  | assumption
  | (refine Z.Od.mono ?_ ?_ <;> first | assumption | decide))
local macro_rules | `(tactic| walk_at "al") => `(tactic| first
  | exact trivial
  | (refine' Z.AllP.app ?a ?b; (case a => walk_at "al"); (case b => walk_at "al"))
  | (refine' And.intro (Exists.intro _ (And.intro ?a ?b)) ?c; (case a => walk_at "dp"); (case b => walk_at "od"); (case c => walk_at "al")))
local macro_rules | `(tactic| walk_at "ib") => `(tactic| first
  | refine Z.iteBT (by rfl) ?_
  | refine Z.iteBF (by rfl) ?_)

namespace Z
open PySem PySem.Spec PyProof.Rows L2

local macro_rules | `(tactic| walk_at "zt") => `(tactic| repeat first
  | walk_at "z"
  | with_reducible refine Z.st_make ?_ | with_reducible refine Z.st_meth ?_ | with_reducible refine Z.st_fld ?_ | with_reducible refine Z.st_sfld ?_
  | with_reducible refine Z.st_par3 ?_ | with_reducible refine Z.st_iRng3 ?_)

local macro_rules | `(tactic| walk_at "zu") => `(tactic| repeat first
  | walk_at "z"
  | with_reducible refine Z.st_make ?_ | with_reducible refine Z.st_meth ?_ | with_reducible refine Z.st_fld ?_ | with_reducible refine Z.st_sfld ?_
  | with_reducible refine Z.st_par3 ?_ | with_reducible refine Z.st_iRng3 ?_
  | with_reducible refine Z.st_dnewT ?_ | with_reducible refine Z.st_disp1T ?_ | with_reducible refine Z.st_dput ?_ | with_reducible refine Z.st_dget ?_ | with_reducible refine Z.st_din ?_ | with_reducible refine Z.st_dnin ?_ | with_reducible refine Z.st_revS ?_ | with_reducible refine Z.st_m1 ?_)

local macro_rules | `(tactic| walk_at "zb") => `(tactic| repeat first
  | walk_at "z"
  | with_reducible refine Z.st_mkO ?_ | with_reducible refine Z.st_bei ?_ | with_reducible refine Z.st_bst ?_ | with_reducible refine Z.st_xf ?_ | with_reducible refine Z.st_callSD ?_ | with_reducible refine Z.st_callNS ?_
  | with_reducible refine Z.st_make ?_ | with_reducible refine Z.st_makeV ?_ | with_reducible refine Z.st_meth ?_ | with_reducible refine Z.st_methSD ?_ | with_reducible refine Z.st_lc2 ?_ | with_reducible refine Z.st_fld ?_ | with_reducible refine Z.st_sfld ?_ | with_reducible refine Z.st_cval ?_ | with_reducible refine Z.st_cmeth ?_)

local macro_rules | `(tactic| walk_at "zy") => `(tactic| repeat first
  | walk_at "z"
  | with_reducible refine Z.st_mkO ?_ | with_reducible refine Z.st_bei ?_ | with_reducible refine Z.st_bst ?_ | with_reducible refine Z.st_xf ?_ | with_reducible refine Z.st_callSD ?_ | with_reducible refine Z.st_callNS ?_)

local macro_rules | `(tactic| walk_at "zq") => `(tactic| repeat first
  | walk_at "z"
  | with_reducible refine Z.st_mkO ?_ | with_reducible refine Z.st_bei ?_ | with_reducible refine Z.st_bst ?_ | with_reducible refine Z.st_bst2 ?_ | with_reducible refine Z.st_xf ?_ | with_reducible refine Z.st_callSD ?_ | with_reducible refine Z.st_callNS ?_ | with_reducible refine Z.st_callOS ?_
  | with_reducible refine Z.st_make ?_ | with_reducible refine Z.st_makeV ?_ | with_reducible refine Z.st_makeN ?_ | with_reducible refine Z.st_meth ?_ | with_reducible refine Z.st_methSD ?_ | with_reducible refine Z.st_lc2 ?_ | with_reducible refine Z.st_fld ?_ | with_reducible refine Z.st_sfld ?_ | with_reducible refine Z.st_cval ?_ | with_reducible refine Z.st_cmeth ?_
  | with_reducible refine Z.st_par3 ?_ | with_reducible refine Z.st_iRng3 ?_ | with_reducible refine Z.st_iEnumS ?_ | with_reducible refine Z.st_iStr ?_ | with_reducible refine Z.st_star ?_
  | with_reducible refine Z.st_dnewT ?_ | with_reducible refine Z.st_disp1T ?_ | with_reducible refine Z.st_dput ?_ | with_reducible refine Z.st_dget ?_ | with_reducible refine Z.st_din ?_ | with_reducible refine Z.st_dnin ?_ | with_reducible refine Z.st_revS ?_ | with_reducible refine Z.st_m1 ?_)

local macro_rules | `(tactic| walk_at "zr") => `(tactic| repeat first
  | walk_at "z"
  | with_reducible refine Z.st_mkO ?_ | with_reducible refine Z.st_bei ?_ | with_reducible refine Z.st_bst ?_ | with_reducible refine Z.st_bst2 ?_ | with_reducible refine Z.st_xf ?_ | with_reducible refine Z.st_callSD ?_ | with_reducible refine Z.st_callNS ?_ | with_reducible refine Z.st_callOS ?_
  | with_reducible refine Z.st_make ?_ | with_reducible refine Z.st_makeV ?_ | with_reducible refine Z.st_makeN ?_ | with_reducible refine Z.st_meth ?_ | with_reducible refine Z.st_methSD ?_ | with_reducible refine Z.st_lc2 ?_ | with_reducible refine Z.st_fld ?_ | with_reducible refine Z.st_sfld ?_ | with_reducible refine Z.st_cval ?_ | with_reducible refine Z.st_cmeth ?_
  | with_reducible refine Z.st_par3 ?_ | with_reducible refine Z.st_iRng3 ?_ | with_reducible refine Z.st_iEnumS ?_ | with_reducible refine Z.st_iStr ?_ | with_reducible refine Z.st_star ?_
  | with_reducible refine Z.st_dnewT ?_ | with_reducible refine Z.st_disp1T ?_ | with_reducible refine Z.st_dput ?_ | with_reducible refine Z.st_dget ?_ | with_reducible refine Z.st_din ?_ | with_reducible refine Z.st_dnin ?_ | with_reducible refine Z.st_revS ?_ | with_reducible refine Z.st_m1 ?_
  | with_reducible refine Z.st_dget2 ?_ | with_reducible refine Z.st_cKw ?_ | with_reducible refine Z.st_keys ?_)

local macro_rules | `(tactic| walk_at "zt") => `(tactic| repeat first
  | walk_at "z"
  | with_reducible refine Z.st_mkO ?_ | with_reducible refine Z.st_bei ?_ | with_reducible refine Z.st_bst ?_ | with_reducible refine Z.st_bst2 ?_ | with_reducible refine Z.st_xf ?_ | with_reducible refine Z.st_callSD ?_ | with_reducible refine Z.st_callNS ?_ | with_reducible refine Z.st_callOS ?_
  | with_reducible refine Z.st_make ?_ | with_reducible refine Z.st_makeV ?_ | with_reducible refine Z.st_makeN ?_ | with_reducible refine Z.st_meth ?_ | with_reducible refine Z.st_methSD ?_ | with_reducible refine Z.st_lc2 ?_ | with_reducible refine Z.st_fld ?_ | with_reducible refine Z.st_sfld ?_ | with_reducible refine Z.st_cval ?_ | with_reducible refine Z.st_cmeth ?_
  | with_reducible refine Z.st_par3 ?_ | with_reducible refine Z.st_iRng3 ?_ | with_reducible refine Z.st_iEnumS ?_ | with_reducible refine Z.st_iStr ?_ | with_reducible refine Z.st_star ?_
  | with_reducible refine Z.st_dnewT ?_ | with_reducible refine Z.st_disp1T ?_ | with_reducible refine Z.st_dput ?_ | with_reducible refine Z.st_dget ?_ | with_reducible refine Z.st_din ?_ | with_reducible refine Z.st_dnin ?_ | with_reducible refine Z.st_revS ?_ | with_reducible refine Z.st_m1 ?_
  | with_reducible refine Z.st_dget2 ?_ | with_reducible refine Z.st_cKw ?_ | with_reducible refine Z.st_keys ?_
  | with_reducible refine Z.st_dsetdT ?_ | with_reducible refine Z.st_fldaug ?_ | with_reducible refine Z.st_ipI ?_ | with_reducible refine Z.st_revL ?_
  | ((with_reducible refine' Z.st_aug ?hv ?hq); (case hv => exact rfl)))

def top (i : Nat) : Stmt := PySem.Challenge.pw_deflatehall_k17_tokens_refused.main.body.getD i (.Pass ⟨0, 0, 0, 0⟩)
abbrev s_BadData___init__ : Stmt := inClass (top 1) 0
abbrev s_BadBits___init__ : Stmt := inClass (top 2) 0
abbrev s_BadToken___init__ : Stmt := inClass (top 3) 0
abbrev s_Far___init__ : Stmt := inClass (top 4) 0
abbrev s_is_integer : Stmt := top 7
abbrev s_in_range : Stmt := top 8
abbrev s_is_byte : Stmt := top 9
abbrev s_checked_data : Stmt := top 10
abbrev s_is_token : Stmt := top 15
abbrev s_check_tokens : Stmt := top 16
abbrev s_copy_into : Stmt := top 17
abbrev s_expand : Stmt := top 18
abbrev s_same_length : Stmt := top 19
abbrev s_Matcher___init__ : Stmt := inClass (top 20) 0
abbrev s_Matcher_learn : Stmt := inClass (top 20) 1
abbrev s_Matcher_longest : Stmt := inClass (top 20) 2
abbrev s_greedy_tokens : Stmt := top 21
abbrev s_tokens_behind : Stmt := top 22
abbrev s_greedy : Stmt := top 23
abbrev s__law_bag : Stmt := top 25
abbrev s__law_take : Stmt := top 26
abbrev s__law_one : Stmt := top 27
abbrev s__law_whole : Stmt := top 28
abbrev s__law_odd : Stmt := top 29
abbrev s__law_bent : Stmt := top 30
abbrev s__law_drawn_data : Stmt := top 31
abbrev s__law_data_fault : Stmt := top 32
abbrev s__law_token : Stmt := top 33
abbrev s__law_is_token : Stmt := top 34
abbrev s__law_expanded : Stmt := top 35
abbrev s__law_fault : Stmt := top 36
abbrev s__law_due : Stmt := top 37
abbrev s__law_greedy_due : Stmt := top 38
abbrev s_law : Stmt := top 39
abbrev sN_BadData___init__ : List Str := ["self", "position"]
abbrev sP_BadData___init__ : List Str := ["self", "position"]
theorem sc_BadData___init__ : FnScope sN_BadData___init__ sP_BadData___init__ (defScope s_BadData___init__) := ⟨rfl, rfl, rfl, by decide +kernel, rfl, by decide +kernel, by decide +kernel⟩
abbrev sN_BadBits___init__ : List Str := ["self", "position"]
abbrev sP_BadBits___init__ : List Str := ["self", "position"]
theorem sc_BadBits___init__ : FnScope sN_BadBits___init__ sP_BadBits___init__ (defScope s_BadBits___init__) := ⟨rfl, rfl, rfl, by decide +kernel, rfl, by decide +kernel, by decide +kernel⟩
abbrev sN_BadToken___init__ : List Str := ["self", "position"]
abbrev sP_BadToken___init__ : List Str := ["self", "position"]
theorem sc_BadToken___init__ : FnScope sN_BadToken___init__ sP_BadToken___init__ (defScope s_BadToken___init__) := ⟨rfl, rfl, rfl, by decide +kernel, rfl, by decide +kernel, by decide +kernel⟩
abbrev sN_Far___init__ : List Str := ["self", "position"]
abbrev sP_Far___init__ : List Str := ["self", "position"]
theorem sc_Far___init__ : FnScope sN_Far___init__ sP_Far___init__ (defScope s_Far___init__) := ⟨rfl, rfl, rfl, by decide +kernel, rfl, by decide +kernel, by decide +kernel⟩
abbrev sN_is_integer : List Str := ["value"]
abbrev sP_is_integer : List Str := ["value"]
theorem sc_is_integer : FnScope sN_is_integer sP_is_integer (defScope s_is_integer) := ⟨rfl, rfl, rfl, by decide +kernel, rfl, by decide +kernel, by decide +kernel⟩
abbrev sN_in_range : List Str := ["value", "least", "most"]
abbrev sP_in_range : List Str := ["value", "least", "most"]
theorem sc_in_range : FnScope sN_in_range sP_in_range (defScope s_in_range) := ⟨rfl, rfl, rfl, by decide +kernel, rfl, by decide +kernel, by decide +kernel⟩
abbrev sN_is_byte : List Str := ["value"]
abbrev sP_is_byte : List Str := ["value"]
theorem sc_is_byte : FnScope sN_is_byte sP_is_byte (defScope s_is_byte) := ⟨rfl, rfl, rfl, by decide +kernel, rfl, by decide +kernel, by decide +kernel⟩
abbrev sN_checked_data : List Str := ["value", "position", "item"]
abbrev sP_checked_data : List Str := ["value"]
theorem sc_checked_data : FnScope sN_checked_data sP_checked_data (defScope s_checked_data) := ⟨rfl, rfl, rfl, by decide +kernel, rfl, by decide +kernel, by decide +kernel⟩
abbrev sN_is_token : List Str := ["value"]
abbrev sP_is_token : List Str := ["value"]
theorem sc_is_token : FnScope sN_is_token sP_is_token (defScope s_is_token) := ⟨rfl, rfl, rfl, by decide +kernel, rfl, by decide +kernel, by decide +kernel⟩
abbrev sN_check_tokens : List Str := ["tokens", "position", "token"]
abbrev sP_check_tokens : List Str := ["tokens"]
theorem sc_check_tokens : FnScope sN_check_tokens sP_check_tokens (defScope s_check_tokens) := ⟨rfl, rfl, rfl, by decide +kernel, rfl, by decide +kernel, by decide +kernel⟩
abbrev sN_copy_into : List Str := ["row", "token", "length", "distance", "turn"]
abbrev sP_copy_into : List Str := ["row", "token"]
theorem sc_copy_into : FnScope sN_copy_into sP_copy_into (defScope s_copy_into) := ⟨rfl, rfl, rfl, by decide +kernel, rfl, by decide +kernel, by decide +kernel⟩
abbrev sN_expand : List Str := ["tokens", "before", "row", "start", "position", "token"]
abbrev sP_expand : List Str := ["tokens", "before"]
theorem sc_expand : FnScope sN_expand sP_expand (defScope s_expand) := ⟨rfl, rfl, rfl, by decide +kernel, rfl, by decide +kernel, by decide +kernel⟩
abbrev sN_same_length : List Str := ["row", "place", "other", "most", "count"]
abbrev sP_same_length : List Str := ["row", "place", "other", "most"]
theorem sc_same_length : FnScope sN_same_length sP_same_length (defScope s_same_length) := ⟨rfl, rfl, rfl, by decide +kernel, rfl, by decide +kernel, by decide +kernel⟩
abbrev sN_Matcher___init__ : List Str := ["self", "row", "floor", "window"]
abbrev sP_Matcher___init__ : List Str := ["self", "row", "floor", "window"]
theorem sc_Matcher___init__ : FnScope sN_Matcher___init__ sP_Matcher___init__ (defScope s_Matcher___init__) := ⟨rfl, rfl, rfl, by decide +kernel, rfl, by decide +kernel, by decide +kernel⟩
abbrev sN_Matcher_learn : List Str := ["self", "stop", "key"]
abbrev sP_Matcher_learn : List Str := ["self", "stop"]
theorem sc_Matcher_learn : FnScope sN_Matcher_learn sP_Matcher_learn (defScope s_Matcher_learn) := ⟨rfl, rfl, rfl, by decide +kernel, rfl, by decide +kernel, by decide +kernel⟩
abbrev sN_Matcher_longest : List Str := ["self", "place", "stop", "most", "best", "other", "length"]
abbrev sP_Matcher_longest : List Str := ["self", "place", "stop"]
theorem sc_Matcher_longest : FnScope sN_Matcher_longest sP_Matcher_longest (defScope s_Matcher_longest) := ⟨rfl, rfl, rfl, by decide +kernel, rfl, by decide +kernel, by decide +kernel⟩
abbrev sN_greedy_tokens : List Str := ["row", "start", "stop", "floor", "window", "matcher", "found", "place", "match"]
abbrev sP_greedy_tokens : List Str := ["row", "start", "stop", "floor", "window"]
theorem sc_greedy_tokens : FnScope sN_greedy_tokens sP_greedy_tokens (defScope s_greedy_tokens) := ⟨rfl, rfl, rfl, by decide +kernel, rfl, by decide +kernel, by decide +kernel⟩
abbrev sN_tokens_behind : List Str := ["choose", "data", "before", "window", "row", "known"]
abbrev sP_tokens_behind : List Str := ["choose", "data", "before", "window"]
theorem sc_tokens_behind : FnScope sN_tokens_behind sP_tokens_behind (defScope s_tokens_behind) := ⟨rfl, rfl, rfl, by decide +kernel, rfl, by decide +kernel, by decide +kernel⟩
abbrev sN_greedy : List Str := ["data", "before", "window"]
abbrev sP_greedy : List Str := ["data", "before", "window"]
theorem sc_greedy : FnScope sN_greedy sP_greedy (defScope s_greedy) := ⟨rfl, rfl, rfl, by decide +kernel, rfl, by decide +kernel, by decide +kernel⟩
abbrev sN__law_bag : List Str := ["_law_script", "_law_at", "_law_cell", "_law_digits"]
abbrev sP__law_bag : List Str := ["_law_script", "_law_at"]
theorem sc__law_bag : FnScope sN__law_bag sP__law_bag (defScope s__law_bag) := ⟨rfl, rfl, rfl, by decide +kernel, rfl, by decide +kernel, by decide +kernel⟩
abbrev sN__law_take : List Str := ["_law_bag_here", "_law_many", "_law_digit"]
abbrev sP__law_take : List Str := ["_law_bag_here", "_law_many"]
theorem sc__law_take : FnScope sN__law_take sP__law_take (defScope s__law_take) := ⟨rfl, rfl, rfl, by decide +kernel, rfl, by decide +kernel, by decide +kernel⟩
abbrev sN__law_one : List Str := ["_law_bag_here", "_law_things"]
abbrev sP__law_one : List Str := ["_law_bag_here", "_law_things"]
theorem sc__law_one : FnScope sN__law_one sP__law_one (defScope s__law_one) := ⟨rfl, rfl, rfl, by decide +kernel, rfl, by decide +kernel, by decide +kernel⟩
abbrev sN__law_whole : List Str := ["_law_value"]
abbrev sP__law_whole : List Str := ["_law_value"]
theorem sc__law_whole : FnScope sN__law_whole sP__law_whole (defScope s__law_whole) := ⟨rfl, rfl, rfl, by decide +kernel, rfl, by decide +kernel, by decide +kernel⟩
abbrev sN__law_odd : List Str := ["_law_bag_here", "_law_some"]
abbrev sP__law_odd : List Str := ["_law_bag_here"]
theorem sc__law_odd : FnScope sN__law_odd sP__law_odd (defScope s__law_odd) := ⟨rfl, rfl, rfl, by decide +kernel, rfl, by decide +kernel, by decide +kernel⟩
abbrev sN__law_bent : List Str := ["_law_bag_here", "_law_thing", "_law_way", "_law_parts", "_law_at"]
abbrev sP__law_bent : List Str := ["_law_bag_here", "_law_thing"]
theorem sc__law_bent : FnScope sN__law_bent sP__law_bent (defScope s__law_bent) := ⟨rfl, rfl, rfl, by decide +kernel, rfl, by decide +kernel, by decide +kernel⟩
abbrev sN__law_drawn_data : List Str := ["_law_bag_here", "_law_most", "_law_pool", "_law_turn", "_law_some", "_law_row", "_law_size", "_law_at"]
abbrev sP__law_drawn_data : List Str := ["_law_bag_here", "_law_most"]
theorem sc__law_drawn_data : FnScope sN__law_drawn_data sP__law_drawn_data (defScope s__law_drawn_data) := ⟨rfl, rfl, rfl, by decide +kernel, rfl, by decide +kernel, by decide +kernel⟩
abbrev sN__law_data_fault : List Str := ["_law_value", "_law_at"]
abbrev sP__law_data_fault : List Str := ["_law_value"]
theorem sc__law_data_fault : FnScope sN__law_data_fault sP__law_data_fault (defScope s__law_data_fault) := ⟨rfl, rfl, rfl, by decide +kernel, rfl, by decide +kernel, by decide +kernel⟩
abbrev sN__law_token : List Str := ["_law_bag_here", "_law_far", "_law_size"]
abbrev sP__law_token : List Str := ["_law_bag_here", "_law_far"]
theorem sc__law_token : FnScope sN__law_token sP__law_token (defScope s__law_token) := ⟨rfl, rfl, rfl, by decide +kernel, rfl, by decide +kernel, by decide +kernel⟩
abbrev sN__law_is_token : List Str := ["_law_value"]
abbrev sP__law_is_token : List Str := ["_law_value"]
theorem sc__law_is_token : FnScope sN__law_is_token sP__law_is_token (defScope s__law_is_token) := ⟨rfl, rfl, rfl, by decide +kernel, rfl, by decide +kernel, by decide +kernel⟩
abbrev sN__law_expanded : List Str := ["_law_row", "_law_tokens_row", "_law_some", "_law_at", "_law_token_here", "_law_turn"]
abbrev sP__law_expanded : List Str := ["_law_row", "_law_tokens_row"]
theorem sc__law_expanded : FnScope sN__law_expanded sP__law_expanded (defScope s__law_expanded) := ⟨rfl, rfl, rfl, by decide +kernel, rfl, by decide +kernel, by decide +kernel⟩
abbrev sN__law_fault : List Str := ["_law_call", "e"]
abbrev sP__law_fault : List Str := ["_law_call"]
theorem sc__law_fault : FnScope sN__law_fault sP__law_fault (defScope s__law_fault) := ⟨rfl, rfl, rfl, by decide +kernel, rfl, by decide +kernel, by decide +kernel⟩
abbrev sN__law_due : List Str := ["_law_value", "_law_row", "_law_at", "_law_told"]
abbrev sP__law_due : List Str := ["_law_value", "_law_row"]
theorem sc__law_due : FnScope sN__law_due sP__law_due (defScope s__law_due) := ⟨rfl, rfl, rfl, by decide +kernel, rfl, by decide +kernel, by decide +kernel⟩
abbrev sN__law_greedy_due : List Str := ["_law_value", "_law_row", "_law_thing"]
abbrev sP__law_greedy_due : List Str := ["_law_value", "_law_row"]
theorem sc__law_greedy_due : FnScope sN__law_greedy_due sP__law_greedy_due (defScope s__law_greedy_due) := ⟨rfl, rfl, rfl, by decide +kernel, rfl, by decide +kernel, by decide +kernel⟩
abbrev sN_law : List Str := ["_law_script", "_law_at", "_law_bag_here", "_law_turn", "_law_some", "_law_row", "_law_value", "_law_other"]
abbrev sP_law : List Str := ["_law_script"]
theorem sc_law : FnScope sN_law sP_law (defScope s_law) := ⟨rfl, rfl, rfl, by decide +kernel, rfl, by decide +kernel, by decide +kernel⟩
structure Adr where
  f_BadData___init__ : Addr
  fd_BadData___init__ : FuncData
  f_BadBits___init__ : Addr
  fd_BadBits___init__ : FuncData
  f_BadToken___init__ : Addr
  fd_BadToken___init__ : FuncData
  f_Far___init__ : Addr
  fd_Far___init__ : FuncData
  f_is_integer : Addr
  fd_is_integer : FuncData
  f_in_range : Addr
  fd_in_range : FuncData
  f_is_byte : Addr
  fd_is_byte : FuncData
  f_checked_data : Addr
  fd_checked_data : FuncData
  f_is_token : Addr
  fd_is_token : FuncData
  f_check_tokens : Addr
  fd_check_tokens : FuncData
  f_copy_into : Addr
  fd_copy_into : FuncData
  f_expand : Addr
  fd_expand : FuncData
  f_same_length : Addr
  fd_same_length : FuncData
  f_Matcher___init__ : Addr
  fd_Matcher___init__ : FuncData
  f_Matcher_learn : Addr
  fd_Matcher_learn : FuncData
  f_Matcher_longest : Addr
  fd_Matcher_longest : FuncData
  f_greedy_tokens : Addr
  fd_greedy_tokens : FuncData
  f_tokens_behind : Addr
  fd_tokens_behind : FuncData
  f_greedy : Addr
  fd_greedy : FuncData
  f__law_bag : Addr
  fd__law_bag : FuncData
  f__law_take : Addr
  fd__law_take : FuncData
  f__law_one : Addr
  fd__law_one : FuncData
  f__law_whole : Addr
  fd__law_whole : FuncData
  f__law_odd : Addr
  fd__law_odd : FuncData
  f__law_bent : Addr
  fd__law_bent : FuncData
  f__law_drawn_data : Addr
  fd__law_drawn_data : FuncData
  f__law_data_fault : Addr
  fd__law_data_fault : FuncData
  f__law_token : Addr
  fd__law_token : FuncData
  f__law_is_token : Addr
  fd__law_is_token : FuncData
  f__law_expanded : Addr
  fd__law_expanded : FuncData
  f__law_fault : Addr
  fd__law_fault : FuncData
  f__law_due : Addr
  fd__law_due : FuncData
  f__law_greedy_due : Addr
  fd__law_greedy_due : FuncData
  f_law : Addr
  fd_law : FuncData
  d_expand_before : Addr
  d_greedy_before : Addr
  x_BadData : Addr
  x_BadBits : Addr
  x_BadToken : Addr
  x_Far : Addr
  C_Matcher : Addr
  lc_law : Addr
  lP_law : Addr
  t_MOST_DATA : Tok
  t_LEAST_LENGTH : Tok
  t_MOST_LENGTH : Tok
  t_MOST_DISTANCE : Tok
structure Txt (K : PySem.W.Frag) (mg : Str → Option Value) (A : Adr) : Prop where
  F_BadData___init__ : FunD K "__init__" "BadData.__init__" (defArgs s_BadData___init__) (defBody s_BadData___init__) (defScope s_BadData___init__) [] [] A.f_BadData___init__ A.fd_BadData___init__
  b_BadData___init__ : Binds K A.fd_BadData___init__ sP_BadData___init__ []
  F_BadBits___init__ : FunD K "__init__" "BadBits.__init__" (defArgs s_BadBits___init__) (defBody s_BadBits___init__) (defScope s_BadBits___init__) [] [] A.f_BadBits___init__ A.fd_BadBits___init__
  b_BadBits___init__ : Binds K A.fd_BadBits___init__ sP_BadBits___init__ []
  F_BadToken___init__ : FunD K "__init__" "BadToken.__init__" (defArgs s_BadToken___init__) (defBody s_BadToken___init__) (defScope s_BadToken___init__) [] [] A.f_BadToken___init__ A.fd_BadToken___init__
  b_BadToken___init__ : Binds K A.fd_BadToken___init__ sP_BadToken___init__ []
  F_Far___init__ : FunD K "__init__" "Far.__init__" (defArgs s_Far___init__) (defBody s_Far___init__) (defScope s_Far___init__) [] [] A.f_Far___init__ A.fd_Far___init__
  b_Far___init__ : Binds K A.fd_Far___init__ sP_Far___init__ []
  F_is_integer : FunD K "is_integer" "is_integer" (defArgs s_is_integer) (defBody s_is_integer) (defScope s_is_integer) [] [] A.f_is_integer A.fd_is_integer
  b_is_integer : Binds K A.fd_is_integer sP_is_integer []
  m_is_integer : mg "is_integer" = some (.ref A.f_is_integer)
  F_in_range : FunD K "in_range" "in_range" (defArgs s_in_range) (defBody s_in_range) (defScope s_in_range) [] [] A.f_in_range A.fd_in_range
  b_in_range : Binds K A.fd_in_range sP_in_range []
  m_in_range : mg "in_range" = some (.ref A.f_in_range)
  F_is_byte : FunD K "is_byte" "is_byte" (defArgs s_is_byte) (defBody s_is_byte) (defScope s_is_byte) [] [] A.f_is_byte A.fd_is_byte
  b_is_byte : Binds K A.fd_is_byte sP_is_byte []
  m_is_byte : mg "is_byte" = some (.ref A.f_is_byte)
  F_checked_data : FunD K "checked_data" "checked_data" (defArgs s_checked_data) (defBody s_checked_data) (defScope s_checked_data) [] [] A.f_checked_data A.fd_checked_data
  b_checked_data : Binds K A.fd_checked_data sP_checked_data []
  m_checked_data : mg "checked_data" = some (.ref A.f_checked_data)
  F_is_token : FunD K "is_token" "is_token" (defArgs s_is_token) (defBody s_is_token) (defScope s_is_token) [] [] A.f_is_token A.fd_is_token
  b_is_token : Binds K A.fd_is_token sP_is_token []
  m_is_token : mg "is_token" = some (.ref A.f_is_token)
  F_check_tokens : FunD K "check_tokens" "check_tokens" (defArgs s_check_tokens) (defBody s_check_tokens) (defScope s_check_tokens) [] [] A.f_check_tokens A.fd_check_tokens
  b_check_tokens : Binds K A.fd_check_tokens sP_check_tokens []
  m_check_tokens : mg "check_tokens" = some (.ref A.f_check_tokens)
  F_copy_into : FunD K "copy_into" "copy_into" (defArgs s_copy_into) (defBody s_copy_into) (defScope s_copy_into) [] [] A.f_copy_into A.fd_copy_into
  b_copy_into : Binds K A.fd_copy_into sP_copy_into []
  m_copy_into : mg "copy_into" = some (.ref A.f_copy_into)
  F_expand : FunD K "expand" "expand" (defArgs s_expand) (defBody s_expand) (defScope s_expand) [] [("before", .ref A.d_expand_before)] A.f_expand A.fd_expand
  dt_expand_before : ∀ H, SqT K H A.d_expand_before []
  m_expand : mg "expand" = some (.ref A.f_expand)
  F_same_length : FunD K "same_length" "same_length" (defArgs s_same_length) (defBody s_same_length) (defScope s_same_length) [] [] A.f_same_length A.fd_same_length
  b_same_length : Binds K A.fd_same_length sP_same_length []
  m_same_length : mg "same_length" = some (.ref A.f_same_length)
  F_Matcher___init__ : FunD K "__init__" "Matcher.__init__" (defArgs s_Matcher___init__) (defBody s_Matcher___init__) (defScope s_Matcher___init__) [] [] A.f_Matcher___init__ A.fd_Matcher___init__
  b_Matcher___init__ : Binds K A.fd_Matcher___init__ sP_Matcher___init__ []
  F_Matcher_learn : FunD K "learn" "Matcher.learn" (defArgs s_Matcher_learn) (defBody s_Matcher_learn) (defScope s_Matcher_learn) [] [] A.f_Matcher_learn A.fd_Matcher_learn
  b_Matcher_learn : Binds K A.fd_Matcher_learn sP_Matcher_learn []
  F_Matcher_longest : FunD K "longest" "Matcher.longest" (defArgs s_Matcher_longest) (defBody s_Matcher_longest) (defScope s_Matcher_longest) [] [] A.f_Matcher_longest A.fd_Matcher_longest
  b_Matcher_longest : Binds K A.fd_Matcher_longest sP_Matcher_longest []
  F_greedy_tokens : FunD K "greedy_tokens" "greedy_tokens" (defArgs s_greedy_tokens) (defBody s_greedy_tokens) (defScope s_greedy_tokens) [] [] A.f_greedy_tokens A.fd_greedy_tokens
  m_greedy_tokens : mg "greedy_tokens" = some (.ref A.f_greedy_tokens)
  F_tokens_behind : FunD K "tokens_behind" "tokens_behind" (defArgs s_tokens_behind) (defBody s_tokens_behind) (defScope s_tokens_behind) [] [] A.f_tokens_behind A.fd_tokens_behind
  b_tokens_behind : Binds K A.fd_tokens_behind sP_tokens_behind []
  m_tokens_behind : mg "tokens_behind" = some (.ref A.f_tokens_behind)
  F_greedy : FunD K "greedy" "greedy" (defArgs s_greedy) (defBody s_greedy) (defScope s_greedy) [] [("before", .ref A.d_greedy_before), ("window", .int 32768)] A.f_greedy A.fd_greedy
  dt_greedy_before : ∀ H, SqT K H A.d_greedy_before []
  m_greedy : mg "greedy" = some (.ref A.f_greedy)
  F__law_bag : FunD K "_law_bag" "_law_bag" (defArgs s__law_bag) (defBody s__law_bag) (defScope s__law_bag) [] [] A.f__law_bag A.fd__law_bag
  b__law_bag : Binds K A.fd__law_bag sP__law_bag []
  m__law_bag : mg "_law_bag" = some (.ref A.f__law_bag)
  F__law_take : FunD K "_law_take" "_law_take" (defArgs s__law_take) (defBody s__law_take) (defScope s__law_take) [] [] A.f__law_take A.fd__law_take
  b__law_take : Binds K A.fd__law_take sP__law_take []
  m__law_take : mg "_law_take" = some (.ref A.f__law_take)
  F__law_one : FunD K "_law_one" "_law_one" (defArgs s__law_one) (defBody s__law_one) (defScope s__law_one) [] [] A.f__law_one A.fd__law_one
  b__law_one : Binds K A.fd__law_one sP__law_one []
  m__law_one : mg "_law_one" = some (.ref A.f__law_one)
  F__law_whole : FunD K "_law_whole" "_law_whole" (defArgs s__law_whole) (defBody s__law_whole) (defScope s__law_whole) [] [] A.f__law_whole A.fd__law_whole
  b__law_whole : Binds K A.fd__law_whole sP__law_whole []
  m__law_whole : mg "_law_whole" = some (.ref A.f__law_whole)
  F__law_odd : FunD K "_law_odd" "_law_odd" (defArgs s__law_odd) (defBody s__law_odd) (defScope s__law_odd) [] [] A.f__law_odd A.fd__law_odd
  b__law_odd : Binds K A.fd__law_odd sP__law_odd []
  m__law_odd : mg "_law_odd" = some (.ref A.f__law_odd)
  F__law_bent : FunD K "_law_bent" "_law_bent" (defArgs s__law_bent) (defBody s__law_bent) (defScope s__law_bent) [] [] A.f__law_bent A.fd__law_bent
  b__law_bent : Binds K A.fd__law_bent sP__law_bent []
  m__law_bent : mg "_law_bent" = some (.ref A.f__law_bent)
  F__law_drawn_data : FunD K "_law_drawn_data" "_law_drawn_data" (defArgs s__law_drawn_data) (defBody s__law_drawn_data) (defScope s__law_drawn_data) [] [] A.f__law_drawn_data A.fd__law_drawn_data
  b__law_drawn_data : Binds K A.fd__law_drawn_data sP__law_drawn_data []
  m__law_drawn_data : mg "_law_drawn_data" = some (.ref A.f__law_drawn_data)
  F__law_data_fault : FunD K "_law_data_fault" "_law_data_fault" (defArgs s__law_data_fault) (defBody s__law_data_fault) (defScope s__law_data_fault) [] [] A.f__law_data_fault A.fd__law_data_fault
  b__law_data_fault : Binds K A.fd__law_data_fault sP__law_data_fault []
  m__law_data_fault : mg "_law_data_fault" = some (.ref A.f__law_data_fault)
  F__law_token : FunD K "_law_token" "_law_token" (defArgs s__law_token) (defBody s__law_token) (defScope s__law_token) [] [] A.f__law_token A.fd__law_token
  b__law_token : Binds K A.fd__law_token sP__law_token []
  m__law_token : mg "_law_token" = some (.ref A.f__law_token)
  F__law_is_token : FunD K "_law_is_token" "_law_is_token" (defArgs s__law_is_token) (defBody s__law_is_token) (defScope s__law_is_token) [] [] A.f__law_is_token A.fd__law_is_token
  b__law_is_token : Binds K A.fd__law_is_token sP__law_is_token []
  m__law_is_token : mg "_law_is_token" = some (.ref A.f__law_is_token)
  F__law_expanded : FunD K "_law_expanded" "_law_expanded" (defArgs s__law_expanded) (defBody s__law_expanded) (defScope s__law_expanded) [] [] A.f__law_expanded A.fd__law_expanded
  b__law_expanded : Binds K A.fd__law_expanded sP__law_expanded []
  m__law_expanded : mg "_law_expanded" = some (.ref A.f__law_expanded)
  F__law_fault : FunD K "_law_fault" "_law_fault" (defArgs s__law_fault) (defBody s__law_fault) (defScope s__law_fault) [] [] A.f__law_fault A.fd__law_fault
  b__law_fault : Binds K A.fd__law_fault sP__law_fault []
  m__law_fault : mg "_law_fault" = some (.ref A.f__law_fault)
  F__law_due : FunD K "_law_due" "_law_due" (defArgs s__law_due) (defBody s__law_due) (defScope s__law_due) [] [] A.f__law_due A.fd__law_due
  b__law_due : Binds K A.fd__law_due sP__law_due []
  m__law_due : mg "_law_due" = some (.ref A.f__law_due)
  F__law_greedy_due : FunD K "_law_greedy_due" "_law_greedy_due" (defArgs s__law_greedy_due) (defBody s__law_greedy_due) (defScope s__law_greedy_due) [] [] A.f__law_greedy_due A.fd__law_greedy_due
  b__law_greedy_due : Binds K A.fd__law_greedy_due sP__law_greedy_due []
  m__law_greedy_due : mg "_law_greedy_due" = some (.ref A.f__law_greedy_due)
  F_law : FunD K "law" "law" (defArgs s_law) (defBody s_law) (defScope s_law) [] [] A.f_law A.fd_law
  hc_law : A.fd_law.code = .ref A.lc_law
  b_law : Binds K A.fd_law sP_law []
  m_law : mg "law" = some (.ref A.f_law)
  b1_greedy : ∃ ds, Vals [.ref A.d_greedy_before, .int 32768] ds ∧ Binds K A.fd_greedy sP_greedy ds
  kb_greedy_tokens_3_floor_window : ∃ g, KBn K A.fd_greedy_tokens sP_greedy_tokens 3 ["floor", "window"] g (fun us ws => [us.getD 0 .non, us.getD 1 .non, us.getD 2 .non, ws.getD 0 .non, ws.getD 1 .non])
  kb_expand_1_before : ∃ g, KBn K A.fd_expand sP_expand 1 ["before"] g (fun us ws => [us.getD 0 .non, ws.getD 0 .non])
  kb_greedy_1_before : ∃ g, KBn K A.fd_greedy sP_greedy 1 ["before"] g (fun us ws => [us.getD 0 .non, ws.getD 0 .non, .int 32768])
  m_MOST_DATA : mg "MOST_DATA" = some (.int 70000 A.t_MOST_DATA)
  m_LEAST_LENGTH : mg "LEAST_LENGTH" = some (.int 3 A.t_LEAST_LENGTH)
  m_MOST_LENGTH : mg "MOST_LENGTH" = some (.int 258 A.t_MOST_LENGTH)
  m_MOST_DISTANCE : mg "MOST_DISTANCE" = some (.int 32768 A.t_MOST_DISTANCE)
  z_ValueError : mg "ValueError" = none
  z_LookupError : mg "LookupError" = none
  z_isinstance : mg "isinstance" = none
  z_int : mg "int" = none
  z_bool : mg "bool" = none
  z_enumerate : mg "enumerate" = none
  z_list : mg "list" = none
  z_len : mg "len" = none
  z_tuple : mg "tuple" = none
  z_range : mg "range" = none
  z_min : mg "min" = none
  z_abs : mg "abs" = none
  z_str : mg "str" = none
  z_max : mg "max" = none
  z_repr : mg "repr" = none
  x_BadData : ExB K mg "BadData" "position" A.x_BadData A.f_BadData___init__ "ValueError" "ValueError.__new__" "ValueError.__init__" tl_ValueError
  x_BadBits : ExB K mg "BadBits" "position" A.x_BadBits A.f_BadBits___init__ "ValueError" "ValueError.__new__" "ValueError.__init__" tl_ValueError
  x_BadToken : ExB K mg "BadToken" "position" A.x_BadToken A.f_BadToken___init__ "ValueError" "ValueError.__new__" "ValueError.__init__" tl_ValueError
  x_Far : ExB K mg "Far" "position" A.x_Far A.f_Far___init__ "LookupError" "LookupError.__new__" "LookupError.__init__" tl_LookupError
  xm_BadData_BadToken : PySem.W.exmOne K (.ref A.x_BadData) (.ref A.x_BadToken) = some false
  xm_Far_BadToken : PySem.W.exmOne K (.ref A.x_Far) (.ref A.x_BadToken) = some false
  xm_Far_BadData : PySem.W.exmOne K (.ref A.x_Far) (.ref A.x_BadData) = some false
  xk_BadToken_BadData : PySem.W.kitOne K (.ref A.x_BadToken) (.ref A.x_BadData) = some false
  xk_BadToken_BadBits : PySem.W.kitOne K (.ref A.x_BadToken) (.ref A.x_BadBits) = some false
  gC_Matcher : mg "Matcher" = some (.ref A.C_Matcher)
  cl_Matcher : Cls K A.C_Matcher
  nf_Matcher_row : NoAttr K A.C_Matcher "row"
  nf_Matcher_window : NoAttr K A.C_Matcher "window"
  nf_Matcher_learned : NoAttr K A.C_Matcher "learned"
  nf_Matcher_places : NoAttr K A.C_Matcher "places"
  M_Matcher : Mk K A.C_Matcher A.f_Matcher___init__
  mt_Matcher_learn : Meth K A.C_Matcher "learn" A.f_Matcher_learn
  mt_Matcher_longest : Meth K A.C_Matcher "longest" A.f_Matcher_longest
  vV_ValueError : PySem.W.findCls K (.type "ValueError") (.type "type") "__init__" = some (.val (.builtin "ValueError.__init__"))
  vV_LookupError : PySem.W.findCls K (.type "LookupError") (.type "type") "__init__" = some (.val (.builtin "LookupError.__init__"))
def tabs_all (A : Adr) : List (Addr × Str) := [(A.lP_law, (envOfC "law" (defScope s_law) 0 A.f_law (.ref A.lc_law)).qual ++ "<lambda>")]
theorem tabs_law_mem (A : Adr) : (A.lP_law, (envOfC "law" (defScope s_law) 0 A.f_law (.ref A.lc_law)).qual ++ "<lambda>") ∈ tabs_all A := by simp [tabs_all]
section
variable {P : Program} {w : World} {K : PySem.W.Frag} {mg : Str → Option Value} {base : Heap} {A : Adr}
/-! ### draws -/
def BagI : HO → Prop := fun o => ∃ x y z : Int, o = .lst [.int x, .int y, .int z] ∧ 0 ≤ x ∧ 0 ≤ y ∧ y ≤ 2147483600
def sp_take : Sp := fun vs H Q _ => ∃ G W b m, Wd G W H ∧ (b, BagI) ∈ W ∧ vs = [.ref b, .int m] ∧ 0 < m ∧ m < 1073741824 ∧ ∀ r H', 0 ≤ r → r < m → Wd G W H' → Q (.int r) H'
theorem ok__law_take (T : Txt K mg A) : FnOk P w K mg base CX0 1 A.f__law_take A.fd__law_take sP__law_take sp_take := by
  refine okD T.F__law_take sc__law_take (fun vs H Q E h => ?_) (fun cdv Ar outer s H vs Q E hr h => ⟨_, (pss_cons (ps_if (pt_cmpR op_gt (pe_ix ix_list (pv 0) (pe_int) (fun _ _ => rfl)) (pe_int) (nomark _)) (pss_cons (ps_set (i := 2) sc__law_take.nd rfl (Or.inl rfl) (pe_op op_mod (pe_ix ix_list (pv 0) (pe_int) (fun _ _ => rfl)) (pv 1)))
      (pss_cons (ps_asg (pe_op op_fdiv (pe_ix ix_list (pv 0) (pe_int) (fun _ _ => rfl)) (pv 1)) (pg_sub (pv 0) (pe_int) set_list))
      (pss_one (ps_ret (pv 2))))) pss_nil)
      (pss_cons (ps_asg (pe_op op_add (pe_ix ix_list (pv 0) (pe_int) (fun _ _ => rfl)) (pe_int)) (pg_sub (pv 0) (pe_int) set_list))
      (pss_cons (ps_asg (pe_op op_add (pe_op op_mod (pe_op op_add (pe_op op_mul (pe_ix ix_list (pv 0) (pe_int) (fun _ _ => rfl)) (pe_int)) (pe_op op_mul (pe_int) (pe_ix ix_list (pv 0) (pe_int) (fun _ _ => rfl)))) (pe_int)) (pe_int)) (pg_sub (pv 0) (pe_int) set_list))
      (pss_one (ps_ret (pe_op op_mod (pe_op op_fdiv (pe_op op_mod (pe_op op_mul (pe_ix ix_list (pv 0) (pe_int) (fun _ _ => rfl)) (pe_op op_add (pe_op op_fdiv (pe_ix ix_list (pv 0) (pe_int) (fun _ _ => rfl)) (pe_int)) (pe_int))) (pe_int)) (pe_int)) (pv 1))))))), ?_⟩)
  · obtain ⟨G, W, b, m, _, _, rfl, _⟩ := h
    rfl
  · obtain ⟨G, W, b, m, w, hm, rfl, h0, h1, k⟩ := h
    obtain ⟨o, hb, x, y, z, rfl, hx, hy, hy2⟩ := w.get hm
    walk_at "zz"
    refine st_ixL (SqL.of hb) rfl ?_
    walk_at "zz"
    by_cases hx0 : 0 < x
    · rw [decide_eq_true hx0]
      refine iteT ?_
      walk_at "zz"
      refine st_ixL (SqL.of hb) rfl ?_
      walk_at "zz"
      refine st_ixL (SqL.of hb) rfl ?_
      walk_at "zz"
      refine st_setL hb rfl ?_
      walk_at "zz"
      refine k _ _ (Int.emod_nonneg _ (by omega)) (Int.emod_lt_of_pos _ h0) (w.put' hm ⟨_, _, _, rfl, Int.ediv_nonneg hx (by omega), hy, hy2⟩)
    · rw [decide_eq_false hx0]
      refine iteF ?_
      walk_at "zz"
      refine st_ixL (SqL.of hb) rfl ?_
      walk_at "zz"
      refine st_setL hb rfl ?_
      walk_at "zz"
      refine st_ixL (SqL.of upd_same) rfl ?_
      walk_at "zz"
      refine st_ixL (SqL.of upd_same) rfl ?_
      walk_at "zz"
      refine st_setL upd_same rfl ?_
      walk_at "zz"
      refine st_ixL (SqL.of upd_same) rfl ?_
      walk_at "zz"
      refine st_ixL (SqL.of upd_same) rfl ?_
      walk_at "zz"
      refine k _ _ (Int.emod_nonneg _ (by omega)) (Int.emod_lt_of_pos _ h0) ((w.put' hm ⟨_, _, _, rfl, hx, hy, hy2⟩).put' hm ⟨_, _, _, rfl, hx, ?_, ?_⟩) <;> omega
def sp_bag (K : PySem.W.Frag) : Sp := fun vs H Q _ => ∃ (G : Hp) (W : Wl) (a : Addr) (ns : List Int) (i : Int), Wd G W H ∧ vs = [.ref a, .int i] ∧ SqL K G a (ns.map V.int) ∧ 0 ≤ i ∧ i < 1000000 ∧ ∀ p H', Wd G ((p, BagI) :: W) H' → Q (.ref p) H'
theorem ok__law_bag (T : Txt K mg A) : FnOk P w K mg base CX0 1 A.f__law_bag A.fd__law_bag sP__law_bag (sp_bag K) := by
  refine okD T.F__law_bag sc__law_bag (fun vs H Q E h => ?_) (fun cdv Ar outer s H vs Q E hr h => ⟨_, (pss_cons (ps_set (i := 2) sc__law_bag.nd rfl (Or.inl rfl) (pe_int))
      (pss_cons (ps_if (pt_cmpR op_lt (pv 1) (pe_callB call_len_seq (by rfl) T.z_len PySem.boot_len (pa_cons (pv 0) pa_nil)) (nomark _)) (pss_one (ps_set (i := 2) sc__law_bag.nd rfl (Or.inl rfl) (pe_ix ix_list (pv 0) (pv 1) (fun _ _ => rfl)))) pss_nil)
      (pss_cons (ps_set (i := 3) sc__law_bag.nd rfl (Or.inl rfl) (pe_op op_mul (pe_callB call_abs (by rfl) T.z_abs (by decide +kernel) (pa_cons (pv 2) pa_nil)) (pe_callTy call_int1 (by rfl) T.z_int (by decide +kernel) (pa_cons (pe_cmpR op_ge (pe_callB call_abs (by rfl) T.z_abs (by decide +kernel) (pa_cons (pv 2) pa_nil)) (pe_op op_powW (pe_int) (pe_int)) (nomark _)) pa_nil))))
      (pss_one (ps_ret (pe_lst (pa_cons (pv 3) (pa_cons (pe_op op_add (pe_op op_mod (pe_op op_add (pe_op op_add (pe_op op_mul (pe_op op_mod (pv 2) (pe_int)) (pe_int)) (pe_op op_mul (pe_int) (pv 1))) (pe_int)) (pe_int)) (pe_int)) (pa_cons (pe_int) pa_nil))))))))), ?_⟩)
  · obtain ⟨G, W, a, ns, i, _, rfl, _⟩ := h
    rfl
  · obtain ⟨G, W, a, ns, i, w, rfl, ha, h0, h1, k⟩ := h
    walk_at "zz"
    refine ⟨_, _, rfl, .inl (by walk_at "up"), ?_⟩
    walk_at "zz"
    by_cases hi : i < ((ns.map V.int).length : Int)
    case' pos =>
      rw [decide_eq_true hi]
      refine iteT ?_
      walk_at "zz"
      obtain ⟨n, hn⟩ : ∃ n, ns[i.toNat]? = some n := ⟨_, List.getElem?_eq_getElem (by rw [List.length_map] at hi; omega)⟩
      refine st_ixL (v := .int n) (by walk_at "up") (by rw [show i = (i.toNat : Int) by omega]; exact atI_nat (by rw [List.getElem?_map, hn]; rfl)) ?_
    case' neg =>
      rw [decide_eq_false hi]
      refine iteF ?_
    all_goals
      walk_at "zz"
      refine ⟨_, rfl, ?_⟩
      walk_at "zz"
      refine ⟨_, rfl, ?_⟩
      walk_at "zz"
      refine .inr ⟨_, rfl, ?_⟩
      refine st_i (.inr (by split <;> omega)) ?_
      walk_at "zz"
      refine ⟨small (by simp), fun p hp => k p _ (w.newM hp ⟨_, _, _, rfl, ?_, ?_, ?_⟩)⟩
      · refine Int.mul_nonneg ?_ ?_
        · split <;> omega
        · split <;> omega
      all_goals omega

/-! ### what a token is -/
def sp_one (K : PySem.W.Frag) : Sp := fun vs H Q _ => ∃ (G : Hp) (W : Wl) (b a : Addr) (xs : List V), Wd G W H ∧ (b, BagI) ∈ W ∧ vs = [.ref b, .ref a] ∧ SqL K G a xs ∧ 0 < xs.length ∧ xs.length < 1000 ∧ ∀ v H', v ∈ xs → Wd G W H' → Q v H'
theorem ok__law_one (T : Txt K mg A) : FnOk P w K mg base CX0 2 A.f__law_one A.fd__law_one sP__law_one (sp_one K) := by
  refine okD T.F__law_one sc__law_one (fun vs H Q E h => ?_) (fun cdv Ar outer s H vs Q E hr h => ⟨_, (pss_one (ps_ret (pe_ix ix_list (pv 1) (pe_call (ok__law_take T) (hr.mono (by decide)) rfl T.m__law_take T.F__law_take.kp T.b__law_take .nil pass0 (pa_cons (pv 0) (pa_cons (pe_callB call_len_seq (by rfl) T.z_len PySem.boot_len (pa_cons (pv 1) pa_nil)) pa_nil))) (fun _ _ => rfl)))), ?_⟩)
  · obtain ⟨G, W, b, a, xs, _, _, rfl, _⟩ := h
    rfl
  · obtain ⟨G, W, b, a, xs, w, hm, rfl, ha, h0, h1, k⟩ := h
    walk_at "zz"
    refine ⟨_, _, rfl, .inl (by walk_at "up"), ?_⟩
    walk_at "zz"
    refine ⟨G, W, b, _, w, hm, rfl, by omega, by omega, fun r H1 hr0 hr1 w1 => ?_⟩
    obtain ⟨v, hv⟩ : ∃ v, xs[r.toNat]? = some v := ⟨_, List.getElem?_eq_getElem (by omega)⟩
    refine st_ixL (v := v) (by walk_at "up") (by rw [show r = (r.toNat : Int) by omega]; exact atI_nat hv) ?_
    exact k v H1 (List.mem_of_getElem? hv) w1

/-! ### integers, bytes -/
def sp_is_integer (K : PySem.W.Frag) : Sp := fun vs H Q _ => ∃ x, vs = [x] ∧ Knd K H x ∧ Q (.bl (isInt x)) H
theorem ok_is_integer (T : Txt K mg A) : FnOk P w K mg base CX0 1 A.f_is_integer A.fd_is_integer sP_is_integer (sp_is_integer K) := by
  refine okD T.F_is_integer sc_is_integer (fun vs H Q E h => ?_) (fun cdv Ar outer s H vs Q E hr h => ⟨_, (pss_one (ps_ret ((pe_and (pe_callB call_isi (by rfl) T.z_isinstance (by decide +kernel) (pa_cons (pv 0) (pa_cons (pe_bltn (v := .ty "int") (u := .type "int") (by rfl) T.z_int (by decide +kernel) rfl) pa_nil))) (pe_one (pe_not (pe_callB call_isi (by rfl) T.z_isinstance (by decide +kernel) (pa_cons (pv 0) (pa_cons (pe_bltn (v := .ty "bool") (u := .type "bool") (by rfl) T.z_bool (by decide +kernel) rfl) pa_nil))))))))), ?_⟩)
  · obtain ⟨x, rfl, _⟩ := h
    rfl
  · obtain ⟨x, rfl, hk, k⟩ := h
    obtain ⟨n, b1, b2, ty, e1, e2, e⟩ := hk.ty
    rw [e] at k
    repeat walk_at "z"
    refine ⟨_, _, _, _, b1, rfl, .ty _, ty, kit_ty e1, _, rfl, ?_⟩
    cases b1 with
    | false => exact k
    | true =>
      refine iteT ?_
      repeat walk_at "z"
      exact ⟨_, _, _, _, b2, rfl, .ty _, ty, kit_ty e2, _, rfl, k⟩

def sp_in_range (K : PySem.W.Frag) : Sp := fun vs H Q _ => ∃ x lo hi, vs = [x, .int lo, .int hi] ∧ Knd K H x ∧ Q (.bl (inRange lo hi x)) H
theorem ok_in_range (T : Txt K mg A) : FnOk P w K mg base CX0 2 A.f_in_range A.fd_in_range sP_in_range (sp_in_range K) := by
  refine okD T.F_in_range sc_in_range (fun vs H Q E h => ?_) (fun cdv Ar outer s H vs Q E hr h => ⟨_, (pss_one (ps_ret ((pe_and (pe_call (ok_is_integer T) (hr.mono (by decide)) rfl T.m_is_integer T.F_is_integer.kp T.b_is_integer .nil pass0 (pa_cons (pv 0) pa_nil)) (pe_one (pe_chain op_le op_le (pv 1) (pv 0) (pv 2))))))), ?_⟩)
  · obtain ⟨x, lo, hi, rfl, _⟩ := h
    rfl
  · obtain ⟨x, lo, hi, rfl, hk, k⟩ := h
    repeat walk_at "z"
    refine ⟨_, rfl, hk, _, rfl, ?_⟩
    cases hk with
    | int i =>
      refine iteT ?_
      refine ⟨_, rfl, _, rfl, _, _, rfl, rfl, _, rfl, ?_⟩
      by_cases h1 : lo ≤ i
      · rw [decide_eq_true h1] 
        refine iteT ⟨_, rfl, _, _, rfl, rfl, ?_⟩
        have e : inRange lo hi (.int i) = decide (i ≤ hi) := by simp [inRange, h1]
        rw [e] at k
        exact k
      · rw [decide_eq_false h1]
        have e : inRange lo hi (.int i) = false := by simp [inRange, h1]
        rw [e] at k
        exact iteF k
    | _ => exact iteF k
def sp_is_byte (K : PySem.W.Frag) : Sp := fun vs H Q _ => ∃ x, vs = [x] ∧ Knd K H x ∧ Q (.bl (inRange 0 255 x)) H
theorem ok_is_byte (T : Txt K mg A) : FnOk P w K mg base CX0 3 A.f_is_byte A.fd_is_byte sP_is_byte (sp_is_byte K) := by
  refine okD T.F_is_byte sc_is_byte (fun vs H Q E h => ?_) (fun cdv Ar outer s H vs Q E hr h => ⟨_, (pss_one (ps_ret (pe_call (ok_in_range T) (hr.mono (by decide)) rfl T.m_in_range T.F_in_range.kp T.b_in_range .nil pass0 (pa_cons (pv 0) (pa_cons (pe_int) (pa_cons (pe_int) pa_nil)))))), ?_⟩)
  · obtain ⟨x, rfl, _⟩ := h
    rfl
  · obtain ⟨x, rfl, hk, k⟩ := h
    repeat walk_at "z"
    exact ⟨_, _, _, rfl, hk, k⟩

/-! ### any values: of a size -/
def szL (M : Nat) : PyData → Bool
  | .none => true
  | .bool _ => true
  | .int i => decide (i.natAbs ≤ M)
  | .str z => decide (z.length ≤ 1000)
  | _ => false
def szB (M L : Nat) : Nat → PyData → Bool
  | 0, d => szL M d
  | n + 1, .list ds => decide (ds.length ≤ L) && ds.all (szB M L n)
  | n + 1, .tuple ds => decide (ds.length ≤ L) && ds.all (szB M L n)
  | _ + 1, d => szL M d
theorem sz_leaf {M L n : Nat} {d : PyData} (h : szL M d = true) : szB M L n d = true := by
  cases n with
  | zero => exact h
  | succ n =>
    cases d with
    | list _ => exact nomatch (show false = true from h)
    | tuple _ => exact nomatch (show false = true from h)
    | _ => exact h
theorem leaf_of {M L n : Nat} {d : PyData} (h : szB M L n d = true) (h1 : isLst d = false) (h2 : isTup d = false) : szL M d = true := by
  cases n with
  | zero => exact h
  | succ n =>
    cases d with
    | list _ => exact nomatch (show true = false from h1)
    | tuple _ => exact nomatch (show true = false from h2)
    | _ => exact h
theorem szL_mono {M M' : Nat} (hM : M ≤ M') {d : PyData} (h : szL M d = true) : szL M' d = true := by
  cases d with
  | int i => exact decide_eq_true (Nat.le_trans (of_decide_eq_true h) hM)
  | _ => exact h
theorem szB_mono {M M' L L' : Nat} (hM : M ≤ M') (hL : L ≤ L') : ∀ {n n' : Nat} {d : PyData}, n ≤ n' → szB M L n d = true → szB M' L' n' d = true
  | 0, _, d, _, h => sz_leaf (szL_mono hM h)
  | n + 1, 0, d, hn, _ => by omega
  | n + 1, n' + 1, .list ds, hn, h => by
    have h : (decide (ds.length ≤ L) && ds.all (szB M L n)) = true := h
    rw [Bool.and_eq_true, List.all_eq_true] at h
    show (decide (ds.length ≤ L') && ds.all (szB M' L' n')) = true
    rw [Bool.and_eq_true, List.all_eq_true]
    exact ⟨decide_eq_true (Nat.le_trans (of_decide_eq_true h.1) hL), fun d hd => szB_mono hM hL (by omega) (h.2 d hd)⟩
  | n + 1, n' + 1, .tuple ds, hn, h => by
    have h : (decide (ds.length ≤ L) && ds.all (szB M L n)) = true := h
    rw [Bool.and_eq_true, List.all_eq_true] at h
    show (decide (ds.length ≤ L') && ds.all (szB M' L' n')) = true
    rw [Bool.and_eq_true, List.all_eq_true]
    exact ⟨decide_eq_true (Nat.le_trans (of_decide_eq_true h.1) hL), fun d hd => szB_mono hM hL (by omega) (h.2 d hd)⟩
  | n + 1, n' + 1, .none, _, _ => rfl
  | n + 1, n' + 1, .bool _, _, _ => rfl
  | n + 1, n' + 1, .int _, _, h => szL_mono hM h
  | n + 1, n' + 1, .str _, _, h => h
  | n + 1, n' + 1, .dict _, _, h => nomatch h
def SomeS (M L n : Nat) (K : PySem.W.Frag) (G : Hp) (v : V) : Prop := ∃ d, Dp K G v d ∧ szB M L n d = true
theorem SomeS.up {M L n : Nat} {G G' : Hp} {v : V} (e : Same G G') (h : SomeS M L n K G v) : SomeS M L n K G' v := let ⟨d, h1, h2⟩ := h; ⟨d, dmono e h1, h2⟩
theorem SomeS.mono {M M' L L' n n' : Nat} {G : Hp} {v : V} (h : SomeS M L n K G v) (hM : M ≤ M') (hL : L ≤ L') (hn : n ≤ n') : SomeS M' L' n' K G v := let ⟨d, h1, h2⟩ := h; ⟨d, h1, szB_mono hM hL hn h2⟩
theorem allS {M L n : Nat} {G : Hp} : ∀ {xs : List V}, (∀ x ∈ xs, SomeS M L n K G x) → ∃ ds, DpAll K G xs ds ∧ ds.all (szB M L n) = true ∧ ds.length = xs.length
  | [], _ => ⟨[], .nil, rfl, rfl⟩
  | x :: xs, h => by
    obtain ⟨d, h1, h2⟩ := h x List.mem_cons_self
    obtain ⟨ds, h3, h4, h5⟩ := allS fun y hy => h y (List.mem_cons_of_mem _ hy)
    exact ⟨d :: ds, .cons h1 h3, by rw [List.all_cons, h2, h4]; rfl, by rw [List.length_cons, List.length_cons, h5]⟩
theorem SomeS.lst {M L n : Nat} {G : Hp} {a : Addr} {xs : List V} (hs : SqL K G a xs) (h : ∀ x ∈ xs, SomeS M L n K G x) (hl : xs.length ≤ L) : SomeS M L (n + 1) K G (.ref a) := by
  obtain ⟨ds, h1, h2, h3⟩ := allS h
  refine ⟨_, .lst hs h1, ?_⟩
  show (decide (ds.length ≤ L) && ds.all (szB M L n)) = true
  rw [h2, decide_eq_true (show ds.length ≤ L by omega)]
  rfl
theorem SomeS.tup {M L n : Nat} {G : Hp} {a : Addr} {xs : List V} (hs : SqT K G a xs) (h : ∀ x ∈ xs, SomeS M L n K G x) (hl : xs.length ≤ L) : SomeS M L (n + 1) K G (.ref a) := by
  obtain ⟨ds, h1, h2, h3⟩ := allS h
  refine ⟨_, .tup hs h1, ?_⟩
  show (decide (ds.length ≤ L) && ds.all (szB M L n)) = true
  rw [h2, decide_eq_true (show ds.length ≤ L by omega)]
  rfl
theorem items_of {M L n : Nat} {G : Hp} : ∀ {xs : List V} {ds : List PyData}, DpAll K G xs ds → ds.all (szB M L n) = true → ∀ x ∈ xs, SomeS M L n K G x
  | _, _, .nil, _ => fun _ h => nomatch h
  | _, _, .cons h1 t, hz => fun x hx => by
    rw [List.all_cons, Bool.and_eq_true] at hz
    rcases List.mem_cons.mp hx with rfl | hx
    · exact ⟨_, h1, hz.1⟩
    · exact items_of t hz.2 x hx
theorem dpA_len {H : Hp} : ∀ {xs : List V} {ds : List PyData}, DpAll K H xs ds → xs.length = ds.length
  | _, _, .nil => rfl
  | _, _, .cons _ t => by rw [List.length_cons, List.length_cons, dpA_len t]
/-- a list or a tuple of values of that size -/
theorem seq_of {M L n : Nat} {G : Hp} {v : V} {d : PyData} (hd : Dp K G v d) (hz : szB M L n d = true) (h : (isLst d || isTup d) = true) : ∃ a xs m, v = .ref a ∧ n = m + 1 ∧ ((isLst d = true ∧ SqL K G a xs) ∨ (isLst d = false ∧ SqT K G a xs)) ∧ (∀ x ∈ xs, SomeS M L m K G x) ∧ xs.length ≤ L := by
  cases hd with
  | lst hs hall =>
    cases n with
    | zero => exact nomatch hz
    | succ n =>
      rename_i a xs ds
      have hz : (decide (ds.length ≤ L) && ds.all (szB M L n)) = true := hz
      rw [Bool.and_eq_true] at hz
      exact ⟨_, _, n, rfl, rfl, .inl ⟨rfl, hs⟩, items_of hall hz.2, by rw [dpA_len hall]; exact of_decide_eq_true hz.1⟩
  | tup hs hall =>
    cases n with
    | zero => exact nomatch hz
    | succ n =>
      rename_i a xs ds
      have hz : (decide (ds.length ≤ L) && ds.all (szB M L n)) = true := hz
      rw [Bool.and_eq_true] at hz
      exact ⟨_, _, n, rfl, rfl, .inr ⟨rfl, hs⟩, items_of hall hz.2, by rw [dpA_len hall]; exact of_decide_eq_true hz.1⟩
  | _ => exact nomatch h
local macro_rules | `(tactic| walk_at "sz") => `(tactic| first
  | exact trivial
  | (refine' And.intro (Exists.intro _ (And.intro ?a ?b)) ?c; (case a => walk_at "dp"); (case b => decide +kernel); (case c => walk_at "sz")))
def sp_odd (K : PySem.W.Frag) : Sp := fun vs H Q _ => ∃ (G : Hp) (W : Wl) (b : Addr), Wd G W H ∧ (b, BagI) ∈ W ∧ vs = [.ref b] ∧ ∀ v G' H', Same G G' → Wd G' W H' → SomeS (10 ^ 40) 9 2 K G' v → Q v H'
theorem ok__law_odd (T : Txt K mg A) : FnOk P w K mg base CX0 3 A.f__law_odd A.fd__law_odd sP__law_odd (sp_odd K) := by
  refine okD T.F__law_odd sc__law_odd (fun vs H Q E h => ?_) (fun cdv Ar outer s H vs Q E hr h => ⟨_, (pss_cons (ps_set (i := 1) sc__law_odd.nd rfl (Or.inl rfl) (pe_lst (pa_cons (pe_non) (pa_cons (pe_bl) (pa_cons (pe_bl) (pa_cons (pe_int) (pa_cons (pe_int) (pa_cons (pe_int) (pa_cons (pe_un un_neg (pe_int)) (pa_cons (pe_int) (pa_cons (pe_int) (pa_cons (pe_int) (pa_cons (pe_op op_powW (pe_int) (pe_int)) (pa_cons (pe_str) (pa_cons (pe_str) (pa_cons (pe_str) (pa_cons (pe_str) (pa_cons (pe_lst pa_nil) (pa_cons (pe_tup pa_nil) (pa_cons (pe_lst (pa_cons (pe_lst pa_nil) pa_nil)) (pa_cons (pe_tup (pa_cons (pe_tup pa_nil) pa_nil)) pa_nil)))))))))))))))))))))
      (pss_one (ps_ret (pe_call (ok__law_one T) (hr.mono (by decide)) rfl T.m__law_one T.F__law_one.kp T.b__law_one .nil pass0 (pa_cons (pv 0) (pa_cons (pe_op op_cat (pv 1) (pe_lst (pa_cons (pe_lst (pa_cons (pe_int) pa_nil)) (pa_cons (pe_tup (pa_cons (pe_int) pa_nil)) (pa_cons (pe_lst (pa_cons (pe_int) pa_nil)) (pa_cons (pe_lst (pa_cons (pe_bl) pa_nil)) (pa_cons (pe_tup (pa_cons (pe_int) (pa_cons (pe_int) pa_nil))) (pa_cons (pe_tup (pa_cons (pe_int) (pa_cons (pe_int) pa_nil))) (pa_cons (pe_tup (pa_cons (pe_int) (pa_cons (pe_int) pa_nil))) (pa_cons (pe_tup (pa_cons (pe_str) pa_nil)) (pa_cons (pe_lst (pa_cons (pe_non) pa_nil)) (pa_cons (pe_str) pa_nil)))))))))))) pa_nil)))))), ?_⟩)
  · obtain ⟨G, W, b, _, _, rfl, _⟩ := h
    rfl
  · obtain ⟨G, W, b, w, hm, rfl, k⟩ := h
    walk_at "zn"
    refine ⟨_, _, b, _, _, by assumption, hm, rfl, SqL.of (by walk_at "up"), by simp, by simp, fun v H2 hv w2 => ?_⟩
    exact k v _ H2 (by walk_at "sm") w2 (AllP.of (P := SomeS (10 ^ 40) 9 2 K _) (by walk_at "sz") v hv)
def sp_whole (K : PySem.W.Frag) : Sp := fun vs H Q _ => ∃ x, vs = [x] ∧ Knd K H x ∧ Q (.bl (isInt x)) H
theorem ok__law_whole (T : Txt K mg A) : FnOk P w K mg base CX0 1 A.f__law_whole A.fd__law_whole sP__law_whole (sp_whole K) := by
  refine okD T.F__law_whole sc__law_whole (fun vs H Q E h => ?_) (fun cdv Ar outer s H vs Q E hr h => ⟨_, (pss_one (ps_ret ((pe_and (pe_callB call_isi (by rfl) T.z_isinstance (by decide +kernel) (pa_cons (pv 0) (pa_cons (pe_bltn (v := .ty "int") (u := .type "int") (by rfl) T.z_int (by decide +kernel) rfl) pa_nil))) (pe_one (pe_not (pe_callB call_isi (by rfl) T.z_isinstance (by decide +kernel) (pa_cons (pv 0) (pa_cons (pe_bltn (v := .ty "bool") (u := .type "bool") (by rfl) T.z_bool (by decide +kernel) rfl) pa_nil))))))))), ?_⟩)
  · obtain ⟨x, rfl, _⟩ := h
    rfl
  · obtain ⟨x, rfl, hk, k⟩ := h
    obtain ⟨n, b1, b2, ty, e1, e2, e⟩ := hk.ty
    rw [e] at k
    repeat walk_at "z"
    refine ⟨_, _, _, _, b1, rfl, .ty _, ty, kit_ty e1, _, rfl, ?_⟩
    cases b1 with
    | false => 
      walk_at "zz"
      exact k
    | true =>
      walk_at "zz"
      exact ⟨_, _, _, _, b2, rfl, .ty _, ty, kit_ty e2, _, rfl, k⟩
def MI : Nat := 10 ^ 11
def MO : Nat := 10 ^ 40
theorem MI_le : MI ≤ MO := by decide
def sp_bent (K : PySem.W.Frag) (m : Nat) : Sp := fun vs H Q _ => ∃ (G : Hp) (W : Wl) (b : Addr) (x : V) (d : PyData) (m' L : Nat), m = m' + 1 ∧ Wd G W H ∧ (b, BagI) ∈ W ∧ vs = [.ref b, x] ∧ Dp K G x d ∧ szB MI L m' d = true ∧ 9 ≤ L ∧ L ≤ 5000 ∧
  ∀ v G' H', Same G G' → Wd G' W H' → SomeS MO (L + 1) (m' + 2) K G' v → Q v H'
theorem at_prev {xs : List V} {r : Int} (h0 : 0 ≤ r) (h1 : r < xs.length) : ∃ y j, atI xs (r - 1) = some y ∧ y ∈ xs ∧ ixN xs.length (r - 1) = some j ∧ j < xs.length := by
  by_cases e : r = 0
  · subst e
    have hj : ixN xs.length (0 - 1) = some (xs.length - 1) := by
      unfold ixN
      rw [if_neg (by decide), if_pos (by omega), show ((0 : Int) - 1 + (xs.length : Int)).toNat = xs.length - 1 by omega]
    refine ⟨xs[xs.length - 1], xs.length - 1, ?_, List.getElem_mem (by omega), hj, by omega⟩
    unfold atI
    rw [hj]
    exact List.getElem?_eq_getElem (by omega)
  · have hj : ixN xs.length (r - 1) = some (r - 1).toNat := ixN_of (by omega) (by omega)
    refine ⟨xs[(r - 1).toNat], _, ?_, List.getElem_mem (by omega), hj, by omega⟩
    unfold atI
    rw [hj]
    exact List.getElem?_eq_getElem (by omega)
theorem mem_set_of {xs : List V} {j : Nat} {v x : V} {R : V → Prop} (h : ∀ y ∈ xs, R y) (hv : R v) (hx : x ∈ xs.set j v) : R x := by
  rcases List.mem_or_eq_of_mem_set hx with hx | rfl
  · exact h x hx
  · exact hv
theorem step_bent (T : Txt K mg A) (m : Nat) (F : FnOk P w K mg base CX0 (4 + m) A.f__law_bent A.fd__law_bent sP__law_bent (sp_bent K m)) : FnOk P w K mg base CX0 (4 + m + 1) A.f__law_bent A.fd__law_bent sP__law_bent (sp_bent K (m + 1)) := by
  refine okD T.F__law_bent sc__law_bent (fun vs H Q E h => ?_) (fun cdv Ar outer s H vs Q E hr h => ⟨_, (pss_cons (ps_set (i := 2) sc__law_bent.nd rfl (Or.inl rfl) (pe_call (ok__law_take T) (hr.mono (by omega)) rfl T.m__law_take T.F__law_take.kp T.b__law_take .nil pass0 (pa_cons (pv 0) (pa_cons (pe_int) pa_nil))))
      (pss_cons (ps_if (PW.pt (pw_or (pt_not (pt_val (pe_callB call_isiT (by rfl) T.z_isinstance (by decide +kernel) (pa_cons (pv 1) (pa_cons (pe_tup (pa_cons (pe_bltn (v := .ty "list") (u := .type "list") (by rfl) T.z_list (by decide +kernel) rfl) (pa_cons (pe_bltn (v := .ty "tuple") (u := .type "tuple") (by rfl) T.z_tuple (by decide +kernel) rfl) pa_nil))) pa_nil))))) (pw_or1 (pt_cmpR op_eq (pe_callB call_len_seq (by rfl) T.z_len PySem.boot_len (pa_cons (pv 1) pa_nil)) (pe_int) (nomark _))))) (pss_cons (ps_if (PW.pt (pw_and (pt_val (pe_call (ok__law_whole T) (hr.mono (by omega)) rfl T.m__law_whole T.F__law_whole.kp T.b__law_whole .nil pass0 (pa_cons (pv 1) pa_nil))) (pw_and1 (pt_cmpR op_lt (pv 2) (pe_int) (nomark _))))) (pss_one (ps_ret (pe_ix ix_list (pe_lst (pa_cons (pe_op op_add (pv 1) (pe_int)) (pa_cons (pe_op op_sub (pv 1) (pe_int)) (pa_cons (pe_cmpR op_eq (pv 1) (pe_int) (nomark _)) (pa_cons (pe_callTy call_str_int (by rfl) T.z_str (by decide +kernel) (pa_cons (pv 1) pa_nil)) (pa_cons (pe_call (ok__law_take T) (hr.mono (by omega)) rfl T.m__law_take T.F__law_take.kp T.b__law_take .nil pass0 (pa_cons (pv 0) (pa_cons (pe_int) pa_nil))) pa_nil)))))) (pv 2) (fun _ _ => rfl)))) pss_nil)
      (pss_one (ps_ret (pe_call (ok__law_odd T) (hr.mono (by omega)) rfl T.m__law_odd T.F__law_odd.kp T.b__law_odd .nil pass0 (pa_cons (pv 0) pa_nil))))) pss_nil)
      (pss_cons (ps_par (i := 3) (j := 4) (by rfl) sc__law_bent.nd rfl rfl (by decide) rfl rfl (pa_cons (pe_callTy call_list_of (by rfl) T.z_list (by decide +kernel) (pa_cons (pv 1) pa_nil)) (pa_cons (pe_call (ok__law_take T) (hr.mono (by omega)) rfl T.m__law_take T.F__law_take.kp T.b__law_take .nil pass0 (pa_cons (pv 0) (pa_cons (pe_callB call_len_seq (by rfl) T.z_len PySem.boot_len (pa_cons (pv 1) pa_nil)) pa_nil))) pa_nil)) (by rfl))
      (C8.pss_cut (ps_if (pt_cmpR op_lt (pv 2) (pe_int) (nomark _)) (pss_one (ps_asg (pe_call F hr rfl T.m__law_bent T.F__law_bent.kp T.b__law_bent .nil pass0 (pa_cons (pv 0) (pa_cons (pe_ix ix_list (pv 3) (pv 4) (fun _ _ => rfl)) pa_nil))) (pg_sub (pv 3) (pv 4) set_list))) (pss_one (ps_if (pt_cmpR op_eq (pv 2) (pe_int) (nomark _)) (pss_one (ps_expr (pe_bm PySem.F.plainAttrs_list PySem.F.slot_list_pop PySem.F.type_list_pop mt_popAt (pv 3) (pa_cons (pv 4) pa_nil)))) (pss_one (ps_if (pt_cmpR op_eq (pv 2) (pe_int) (nomark _)) (pss_one (ps_expr (pe_bm PySem.F.plainAttrs_list PySem.F.slot_list_insert PySem.F.type_list_insert mt_insert (pv 3) (pa_cons (pe_call (ok__law_take T) (hr.mono (by omega)) rfl T.m__law_take T.F__law_take.kp T.b__law_take .nil pass0 (pa_cons (pv 0) (pa_cons (pe_op op_add (pe_callB call_len_seq (by rfl) T.z_len PySem.boot_len (pa_cons (pv 3) pa_nil)) (pe_int)) pa_nil))) (pa_cons (pe_ix ix_list (pv 3) (pv 4) (fun _ _ => rfl)) pa_nil))))) (pss_one (ps_if (pt_cmpR op_eq (pv 2) (pe_int) (nomark _)) (pss_one (ps_asg (pe_tup (pa_cons (pe_ix ix_list (pv 3) (pe_op op_sub (pv 4) (pe_int)) (fun _ _ => rfl)) (pa_cons (pe_ix ix_list (pv 3) (pv 4) (fun _ _ => rfl)) pa_nil))) (pg_tup rfl (pgs_cons (pg_sub (pv 3) (pv 4) set_list) (pgs_cons (pg_sub (pv 3) (pe_op op_sub (pv 4) (pe_int)) set_list) pgs_nil))))) (pss_one (ps_ret (pe_ifExp (pt_val (pe_callB call_isi (by rfl) T.z_isinstance (by decide +kernel) (pa_cons (pv 1) (pa_cons (pe_bltn (v := .ty "list") (u := .type "list") (by rfl) T.z_list (by decide +kernel) rfl) pa_nil)))) (pe_callTy call_tuple_of (by rfl) T.z_tuple (by decide +kernel) (pa_cons (pv 3) pa_nil)) (pv 3)))))))))))
      (pss_one (ps_ret (pe_ifExp (pt_val (pe_callB call_isi (by rfl) T.z_isinstance (by decide +kernel) (pa_cons (pv 1) (pa_cons (pe_bltn (v := .ty "list") (u := .type "list") (by rfl) T.z_list (by decide +kernel) rfl) pa_nil)))) (pv 3) (pe_callTy call_tuple_of (by rfl) T.z_tuple (by decide +kernel) (pa_cons (pv 3) pa_nil))))))))), ?_⟩)
  · obtain ⟨G, W, b, x, d, m', L, _, _, _, rfl, _⟩ := h
    rfl
  · obtain ⟨G, W, b, x, d, m', L, hmm, w, hm, rfl, hd, hz, hL9, hL5, k⟩ := h
    obtain rfl : m = m' := by omega
    walk_at "zz"
    refine ⟨G, W, b, _, w, hm, rfl, by omega, by omega, fun r H1 hr0 hr1 w1 => ?_⟩
    walk_at "zz"
    refine ⟨by decide, NewO.good w1 fun p2 G2 H2 e2 w2 h2 => ?_⟩
    walk_at "zz"
    refine isiLT (hUp w2 h2) (dUp w2 (dmono e2 hd)) ?_
    walk_at "zz"
    have hd2 := dmono e2 hd
    have odd : ∀ {H : Hp} {σ : L2.St}, Wd G2 W H → sp_odd K [.ref b] H (fun v H' => Q v H') E0 := fun {H σ} w => ⟨G2, W, b, w, hm, rfl, fun v G3 H3 e3 w3 hv => k v G3 H3 (e2.trans e3) w3 (hv.mono (Nat.le_refl _) (by omega) (by omega))⟩
    cases hs : (isLst d || isTup d) with
    | false =>
      have h12 := Bool.or_eq_false_iff.mp hs
      have hlf := leaf_of hz h12.1 h12.2
      walk_at "ib"
      walk_at "zz"
      refine ⟨x, rfl, dp_knd (dUp w2 hd2), ?_⟩
      rw [isInt_d hd]
      cases hI : isI d with
      | false =>
        walk_at "zz"
        exact odd (σ := []) w2
      | true =>
        cases hd with
        | int i =>
          have hi : i.natAbs ≤ 10 ^ 11 := of_decide_eq_true hlf
          walk_at "zz"
          refine ite2 (fun hh => ?_) (fun hh => ?_)
          · have hr5 := of_decide_eq_true hh
            walk_at "zz"
            refine ⟨i, rfl, Nat.lt_trans (log_lt (k := 64) (by omega) (by decide)) (by decide), ?_⟩
            walk_at "zz"
            refine ⟨G2, W, b, _, w2, hm, rfl, by omega, by omega, fun r3 H3 hr3 hr4 w3 => ?_⟩
            walk_at "zz"
            refine ⟨small (by simp), NewO.good w3 fun p4 G4 H4 e4 w4 h4 => ?_⟩
            walk_at "zz"
            obtain ⟨v, hv, hvm⟩ := at_some (xs := [V.int (i + 1), .int (i - 1), .bl (decide (V.int i = V.int 1)), .str (toString i), .int r3]) (i := r) hr0 (by simpa using hr5)
            refine st_ixL (SqL.of (hUp w4 h4)) hv ?_
            have hstr : ((toString i : Str)).length ≤ 13 := by
              have := short13 (i := i) (by omega)
              unfold PyData.shown at this
              exact this
            have hint : ∀ {j : Int}, j.natAbs ≤ 10 ^ 12 → SomeS MO (L + 1) (m + 2) K G4 (.int j) := fun {j} h => ⟨_, .int _, sz_leaf (decide_eq_true (Nat.le_trans h (by decide)))⟩
            have hall : AllP (SomeS MO (L + 1) (m + 2) K G4) [V.int (i + 1), .int (i - 1), .bl (decide (V.int i = V.int 1)), .str (toString i), .int r3] :=
              ⟨hint (by omega), hint (by omega), ⟨_, .bl _, sz_leaf rfl⟩, ⟨_, .str _, sz_leaf (decide_eq_true (by omega))⟩, hint (by omega), trivial⟩
            exact k v G4 H4 (by walk_at "sm") w4 (AllP.of hall v hvm)
          · walk_at "zz"
            exact odd (σ := []) w2
        | _ => exact nomatch hI
    | true =>
      obtain ⟨t, xs, mm, rfl, rfl, hsq, hxs, hxl⟩ := seq_of hd2 hz hs
      have hsq2 : ∀ {G' H' : Hp} {W' : Wl}, Same G2 G' → Wd G' W' H' → (SqL K H' t xs ∨ SqT K H' t xs) := fun {G' H' W'} e w => hsq.imp (fun h => seq_up w (e.seq h.2)) fun h => tup_up w (seqT e h.2)
      walk_at "ib"
      walk_at "zz"
      refine ⟨t, _, rfl, hsq2 (Same.refl _) w2, ?_⟩
      walk_at "zz"
      by_cases h0 : xs.length = 0
      · rw [decide_eq_true (show V.int (xs.length : Int) = V.int 0 by rw [h0]; rfl)]
        walk_at "zz"
        refine ⟨.ref t, rfl, dp_knd (dUp w2 hd2), ?_⟩
        dsimp only [isInt]
        walk_at "zz"
        exact odd (σ := []) w2
      · rw [decide_eq_false (show ¬ V.int (xs.length : Int) = V.int 0 from fun e => h0 (by injection e with e; omega))]
        walk_at "zz"
        refine ⟨t, _, rfl, hsq2 (Same.refl _) w2, fun l hl => ?_⟩
        have w3 : Wd G2 ((l, Is (.lst xs)) :: W) (upd H2 l (.lst xs)) := w2.newM hl rfl
        generalize upd H2 l (.lst xs) = H3 at w3
        have hm3 : (b, BagI) ∈ ((l, Is (.lst xs)) :: W) := List.mem_cons_of_mem _ hm
        walk_at "zz"
        refine ⟨t, _, rfl, hsq2 (Same.refl _) w3, ?_⟩
        walk_at "zz"
        refine ⟨G2, _, b, _, w3, hm3, rfl, by omega, by omega, fun r4 H4 hr4 hr5 w4 => ?_⟩
        walk_at "zz"
        have h4 := Wd.is1 w4
        obtain ⟨y, hy, hym⟩ := at_some hr4 hr5
        have hin : ∀ {G' : Hp}, Same G2 G' → ∀ x ∈ xs, SomeS MO (L + 1) (mm + 2) K G' x := fun {G'} e x hx => ((hxs x hx).mono MI_le (by omega) (by omega)).up e
        refine st_cut (fun σ H => ∃ G' ys, Same G2 G' ∧ Wd G' ((l, Is (.lst ys)) :: W) H ∧ (∀ x ∈ ys, SomeS MO (L + 1) (mm + 2) K G' x) ∧ ys.length ≤ L + 1 ∧ σ = [some (.ref b), some (.ref t), some (.int r), some (.ref l), some (.int r4)]) ?_ ?_
        · walk_at "zz"
          refine ite2 (fun _ => ?_) (fun _ => ?_)
          · walk_at "zz"
            refine st_ixL (SqL.of h4) hy ?_
            walk_at "zz"
            obtain ⟨dy, hdy, hzy⟩ := hxs y hym
            refine ⟨G2, _, b, y, dy, mm, L, rfl, w4, hm3, rfl, hdy, hzy, hL9, hL5, fun v G5 H5 e5 w5 hv => ?_⟩
            walk_at "zz"
            refine st_setL (Wd.is1 w5) (ixN_of hr4 hr5) ?_
            exact ⟨G5, _, e5, w5.put1, fun z hz => mem_set_of (hin e5) hv hz, by rw [List.length_set]; omega, rfl⟩
          · walk_at "zz"
            refine ite2 (fun _ => ?_) (fun _ => ?_)
            · walk_at "zz"
              refine ⟨tyL' h4, ?_⟩
              walk_at "zz"
              refine ⟨l, xs, r4, r4.toNat, y, rfl, rfl, h4, by omega, by omega, ?_, ?_, G2, _, Same.refl _, w4.put1, fun z hz => hin (Same.refl _) z (List.mem_of_mem_eraseIdx hz), by have := List.length_eraseIdx_le xs r4.toNat; omega, rfl⟩
              · exact (ixN_seq (ixN_of hr4 hr5)).1
              · have hy2 := hy
                unfold atI at hy2
                rw [ixN_of hr4 hr5] at hy2
                exact hy2
            · walk_at "zz"
              refine ite2 (fun _ => ?_) (fun _ => ?_)
              · walk_at "zz"
                refine ⟨tyL' h4, ?_⟩
                walk_at "zz"
                refine ⟨l, _, rfl, .inl (SqL.of h4), ?_⟩
                walk_at "zz"
                refine ⟨G2, _, b, _, w4, hm3, rfl, by omega, by omega, fun r6 H6 hr6 hr7 w6 => ?_⟩
                have h6 := Wd.is1 w6
                walk_at "zz"
                refine st_ixL (SqL.of h6) hy ?_
                walk_at "zz"
                refine ⟨l, _, _, _, rfl, rfl, h6, small' (by omega), hr6, by omega, G2, _, Same.refl _, w6.put1, fun v hv => ?_, ?_, rfl⟩
                · rcases List.mem_append.mp hv with hv | hv
                  · rcases List.mem_append.mp hv with hv | hv
                    · exact hin (Same.refl _) v (List.mem_of_mem_take hv)
                    · rw [List.mem_singleton.mp hv]
                      exact hin (Same.refl _) y hym
                  · exact hin (Same.refl _) v (List.mem_of_mem_drop hv)
                · rw [List.length_append, List.length_append, List.length_take, List.length_drop, List.length_singleton]
                  omega
              · walk_at "zz"
                refine ite2 (fun _ => ?_) (fun _ => ?_)
                · walk_at "zz"
                  obtain ⟨y2, j2, hy2, hym2, hj2, hjl⟩ := at_prev hr4 hr5
                  refine st_ixL (SqL.of h4) hy2 ?_
                  walk_at "zz"
                  refine st_ixL (SqL.of h4) hy ?_
                  walk_at "zz"
                  refine ⟨small (by simp), NewO.good w4 fun p5 G5 H5 e5 w5 h5 => ?_⟩
                  refine st_gtup (SqT.of (hUp w5 h5)) rfl ?_
                  walk_at "zz"
                  refine st_setL (Wd.is1 w5) (ixN_of hr4 hr5) ?_
                  walk_at "zz"
                  refine st_setL upd_same (j := j2) (by rw [List.length_set]; exact hj2) ?_
                  walk_at "zz"
                  exact ⟨G5, _, e5, w5.put1.put1, fun z hz => mem_set_of (fun z hz => mem_set_of (hin e5) (hin e5 _ hym2) hz) (hin e5 _ hym) hz, by rw [List.length_set, List.length_set]; omega, rfl⟩
                · walk_at "zz"
                  walk_at "zi"
                  walk_at "zz"
                  refine isiD (dUp w4 hd2) kit_lst ?_
                  rcases hsq with ⟨h1, _⟩ | ⟨h1, _⟩
                  · rw [h1]
                    walk_at "zz"
                    refine ⟨l, xs, rfl, .inl ⟨SqL.of h4, fun t6 ht6 => ?_⟩⟩
                    have w6 := (Wd.drop1 w4).new (o := .tup xs) ht6
                    have e6 : Same G2 (upd G2 t6 (.tup xs)) := same_upd (w4.drop1.free ht6)
                    exact k _ _ _ (e2.trans e6) w6 (SomeS.tup (SqT.of upd_same) (hin e6) (by omega))
                  · rw [h1]
                    walk_at "zz"
                    obtain ⟨o, rfl, ho, e5, w5⟩ := w4.freeze1
                    exact k _ _ H4 (e2.trans e5) w5 (SomeS.lst (SqL.of upd_same) (hin e5) (by omega))
        · rintro σ' H5 ⟨G5, ys, e5, w5, hys, hl5, rfl⟩
          walk_at "zz"
          walk_at "zi"
          walk_at "zz"
          refine isiD (dUp w5 (dmono e5 hd2)) kit_lst ?_
          rcases hsq with ⟨h1, _⟩ | ⟨h1, _⟩
          · rw [h1]
            walk_at "zz"
            obtain ⟨o, rfl, ho, e6, w6⟩ := w5.freeze1
            exact k _ _ H5 ((e2.trans e5).trans e6) w6 (SomeS.lst (SqL.of upd_same) (fun z hz => (hys z hz).up e6) hl5)
          · rw [h1]
            walk_at "zz"
            refine ⟨l, ys, rfl, .inl ⟨SqL.of (Wd.is1 w5), fun t6 ht6 => ?_⟩⟩
            have w6 := (Wd.drop1 w5).new (o := .tup ys) ht6
            have e6 : Same G5 (upd G5 t6 (.tup ys)) := same_upd (w5.drop1.free ht6)
            exact k _ _ _ ((e2.trans e5).trans e6) w6 (SomeS.tup (SqT.of upd_same) (fun z hz => (hys z hz).up e6) hl5)
theorem ok_bent_all (T : Txt K mg A) : ∀ m, FnOk P w K mg base CX0 (4 + m) A.f__law_bent A.fd__law_bent sP__law_bent (sp_bent K m)
  | 0 => ⟨fun vs H Q E h => by obtain ⟨_, _, _, _, _, _, _, hb, _⟩ := h; exact absurd hb (by omega), fun A' outer s H args us vs Q E _ _ _ _ h => by obtain ⟨_, _, _, _, _, _, _, hb, _⟩ := h; exact absurd hb (by omega)⟩
  | m + 1 => step_bent T m (ok_bent_all T m)

def tokB : PyData → Bool
  | .tuple [a, b] => inR 3 258 a && inR 1 32768 b
  | d => inR 0 255 d
def sp_is_token (K : PySem.W.Frag) : Sp := fun vs H Q _ => ∃ x d, vs = [x] ∧ Dp K H x d ∧ Q (.bl (tokB d)) H
theorem inR_seq {lo hi : Int} {d : PyData} (h : isTup d = true) : inR lo hi d = false := by
  cases d with
  | tuple _ => rfl
  | _ => exact nomatch h
theorem tok_no {d : PyData} (h1 : inR 0 255 d = false) (h2 : isTup d = false) : tokB d = false := by
  cases d with
  | tuple _ => exact nomatch h2
  | _ => exact h1
theorem tok_len {ds : List PyData} (h : ds.length ≠ 2) : tokB (.tuple ds) = false := by
  match ds, h with
  | [], _ => rfl
  | [_], _ => rfl
  | [_, _], h => exact absurd rfl h
  | _ :: _ :: _ :: _, _ => rfl
theorem dpAll_len {H : Hp} : ∀ {xs : List V} {ds : List PyData}, DpAll K H xs ds → xs.length = ds.length
  | _, _, .nil => rfl
  | _, _, .cons _ t => by rw [List.length_cons, List.length_cons, dpAll_len t]
theorem two_of {H : Hp} {xs : List V} {ds : List PyData} (h : DpAll K H xs ds) (hl : ds.length = 2) : ∃ x1 x2 d1 d2, xs = [x1, x2] ∧ ds = [d1, d2] ∧ Dp K H x1 d1 ∧ Dp K H x2 d2 := by
  cases h with
  | nil => exact nomatch hl
  | cons a h =>
    cases h with
    | nil => exact nomatch hl
    | cons b h =>
      cases h with
      | nil => exact ⟨_, _, _, _, rfl, rfl, a, b⟩
      | cons c h =>
        rw [List.length_cons, List.length_cons, List.length_cons] at hl
        omega
theorem ok_is_token (T : Txt K mg A) : FnOk P w K mg base CX0 4 A.f_is_token A.fd_is_token sP_is_token (sp_is_token K) := by
  refine okD T.F_is_token sc_is_token (fun vs H Q E h => ?_) (fun cdv Ar outer s H vs Q E hr h => ⟨_, (pss_cons (ps_if (pt_val (pe_call (ok_is_byte T) (hr.mono (by decide)) rfl T.m_is_byte T.F_is_byte.kp T.b_is_byte .nil pass0 (pa_cons (pv 0) pa_nil))) (pss_one (ps_ret (pe_bl))) pss_nil)
      (pss_cons (ps_if (PW.pt (pw_or (pt_not (pt_val (pe_callB call_isi (by rfl) T.z_isinstance (by decide +kernel) (pa_cons (pv 0) (pa_cons (pe_bltn (v := .ty "tuple") (u := .type "tuple") (by rfl) T.z_tuple (by decide +kernel) rfl) pa_nil))))) (pw_or1 (pt_cmpR op_ne (pe_callB call_len_seq (by rfl) T.z_len PySem.boot_len (pa_cons (pv 0) pa_nil)) (pe_int) (nomark _))))) (pss_one (ps_ret (pe_bl))) pss_nil)
      (pss_one (ps_ret ((pe_and (pe_call (ok_in_range T) (hr.mono (by decide)) rfl T.m_in_range T.F_in_range.kp T.b_in_range .nil pass0 (pa_cons (pe_ix ix_tup (pv 0) (pe_int) (fun _ _ => rfl)) (pa_cons (pe_glob (v := .int 3) rfl T.m_LEAST_LENGTH ⟨_, rfl⟩) (pa_cons (pe_glob (v := .int 258) rfl T.m_MOST_LENGTH ⟨_, rfl⟩) pa_nil)))) (pe_one (pe_call (ok_in_range T) (hr.mono (by decide)) rfl T.m_in_range T.F_in_range.kp T.b_in_range .nil pass0 (pa_cons (pe_ix ix_tup (pv 0) (pe_int) (fun _ _ => rfl)) (pa_cons (pe_int) (pa_cons (pe_glob (v := .int 32768) rfl T.m_MOST_DISTANCE ⟨_, rfl⟩) pa_nil))))))))))), ?_⟩)
  · obtain ⟨x, d, rfl, _⟩ := h
    rfl
  · obtain ⟨x, d, rfl, hd, k⟩ := h
    walk_at "zz"
    refine ⟨x, rfl, dp_knd hd, ?_⟩
    rw [inRange_d hd]
    cases h1 : inR 0 255 d with
    | true =>
      have e : tokB d = true := by
        cases d with
        | int i => exact h1
        | _ => exact nomatch h1
      rw [e] at k
      walk_at "zz"
      exact k
    | false =>
      walk_at "zz"
      refine isiD hd kit_tup ⟨_, rfl, ?_⟩
      cases h2 : isTup d with
      | false =>
        rw [tok_no h1 h2] at k
        walk_at "zz"
        exact k
      | true =>
        cases hd with
        | tup hs hall =>
          rename_i a xs ds
          walk_at "zz"
          refine ⟨_, _, rfl, .inr hs, ?_⟩
          walk_at "zz"
          by_cases hl : ds.length = 2
          · obtain ⟨x1, x2, d1, d2, rfl, rfl, y1, y2⟩ := two_of hall hl
            · walk_at "zz"
              rw [show decide (V.int (([x1, x2] : List V).length : Int) = V.int 2) = true by rfl]
              walk_at "zz"
              refine st_ixT (v := x1) hs rfl ?_
              walk_at "zz"
              refine ⟨x1, _, _, rfl, dp_knd y1, ?_⟩
              rw [inRange_d y1]
              have e : tokB (.tuple [d1, d2]) = (inR 3 258 d1 && inR 1 32768 d2) := rfl
              rw [e] at k
              cases h3 : inR 3 258 d1 with
              | false =>
                rw [h3] at k
                walk_at "zz"
                exact k
              | true =>
                rw [h3] at k
                walk_at "zz"
                refine st_ixT (v := x2) hs rfl ?_
                walk_at "zz"
                refine ⟨x2, _, _, rfl, dp_knd y2, ?_⟩
                rw [inRange_d y2]
                exact k
          · rw [tok_len hl] at k
            rw [decide_eq_false (show ¬ V.int (xs.length : Int) = V.int 2 from fun e => hl (by injection e with e; rw [dpAll_len hall] at e; omega))]
            walk_at "zz"
            exact k
        | _ => exact nomatch h2

/-! ### own exceptions are made -/
theorem ok_BadData___init__ (T : Txt K mg A) : FnOk P w K mg base CX0 1 A.f_BadData___init__ A.fd_BadData___init__ sP_BadData___init__ (sp_init K A.x_BadData "position") := by
  refine okD T.F_BadData___init__ sc_BadData___init__ (fun vs H Q E h => ?_) (fun cdv Ar outer s H vs Q E hr h => ⟨_, (pss_cons (ps_expr (pe_beinit (B := "ValueError") (newId := "ValueError.__new__") (initId := "ValueError.__init__") (bmB := tl_ValueError) bx_ValueError.typ bx_ValueError.stub bx_ValueError.hbt bx_ValueError.hh rfl T.z_ValueError T.vV_ValueError (pa_cons (pv 0) (pa_cons (pe_str) pa_nil))))
      (pss_one (ps_bst (B := "ValueError") (newId := "ValueError.__new__") (initId := "ValueError.__init__") (bmB := tl_ValueError) (pv 0) (pv 1)))), ?_⟩)
  · obtain ⟨a, v, rfl, _⟩ := h
    rfl
  · obtain ⟨a, v, rfl, ha, k⟩ := h
    walk_at "zy"
    refine ⟨a, A.x_BadData, _, rfl, by simp, T.x_BadData.oex, ha, ?_⟩
    walk_at "zy"
    exact ⟨a, A.x_BadData, rfl, T.x_BadData.oex, T.x_BadData.no, ha, fun d h1 h2 => k d h1 h2⟩
theorem ok_BadBits___init__ (T : Txt K mg A) : FnOk P w K mg base CX0 1 A.f_BadBits___init__ A.fd_BadBits___init__ sP_BadBits___init__ (sp_init K A.x_BadBits "position") := by
  refine okD T.F_BadBits___init__ sc_BadBits___init__ (fun vs H Q E h => ?_) (fun cdv Ar outer s H vs Q E hr h => ⟨_, (pss_cons (ps_expr (pe_beinit (B := "ValueError") (newId := "ValueError.__new__") (initId := "ValueError.__init__") (bmB := tl_ValueError) bx_ValueError.typ bx_ValueError.stub bx_ValueError.hbt bx_ValueError.hh rfl T.z_ValueError T.vV_ValueError (pa_cons (pv 0) (pa_cons (pe_str) pa_nil))))
      (pss_one (ps_bst (B := "ValueError") (newId := "ValueError.__new__") (initId := "ValueError.__init__") (bmB := tl_ValueError) (pv 0) (pv 1)))), ?_⟩)
  · obtain ⟨a, v, rfl, _⟩ := h
    rfl
  · obtain ⟨a, v, rfl, ha, k⟩ := h
    walk_at "zy"
    refine ⟨a, A.x_BadBits, _, rfl, by simp, T.x_BadBits.oex, ha, ?_⟩
    walk_at "zy"
    exact ⟨a, A.x_BadBits, rfl, T.x_BadBits.oex, T.x_BadBits.no, ha, fun d h1 h2 => k d h1 h2⟩
theorem ok_BadToken___init__ (T : Txt K mg A) : FnOk P w K mg base CX0 1 A.f_BadToken___init__ A.fd_BadToken___init__ sP_BadToken___init__ (sp_init K A.x_BadToken "position") := by
  refine okD T.F_BadToken___init__ sc_BadToken___init__ (fun vs H Q E h => ?_) (fun cdv Ar outer s H vs Q E hr h => ⟨_, (pss_cons (ps_expr (pe_beinit (B := "ValueError") (newId := "ValueError.__new__") (initId := "ValueError.__init__") (bmB := tl_ValueError) bx_ValueError.typ bx_ValueError.stub bx_ValueError.hbt bx_ValueError.hh rfl T.z_ValueError T.vV_ValueError (pa_cons (pv 0) (pa_cons (pe_str) pa_nil))))
      (pss_one (ps_bst (B := "ValueError") (newId := "ValueError.__new__") (initId := "ValueError.__init__") (bmB := tl_ValueError) (pv 0) (pv 1)))), ?_⟩)
  · obtain ⟨a, v, rfl, _⟩ := h
    rfl
  · obtain ⟨a, v, rfl, ha, k⟩ := h
    walk_at "zy"
    refine ⟨a, A.x_BadToken, _, rfl, by simp, T.x_BadToken.oex, ha, ?_⟩
    walk_at "zy"
    exact ⟨a, A.x_BadToken, rfl, T.x_BadToken.oex, T.x_BadToken.no, ha, fun d h1 h2 => k d h1 h2⟩
theorem ok_Far___init__ (T : Txt K mg A) : FnOk P w K mg base CX0 1 A.f_Far___init__ A.fd_Far___init__ sP_Far___init__ (sp_init K A.x_Far "position") := by
  refine okD T.F_Far___init__ sc_Far___init__ (fun vs H Q E h => ?_) (fun cdv Ar outer s H vs Q E hr h => ⟨_, (pss_cons (ps_expr (pe_beinit (B := "LookupError") (newId := "LookupError.__new__") (initId := "LookupError.__init__") (bmB := tl_LookupError) bx_LookupError.typ bx_LookupError.stub bx_LookupError.hbt bx_LookupError.hh rfl T.z_LookupError T.vV_LookupError (pa_cons (pv 0) (pa_cons (pe_str) pa_nil))))
      (pss_one (ps_bst (B := "LookupError") (newId := "LookupError.__new__") (initId := "LookupError.__init__") (bmB := tl_LookupError) (pv 0) (pv 1)))), ?_⟩)
  · obtain ⟨a, v, rfl, _⟩ := h
    rfl
  · obtain ⟨a, v, rfl, ha, k⟩ := h
    walk_at "zy"
    refine ⟨a, A.x_Far, _, rfl, by simp, T.x_Far.oex, ha, ?_⟩
    walk_at "zy"
    exact ⟨a, A.x_Far, rfl, T.x_Far.oex, T.x_Far.no, ha, fun d h1 h2 => k d h1 h2⟩
/-! ### any values as data or tokens -/
def Byt (ns : List Int) : Prop := ∀ n ∈ ns, 0 ≤ n ∧ n ≤ 255
def badP (p : PyData → Bool) (ds : List PyData) : Option Int := (ds.findIdx? fun d => !p d).map fun (i : Nat) => (i : Int)
def dF : PyData → Option Int
  | .list ds => if 70000 < ds.length then some (-1) else badP (inR 0 255) ds
  | .tuple ds => if 70000 < ds.length then some (-1) else badP (inR 0 255) ds
  | _ => some (-1)
def tF : PyData → Option Int
  | .list ds => badP tokB ds
  | .tuple ds => badP tokB ds
  | _ => some (-1)
theorem dpA_at {H : Hp} : ∀ {xs : List V} {ds : List PyData} {i : Nat} {x : V}, DpAll K H xs ds → xs[i]? = some x → ∃ d, ds[i]? = some d ∧ Dp K H x d
  | _, _, 0, _, .cons h _, e => by cases e; exact ⟨_, rfl, h⟩
  | _, _, i + 1, _, .cons _ t, e => dpA_at (i := i) t e
theorem badP_some {p : PyData → Bool} {ds : List PyData} {i : Nat} {d : PyData} (hd : ds[i]? = some d) (hb : p d = false) (h : ∀ j : Nat, j < i → ∀ e, ds[j]? = some e → p e = true) : badP p ds = some (i : Int) := by
  have hi := (List.getElem?_eq_some_iff.mp hd).1
  have : ds.findIdx? (fun d => !p d) = some i := by
    rw [List.findIdx?_eq_some_iff_getElem]
    refine ⟨hi, ?_, fun j hj => ?_⟩
    · rw [show ds[i] = d from Option.some.inj ((List.getElem?_eq_getElem hi).symm.trans hd), hb]
      rfl
    · rw [h j hj _ (List.getElem?_eq_getElem (Nat.lt_trans hj hi))]
      decide
  unfold badP
  rw [this]
  rfl
theorem badP_none {p : PyData → Bool} {ds : List PyData} (h : ∀ j : Nat, j < ds.length → ∀ e, ds[j]? = some e → p e = true) : badP p ds = none := by
  have : ds.findIdx? (fun d => !p d) = none := by
    rw [List.findIdx?_eq_none_iff]
    intro d hd
    obtain ⟨j, hj⟩ := List.getElem?_of_mem hd
    rw [h j (List.getElem?_eq_some_iff.mp hj).1 d hj]
    rfl
  unfold badP
  rw [this]
  rfl
theorem badP_all {p : PyData → Bool} {ds : List PyData} (h : badP p ds = none) : ∀ d ∈ ds, p d = true := by
  unfold badP at h
  rw [Option.map_eq_none_iff, List.findIdx?_eq_none_iff] at h
  intro d hd
  have := h d hd
  cases hp : p d with
  | true => rfl
  | false =>
    rw [hp] at this
    exact nomatch this
theorem badP_bd {p : PyData → Bool} {ds : List PyData} {i : Int} (h : badP p ds = some i) : 0 ≤ i ∧ i < ds.length := by
  obtain ⟨j, hj, rfl⟩ := Option.map_eq_some_iff.mp h
  have := (List.findIdx?_eq_some_iff_getElem.mp hj).1
  omega
theorem seq_ds {H : Hp} {v : V} {d : PyData} {n L : Nat} (hd : Dp K H v d) (hz : szB MO L n d = true) (hs : (isLst d || isTup d) = true) : ∃ a xs ds, v = .ref a ∧ (SqL K H a xs ∨ SqT K H a xs) ∧ DpAll K H xs ds ∧ (d = .list ds ∨ d = .tuple ds) ∧ xs.length ≤ L := by
  cases hd with
  | lst h1 h2 =>
    rename_i a xs ds
    cases n with
    | zero => exact nomatch (show false = true from hz)
    | succ n =>
      have hz : (decide (ds.length ≤ L) && ds.all (szB MO L n)) = true := hz
      rw [Bool.and_eq_true] at hz
      exact ⟨a, xs, ds, rfl, .inl h1, h2, .inl rfl, by rw [dpA_len h2]; exact of_decide_eq_true hz.1⟩
  | tup h1 h2 =>
    rename_i a xs ds
    cases n with
    | zero => exact nomatch (show false = true from hz)
    | succ n =>
      have hz : (decide (ds.length ≤ L) && ds.all (szB MO L n)) = true := hz
      rw [Bool.and_eq_true] at hz
      exact ⟨a, xs, ds, rfl, .inr h1, h2, .inr rfl, by rw [dpA_len h2]; exact of_decide_eq_true hz.1⟩
  | _ => exact nomatch (show false = true from hs)
theorem nseq {α : Type} {f : PyData → Option α} {x : Option α} {d : PyData} (hs : (isLst d || isTup d) = false) (h : ∀ d, (∀ ds, d ≠ .list ds) → (∀ ds, d ≠ .tuple ds) → f d = x) : f d = x := by
  have h12 := Bool.or_eq_false_iff.mp hs
  refine h d (fun ds e => ?_) fun ds e => ?_
  · subst e
    exact nomatch (show true = false from h12.1)
  · subst e
    exact nomatch (show true = false from h12.2)
theorem dF_no {d : PyData} (hs : (isLst d || isTup d) = false) : dF d = some (-1) := by
  have h12 := Bool.or_eq_false_iff.mp hs
  cases d with
  | list _ => exact nomatch (show true = false from h12.1)
  | tuple _ => exact nomatch (show true = false from h12.2)
  | _ => rfl
theorem tF_no {d : PyData} (hs : (isLst d || isTup d) = false) : tF d = some (-1) := by
  have h12 := Bool.or_eq_false_iff.mp hs
  cases d with
  | list _ => exact nomatch (show true = false from h12.1)
  | tuple _ => exact nomatch (show true = false from h12.2)
  | _ => rfl
theorem ints_of {H : Hp} : ∀ {xs : List V} {ds : List PyData}, DpAll K H xs ds → (∀ d ∈ ds, inR 0 255 d = true) → ∃ ns : List Int, xs = ns.map V.int ∧ ds = ns.map .int ∧ Byt ns
  | _, _, .nil, _ => ⟨[], rfl, rfl, fun _ h => nomatch h⟩
  | _, _, .cons h t, hb => by
    obtain ⟨ns, rfl, rfl, h3⟩ := ints_of t fun d hd => hb d (List.mem_cons_of_mem _ hd)
    have h0 := hb _ List.mem_cons_self
    cases h with
    | int i =>
      have h2 : (decide (0 ≤ i) && decide (i ≤ 255)) = true := h0
      rw [Bool.and_eq_true, decide_eq_true_eq, decide_eq_true_eq] at h2
      refine ⟨i :: ns, rfl, rfl, fun n hn => ?_⟩
      rcases List.mem_cons.mp hn with rfl | hn
      · exact h2
      · exact h3 n hn
    | _ => exact nomatch (show false = true from h0)
def Out (C : Addr) (G : Hp) (W : Wl) (i : Int) (E : XK) : Prop := ∀ d G' H', Same G G' → Wd G' W H' → G' d = some (.xd [("position", .int i)]) → E (.ref C) (some d) H'
/-- data that are these bytes -/
def DOk (d : PyData) (ns : List Int) : Prop := (d = .list (ns.map .int) ∨ d = .tuple (ns.map .int)) ∧ Byt ns
def sp_ckD (K : PySem.W.Frag) (Cx : Addr) : Sp := fun vs H Q E => ∃ (G : Hp) (W : Wl) (v : V) (d : PyData) (n : Nat), Wd G W H ∧ vs = [v] ∧ Dp K G v d ∧ szB MO 80000 n d = true ∧
  (∀ i, dF d = some i → Out Cx G W i E) ∧ (dF d = none → ∀ p ns G' H', DOk d ns → Same G G' → Wd G' ((p, Is (.lst (ns.map V.int))) :: W) H' → Q (.ref p) H')
theorem ok_checked_data (T : Txt K mg A) : FnOk P w K mg base (L2.CX P w) 4 A.f_checked_data A.fd_checked_data sP_checked_data (sp_ckD K A.x_BadData) := by
  refine okX T.F_checked_data sc_checked_data (fun vs H Q E h => ?_) (fun cdv Ar outer s H vs Q E hr h => ⟨_, (pss_cons (ps_if (PW.pt (pw_or (pt_not (pt_val (pe_callB call_isiT (by rfl) T.z_isinstance (by decide +kernel) (pa_cons (pv 0) (pa_cons (pe_tup (pa_cons (pe_bltn (v := .ty "list") (u := .type "list") (by rfl) T.z_list (by decide +kernel) rfl) (pa_cons (pe_bltn (v := .ty "tuple") (u := .type "tuple") (by rfl) T.z_tuple (by decide +kernel) rfl) pa_nil))) pa_nil))))) (pw_or1 (pt_cmpR op_gt (pe_callB call_len_seq (by rfl) T.z_len PySem.boot_len (pa_cons (pv 0) pa_nil)) (pe_glob (v := .int 70000) rfl T.m_MOST_DATA ⟨_, rfl⟩) (nomark _))))) (pss_one (ps_raise rfl (takes_of rfl rfl rfl rfl) (pmk_bex T.x_BadData.oex T.x_BadData.iC T.x_BadData.tI (ok_BadData___init__ T) (hr.mono (by decide)) T.b_BadData___init__ .nil pass0 rfl T.x_BadData.gC (pa_cons (pe_un un_neg (pe_int)) pa_nil)))) pss_nil)
      (pss_cons (ps_for (passes_of rfl) rfl (pi_enumA (by rfl) T.z_enumerate (pa_cons (pv 0) pa_nil)) (pg_tup rfl (pgs_cons (pg_name (i := 1) sc_checked_data.nd rfl (Or.inl rfl)) (pgs_cons (pg_name (i := 2) sc_checked_data.nd rfl (Or.inl rfl)) pgs_nil))) (pss_one (ps_if (pt_not (pt_val (pe_call (ok_is_byte T) (hr.mono (by decide)) rfl T.m_is_byte T.F_is_byte.kp T.b_is_byte .nil pass0 (pa_cons (pv 2) pa_nil)))) (pss_one (ps_raise rfl (takes_of rfl rfl rfl rfl) (pmk_bex T.x_BadData.oex T.x_BadData.iC T.x_BadData.tI (ok_BadData___init__ T) (hr.mono (by decide)) T.b_BadData___init__ .nil pass0 rfl T.x_BadData.gC (pa_cons (pv 1) pa_nil)))) pss_nil)))
      (pss_one (ps_ret (pe_callTy call_list_of (by rfl) T.z_list (by decide +kernel) (pa_cons (pv 0) pa_nil)))))), ?_⟩)
  · obtain ⟨G, W, v, d, n, _, rfl, _⟩ := h
    rfl
  · obtain ⟨G, W, v, d, n, w, rfl, hd, hz, kx, k⟩ := h
    walk_at "zq"
    refine ⟨by decide, NewO.good w fun p G1 H1 e1 w1 hp => ?_⟩
    walk_at "zq"
    refine isiLT (w1.at hp) (dUp w1 (dmono e1 hd)) ?_
    walk_at "zq"
    cases hs : (isLst d || isTup d) with
    | false =>
      have kx := kx _ (dF_no hs)
      walk_at "zq"
      exact ⟨by simp, fun b hb => mk_done w1 (fun d' G' H' e w' hd' => kx d' G' H' (e1.trans e) w' hd') b hb⟩
    | true =>
      obtain ⟨a, xs, ds, rfl, ha, hall, hds, hxl⟩ := seq_ds (dmono e1 hd) hz hs
      have hF : dF d = if 70000 < ds.length then some (-1) else badP (inR 0 255) ds := by rcases hds with rfl | rfl <;> rfl
      rw [hF, ← dpA_len hall] at k kx
      walk_at "zq"
      refine ⟨a, _, rfl, ha.imp (seq_up w1) (tup_up w1), ?_⟩
      walk_at "zq"
      by_cases hl : 70000 < xs.length
      · rw [decide_eq_true (show (70000 : Int) < (xs.length : Int) by omega)]
        rw [if_pos hl] at kx
        have kx := kx _ rfl
        walk_at "zq"
        exact ⟨by simp, fun b hb => mk_done w1 (fun d' G' H' e w' hd' => kx d' G' H' (e1.trans e) w' hd') b hb⟩
      · rw [decide_eq_false (show ¬ (70000 : Int) < (xs.length : Int) by omega)]
        rw [if_neg hl] at k kx
        walk_at "zq"
        refine for_enumA (i1 := 1) (i2 := 2) ha (fun i σ G' W' => W' = W ∧ (∃ y z, σ = [some (.ref a), y, z]) ∧ ∀ j : Nat, j < i → ∀ e, ds[j]? = some e → inR 0 255 e = true) w1 ⟨rfl, ⟨_, _, rfl⟩, fun j hj => absurd hj (Nat.not_lt_zero _)⟩ ?_ ?_
        · rintro i x σ' G2 G3 W' H3 hx e2 ⟨rfl, ⟨x1, x2, rfl⟩, hall0⟩ e3 w3
          obtain ⟨di, hdi, hxd⟩ := dpA_at hall hx
          have hxd3 := dmono (e2.trans e3) hxd
          walk_at "zq"
          refine ⟨x, rfl, dp_knd (dUp w3 hxd3), ?_⟩
          rw [inRange_d hxd3]
          cases hb : inR 0 255 di with
          | false =>
            have kx := kx _ (badP_some hdi hb hall0)
            walk_at "zq"
            exact ⟨by simp, fun b hb => mk_done w3 (fun d' G' H' e w' hd' => kx d' G' H' ((e1.trans (e2.trans e3)).trans e) w' hd') b hb⟩
          | true =>
            walk_at "zq"
            refine st_btw (e2.trans e3) w3 ⟨rfl, ⟨_, _, rfl⟩, fun j hj e he => ?_⟩
            rcases Nat.lt_or_ge j i with z | z
            · exact hall0 j z e he
            · obtain rfl : j = i := by omega
              rw [hdi] at he
              cases he
              exact hb
        · rintro σ' G2 W' H3 e2 w2 ⟨rfl, ⟨x1, x2, rfl⟩, hall0⟩
          have hbn := badP_none (p := inR 0 255) (ds := ds) (by rw [← dpA_len hall]; exact hall0)
          obtain ⟨ns, rfl, rfl, hB⟩ := ints_of hall (badP_all hbn)
          have k := k hbn
          walk_at "zq"
          exact ⟨_, _, rfl, ha.imp (fun h => seq_up w2 (e2.seq h)) (fun h => tup_up w2 (seqT e2 h)), fun l hn => k l ns G2 _ ⟨hds, hB⟩ (e1.trans e2) (w2.newM hn rfl)⟩
def sp_ckT (K : PySem.W.Frag) (Cx : Addr) : Sp := fun vs H Q E => ∃ (G : Hp) (W : Wl) (v : V) (d : PyData) (n : Nat), Wd G W H ∧ vs = [v] ∧ Dp K G v d ∧ szB MO 200 n d = true ∧
  (∀ i, tF d = some i → Out Cx G W i E) ∧ (tF d = none → ∀ G' H', Same G G' → Wd G' W H' → Q .non H')
theorem ok_check_tokens (T : Txt K mg A) : FnOk P w K mg base (L2.CX P w) 5 A.f_check_tokens A.fd_check_tokens sP_check_tokens (sp_ckT K A.x_BadToken) := by
  refine okX T.F_check_tokens sc_check_tokens (fun vs H Q E h => ?_) (fun cdv Ar outer s H vs Q E hr h => ⟨_, (pss_cons (ps_if (pt_not (pt_val (pe_callB call_isiT (by rfl) T.z_isinstance (by decide +kernel) (pa_cons (pv 0) (pa_cons (pe_tup (pa_cons (pe_bltn (v := .ty "list") (u := .type "list") (by rfl) T.z_list (by decide +kernel) rfl) (pa_cons (pe_bltn (v := .ty "tuple") (u := .type "tuple") (by rfl) T.z_tuple (by decide +kernel) rfl) pa_nil))) pa_nil))))) (pss_one (ps_raise rfl (takes_of rfl rfl rfl rfl) (pmk_bex T.x_BadToken.oex T.x_BadToken.iC T.x_BadToken.tI (ok_BadToken___init__ T) (hr.mono (by decide)) T.b_BadToken___init__ .nil pass0 rfl T.x_BadToken.gC (pa_cons (pe_un un_neg (pe_int)) pa_nil)))) pss_nil)
      (pss_one (ps_for (passes_of rfl) rfl (pi_enumA (by rfl) T.z_enumerate (pa_cons (pv 0) pa_nil)) (pg_tup rfl (pgs_cons (pg_name (i := 1) sc_check_tokens.nd rfl (Or.inl rfl)) (pgs_cons (pg_name (i := 2) sc_check_tokens.nd rfl (Or.inl rfl)) pgs_nil))) (pss_one (ps_if (pt_not (pt_val (pe_call (ok_is_token T) (hr.mono (by decide)) rfl T.m_is_token T.F_is_token.kp T.b_is_token .nil pass0 (pa_cons (pv 2) pa_nil)))) (pss_one (ps_raise rfl (takes_of rfl rfl rfl rfl) (pmk_bex T.x_BadToken.oex T.x_BadToken.iC T.x_BadToken.tI (ok_BadToken___init__ T) (hr.mono (by decide)) T.b_BadToken___init__ .nil pass0 rfl T.x_BadToken.gC (pa_cons (pv 1) pa_nil)))) pss_nil))))), ?_⟩)
  · obtain ⟨G, W, v, d, n, _, rfl, _⟩ := h
    rfl
  · obtain ⟨G, W, v, d, n, w, rfl, hd, hz, kx, k⟩ := h
    walk_at "zq"
    refine ⟨by decide, NewO.good w fun p G1 H1 e1 w1 hp => ?_⟩
    walk_at "zq"
    refine isiLT (w1.at hp) (dUp w1 (dmono e1 hd)) ?_
    walk_at "zq"
    cases hs : (isLst d || isTup d) with
    | false =>
      have kx := kx _ (tF_no hs)
      walk_at "zq"
      exact ⟨by simp, fun b hb => mk_done w1 (fun d' G' H' e w' hd' => kx d' G' H' (e1.trans e) w' hd') b hb⟩
    | true =>
      obtain ⟨a, xs, ds, rfl, ha, hall, hds, hxl⟩ := seq_ds (dmono e1 hd) hz hs
      have hF : tF d = badP tokB ds := by rcases hds with rfl | rfl <;> rfl
      rw [hF] at k kx
      walk_at "zq"
      refine for_enumA (i1 := 1) (i2 := 2) ha (fun i σ G' W' => W' = W ∧ (∃ y z, σ = [some (.ref a), y, z]) ∧ ∀ j : Nat, j < i → ∀ e, ds[j]? = some e → tokB e = true) w1 ⟨rfl, ⟨_, _, rfl⟩, fun j hj => absurd hj (Nat.not_lt_zero _)⟩ ?_ ?_
      · rintro i x σ' G2 G3 W' H3 hx e2 ⟨rfl, ⟨x1, x2, rfl⟩, hall0⟩ e3 w3
        obtain ⟨di, hdi, hxd⟩ := dpA_at hall hx
        have hxd3 := dmono (e2.trans e3) hxd
        walk_at "zq"
        refine ⟨x, di, rfl, dUp w3 hxd3, ?_⟩
        cases hb : tokB di with
        | false =>
          have kx := kx _ (badP_some hdi hb hall0)
          walk_at "zq"
          exact ⟨by simp, fun b hb => mk_done w3 (fun d' G' H' e w' hd' => kx d' G' H' ((e1.trans (e2.trans e3)).trans e) w' hd') b hb⟩
        | true =>
          walk_at "zq"
          refine st_btw (e2.trans e3) w3 ⟨rfl, ⟨_, _, rfl⟩, fun j hj e he => ?_⟩
          rcases Nat.lt_or_ge j i with z | z
          · exact hall0 j z e he
          · obtain rfl : j = i := by omega
            rw [hdi] at he
            cases he
            exact hb
      · rintro σ' G2 W' H3 e2 w2 ⟨rfl, ⟨x1, x2, rfl⟩, hall0⟩
        have k := k (badP_none (by rw [← dpA_len hall]; exact hall0))
        walk_at "zq"
        exact k G2 H3 (e1.trans e2) w2

def cp (m : Nat) (row : List Int) : Nat → List Int
  | 0 => row
  | i + 1 => cp m row i ++ [(cp m row i).getD ((cp m row i).length - m) 0]
theorem cp_len (m : Nat) (row : List Int) : ∀ i, (cp m row i).length = row.length + i
  | 0 => rfl
  | i + 1 => by
    unfold cp
    rw [List.length_append, cp_len m row i]
    rfl
def tkrow (d : PyData) (row : List Int) : List Int := match d with
  | .int i => row ++ [i]
  | .tuple [.int l, .int m] => cp m.toNat row l.toNat
  | _ => row
def farB (d : PyData) (row : List Int) : Bool := match d with
  | .tuple [.int _, .int m] => decide ((row.length : Int) < m)
  | _ => false
/-- a token in its bounds -/
def TokB (d : PyData) : Prop := (∃ i, d = .int i ∧ 0 ≤ i ∧ i ≤ 255) ∨ ∃ l m, d = .tuple [.int l, .int m] ∧ 3 ≤ l ∧ l ≤ 258 ∧ 1 ≤ m ∧ m ≤ 32768
theorem TokB.of {d : PyData} (h : tokB d = true) : TokB d := by
  cases d with
  | int i =>
    have h2 : (decide (0 ≤ i) && decide (i ≤ 255)) = true := h
    simp only [Bool.and_eq_true, decide_eq_true_eq] at h2
    exact .inl ⟨i, rfl, h2⟩
  | tuple ds =>
    match ds, h with
    | [], h => exact nomatch h
    | [_], h => exact nomatch h
    | _ :: _ :: _ :: _, h => exact nomatch h
    | [a, b], h =>
      have h1 : (inR 3 258 a && inR 1 32768 b) = true := h
      rw [Bool.and_eq_true] at h1
      obtain ⟨ha, hb⟩ := h1
      cases a with
      | int l =>
        cases b with
        | int m =>
          have ha2 : (decide (3 ≤ l) && decide (l ≤ 258)) = true := ha
          have hb2 : (decide (1 ≤ m) && decide (m ≤ 32768)) = true := hb
          simp only [Bool.and_eq_true, decide_eq_true_eq] at ha2 hb2
          exact .inr ⟨l, m, rfl, ha2.1, ha2.2, hb2.1, hb2.2⟩
        | _ => exact nomatch hb
      | _ => exact nomatch ha
  | _ => exact nomatch h
theorem atI_neg {ns : List Int} {m : Int} (h0 : 0 < m) (h1 : m ≤ ns.length) : atI (ns.map V.int) (-m) = some (.int (ns.getD (ns.length - m.toNat) 0)) := by
  have e : ixN (ns.map V.int).length (-m) = some (ns.length - m.toNat) := by
    rw [List.length_map]
    unfold ixN
    rw [if_neg (by omega), if_pos (by omega)]
    congr 1
    omega
  unfold atI
  rw [e, Option.bind_some, List.getElem?_map, List.getD_eq_getElem?_getD]
  have hlt : ns.length - m.toNat < ns.length := by omega
  rw [List.getElem?_eq_getElem hlt]
  rfl
def sp_copy (K : PySem.W.Frag) : Sp := fun vs H Q _ => ∃ (G : Hp) (W : Wl) (r : Addr) (row : List Int) (x : V) (d : PyData), Wd G ((r, Is (.lst (row.map V.int))) :: W) H ∧ vs = [.ref r, x] ∧ Dp K G x d ∧ TokB d ∧ farB d row = false ∧ row.length ≤ 100000 ∧
  ∀ G' H', Same G G' → Wd G' ((r, Is (.lst ((tkrow d row).map V.int))) :: W) H' → Q .non H'
theorem ok_copy_into (T : Txt K mg A) : FnOk P w K mg base CX0 1 A.f_copy_into A.fd_copy_into sP_copy_into (sp_copy K) := by
  refine okD T.F_copy_into sc_copy_into (fun vs H Q E h => ?_) (fun cdv Ar outer s H vs Q E hr h => ⟨_, (pss_cons (ps_if (pt_val (pe_callB call_isi (by rfl) T.z_isinstance (by decide +kernel) (pa_cons (pv 1) (pa_cons (pe_bltn (v := .ty "int") (u := .type "int") (by rfl) T.z_int (by decide +kernel) rfl) pa_nil)))) (pss_cons (ps_expr (pe_bm PySem.F.plainAttrs_list PySem.F.slot_list_append PySem.F.type_list_append mt_append (pv 0) (pa_cons (pv 1) pa_nil)))
      (pss_one (ps_retN))) pss_nil)
      (pss_cons (ps_asg (pv 1) (pg_tup rfl (pgs_cons (pg_name (i := 2) sc_copy_into.nd rfl (Or.inl rfl)) (pgs_cons (pg_name (i := 3) sc_copy_into.nd rfl (Or.inl rfl)) pgs_nil))))
      (pss_one (ps_for PassesOwn.never rfl (pi_range1 (by rfl) T.z_range (pa_cons (pv 2) pa_nil)) (pg_name (i := 4) sc_copy_into.nd rfl (Or.inl rfl)) (pss_one (ps_expr (pe_bm PySem.F.plainAttrs_list PySem.F.slot_list_append PySem.F.type_list_append mt_append (pv 0) (pa_cons (pe_ix ix_list (pv 0) (pe_un un_neg (pv 3)) (fun _ _ => rfl)) pa_nil)))))))), ?_⟩)
  · obtain ⟨G, W, r, row, x, d, _, rfl, _⟩ := h
    rfl
  · obtain ⟨G, W, r, row, x, d, w, rfl, hd, ht, hf, hl, k⟩ := h
    walk_at "zz"
    rcases ht with ⟨i, rfl, hi⟩ | ⟨l, m, rfl, hl0, hl1, hm0, hm1⟩
    · cases hd
      refine isiD (.int i) (b := true) (show kitB "int" "int" = some true by decide +kernel) ⟨_, rfl, ?_⟩
      walk_at "zz"
      refine ⟨tyL' (Wd.is1 w), ?_⟩
      walk_at "zz"
      refine st_appL (Wd.is1 w) (by rw [List.length_map]; omega) ?_
      walk_at "zz"
      rw [show row.map V.int ++ [V.int i] = (row ++ [i]).map V.int by simp]
      exact k G _ (Same.refl _) w.put1
    · cases hd with
      | tup hs hall =>
        obtain ⟨x1, x2, d1, d2, rfl, e2, y1, y2⟩ := two_of hall rfl
        cases e2
        cases y1
        cases y2
        rename_i t
        refine isiD (.tup (tup_up w hs) (.cons (.int l) (.cons (.int m) .nil))) (b := false) (show kitB "tuple" "int" = some false by decide +kernel) ⟨_, rfl, ?_⟩
        walk_at "zz"
        refine st_gtup (tup_up w hs) rfl ?_
        walk_at "zz"
        have hm : m ≤ row.length := by
          have h2 : decide ((row.length : Int) < m) = false := hf
          have := of_decide_eq_false h2
          omega
        refine for_r1 (by omega) (fun i σ G' W' => W' = (r, Is (.lst ((cp m.toNat row i).map V.int))) :: W ∧ ∃ x4, σ = [some (.ref r), some (.ref t), some (.int l), some (.int m), x4]) w ⟨rfl, _, rfl⟩ ?_ ?_
        · rintro i σ' G1 W1 H1 hi e1 w1 ⟨rfl, x4, rfl⟩
          have hc := cp_len m.toNat row i
          walk_at "zz"
          refine ⟨tyL' (Wd.is1 w1), ?_⟩
          walk_at "zz"
          refine st_ixL (SqL.of (Wd.is1 w1)) (atI_neg (by omega) (by omega)) ?_
          walk_at "zz"
          refine st_appL (Wd.is1 w1) (by rw [List.length_map]; omega) ?_
          refine st_btw (by walk_at "sm") w1.put1 ⟨?_, _, rfl⟩
          rw [show (cp m.toNat row (i + 1)) = cp m.toNat row i ++ [(cp m.toNat row i).getD ((cp m.toNat row i).length - m.toNat) 0] from rfl, List.map_append]
          rfl
        · rintro σ' G1 W1 H1 e1 w1 ⟨rfl, x4, rfl⟩
          walk_at "zz"
          exact k G1 H1 (by walk_at "sm") w1
/-- the row behind the first i tokens -/
def rowAt (ds : List PyData) (row : List Int) (i : Nat) : List Int := (ds.take i).foldl (fun r d => tkrow d r) row
theorem rowAt_succ {ds : List PyData} {row : List Int} {i : Nat} {d : PyData} (h : ds[i]? = some d) : rowAt ds row (i + 1) = tkrow d (rowAt ds row i) := by
  unfold rowAt
  rw [List.take_add_one, h]
  simp
theorem tkrow_len {d : PyData} {row : List Int} (h : TokB d) : (tkrow d row).length ≤ row.length + 258 ∧ row.length ≤ (tkrow d row).length := by
  rcases h with ⟨i, rfl, _⟩ | ⟨l, m, rfl, hl⟩
  · show (row ++ [i]).length ≤ _ ∧ _ ≤ (row ++ [i]).length
    simp
  · show (cp m.toNat row l.toNat).length ≤ _ ∧ _ ≤ (cp m.toNat row l.toNat).length
    rw [cp_len]
    omega
theorem rowAt_len {ds : List PyData} {row : List Int} (h : ∀ d ∈ ds, TokB d) : ∀ i, (rowAt ds row i).length ≤ row.length + 258 * i ∧ row.length ≤ (rowAt ds row i).length
  | 0 => ⟨Nat.le_refl _, Nat.le_refl _⟩
  | i + 1 => by
    have ih := rowAt_len (row := row) h i
    cases e : ds[i]? with
    | some d =>
      rw [rowAt_succ e]
      have := tkrow_len (row := rowAt ds row i) (h d (List.mem_of_getElem? e))
      omega
    | none =>
      have e2 : rowAt ds row (i + 1) = rowAt ds row i := by
        unfold rowAt
        rw [List.take_add_one, e]
        simp
      rw [e2]
      omega
theorem dpAll_get {H : Hp} : ∀ {xs : List V} {ds : List PyData} {i : Nat} {x : V}, DpAll K H xs ds → xs[i]? = some x → ∃ d, ds[i]? = some d ∧ Dp K H x d
  | _, _, 0, _, .cons a _, h => by
    cases h
    exact ⟨_, rfl, a⟩
  | _, _, i + 1, _, .cons _ t, h => dpAll_get (i := i) t h
theorem dpAll_up {G G' : Hp} (e : Same G G') : ∀ {xs : List V} {ds : List PyData}, DpAll K G xs ds → DpAll K G' xs ds
  | _, _, .nil => .nil
  | _, _, .cons a t => .cons (dmono e a) (dpAll_up e t)
theorem st_slLO {G H : Hp} {W : Wl} {Q : VK} {a : Addr} {xs : List V} {lo hi : Option Int} (h : SqL K H a xs) (w : Wd G W H) (q : ∀ p H', Wd G ((p, Is (.lst (cutV xs lo hi))) :: W) H' → Q (.ref p) H') : rSlL K (.ref a) lo hi H Q := ⟨a, xs, rfl, h, NewO.own w q⟩
/-- the i-th token lies too far -/
def FarAt (ds : List PyData) (row : List Int) (i : Nat) : Prop := ∃ d, ds[i]? = some d ∧ farB d (rowAt ds row i) = true
def fF (ds : List PyData) (row : List Int) : Option Nat := (List.range ds.length).find? fun i => farB (ds.getD i .none) (rowAt ds row i)
theorem farAt_iff {ds : List PyData} {row : List Int} {i : Nat} (h : i < ds.length) : FarAt ds row i ↔ farB (ds.getD i .none) (rowAt ds row i) = true := by
  have e : ds[i]? = some (ds.getD i .none) := by
    rw [List.getD_eq_getElem?_getD, List.getElem?_eq_getElem h]
    rfl
  constructor
  · rintro ⟨d, h1, h2⟩
    rw [e] at h1
    cases h1
    exact h2
  · exact fun h2 => ⟨_, e, h2⟩
theorem farAt_lt {ds : List PyData} {row : List Int} {i : Nat} (h : FarAt ds row i) : i < ds.length := let ⟨_, h1, _⟩ := h; (List.getElem?_eq_some_iff.mp h1).1
theorem fF_some {ds : List PyData} {row : List Int} {j : Nat} (h : fF ds row = some j) : FarAt ds row j ∧ ∀ i, i < j → ¬ FarAt ds row i := by
  unfold fF at h
  rw [List.find?_range_eq_some] at h
  obtain ⟨h1, h2, h3⟩ := h
  have hj := List.mem_range.mp h2
  refine ⟨(farAt_iff hj).mpr h1, fun i hi hf => ?_⟩
  have h4 := h3 i hi
  rw [(farAt_iff (by omega)).mp hf] at h4
  exact nomatch h4
theorem fF_none {ds : List PyData} {row : List Int} (h : fF ds row = none) (i : Nat) : ¬ FarAt ds row i := fun hf => by
  unfold fF at h
  rw [List.find?_eq_none] at h
  exact h i (List.mem_range.mpr (farAt_lt hf)) ((farAt_iff (farAt_lt hf)).mp hf)
theorem fF_lt {ds : List PyData} {row : List Int} {j : Nat} (h : fF ds row = some j) : j < ds.length := farAt_lt (fF_some h).1
def itemsD : PyData → List PyData
  | .list ds => ds
  | .tuple ds => ds
  | _ => []
def intsD (d : PyData) : List Int := (itemsD d).map fun | .int i => i | _ => 0
theorem intsD_ok {d : PyData} {ns : List Int} (h : DOk d ns) : intsD d = ns := by
  have e : itemsD d = ns.map .int := by rcases h.1 with rfl | rfl <;> rfl
  unfold intsD
  rw [e, List.map_map]
  exact (List.map_congr_left fun _ _ => rfl).trans (List.map_id ns)
/-- what a call ends with -/
inductive Flt where
  | told
  | tok (i : Int)
  | dat (i : Int)
  | far (i : Int)
def exF (d b : PyData) : Flt := match tF d with
  | some i => .tok i
  | none => match dF b with
    | some i => .dat i
    | none => match fF (itemsD d) (intsD b) with
      | some j => .far (j : Int)
      | none => .told
def grF (d b : PyData) : Flt := match dF d with
  | some i => .dat i
  | none => match dF b with
    | some i => .dat i
    | none => .told
def FltQ (Ct Cd Cf : Addr) (G : Hp) (W : Wl) (Q : VK) (E : XK) : Flt → Prop
  | .told => ∀ v G' H', Same G G' → Wd G' W H' → Q v H'
  | .tok i => Out Ct G W i E
  | .dat i => Out Cd G W i E
  | .far i => Out Cf G W i E
theorem Out.up {C : Addr} {G G1 : Hp} {W : Wl} {i : Int} {E : XK} (h : Out C G W i E) (e : Same G G1) : Out C G1 W i E := fun d G' H' e' w' hd => h d G' H' (e.trans e') w' hd
theorem DOk.len {d : PyData} {ns : List Int} (h : DOk d ns) {L n : Nat} (hz : szB MO L n d = true) : ns.length ≤ L := by
  have go : ∀ (ds : List PyData), (decide (ds.length ≤ L) && ds.all (szB MO L (n - 1))) = true → ds = ns.map .int → ns.length ≤ L := fun ds h1 h2 => by
    rw [Bool.and_eq_true] at h1
    have := of_decide_eq_true h1.1
    rw [h2, List.length_map] at this
    exact this
  cases n with
  | zero => rcases h.1 with rfl | rfl <;> exact nomatch (show false = true from hz)
  | succ n => rcases h.1 with rfl | rfl <;> exact go _ hz rfl
theorem tF_none {d : PyData} (h : tF d = none) : (isLst d || isTup d) = true ∧ ∀ e ∈ itemsD d, tokB e = true := by
  cases d with
  | list ds => exact ⟨rfl, badP_all h⟩
  | tuple ds => exact ⟨rfl, badP_all h⟩
  | _ => exact nomatch h
def sp_exX (K : PySem.W.Frag) (Ct Cd Cf : Addr) : Sp := fun vs H Q E => ∃ (G : Hp) (W : Wl) (v b : V) (d db : PyData) (n m : Nat), Wd G W H ∧ vs = [v, b] ∧ Dp K G v d ∧ szB MO 200 n d = true ∧ Dp K G b db ∧ szB MO 200 m db = true ∧ FltQ Ct Cd Cf G W Q E (exF d db)
theorem ok_expand (T : Txt K mg A) : FnOk P w K mg base (L2.CX P w) 6 A.f_expand A.fd_expand sP_expand (sp_exX K A.x_BadToken A.x_BadData A.x_Far) := by
  refine okX T.F_expand sc_expand (fun vs H Q E h => ?_) (fun cdv Ar outer s H vs Q E hr h => ⟨_, (pss_cons (ps_expr (pe_call (ok_check_tokens T) (hr.mono (by decide)) rfl T.m_check_tokens T.F_check_tokens.kp T.b_check_tokens .nil (passes_call (takes_of rfl rfl rfl rfl) (fun _ _ _ _ h => h)) (pa_cons (pv 0) pa_nil)))
      (pss_cons (ps_set (i := 2) sc_expand.nd rfl (Or.inl rfl) (pe_call (ok_checked_data T) (hr.mono (by decide)) rfl T.m_checked_data T.F_checked_data.kp T.b_checked_data .nil (passes_call (takes_of rfl rfl rfl rfl) (fun _ _ _ _ h => h)) (pa_cons (pv 1) pa_nil)))
      (pss_cons (ps_set (i := 3) sc_expand.nd rfl (Or.inl rfl) (pe_callB call_len_seq (by rfl) T.z_len PySem.boot_len (pa_cons (pv 2) pa_nil)))
      (pss_cons (ps_for (passes_of rfl) rfl (pi_enumA (by rfl) T.z_enumerate (pa_cons (pv 0) pa_nil)) (pg_tup rfl (pgs_cons (pg_name (i := 4) sc_expand.nd rfl (Or.inl rfl)) (pgs_cons (pg_name (i := 5) sc_expand.nd rfl (Or.inl rfl)) pgs_nil))) (pss_cons (ps_if (PW.pt (pw_and (pt_not (pt_val (pe_callB call_isi (by rfl) T.z_isinstance (by decide +kernel) (pa_cons (pv 5) (pa_cons (pe_bltn (v := .ty "int") (u := .type "int") (by rfl) T.z_int (by decide +kernel) rfl) pa_nil))))) (pw_and1 (pt_cmpR op_gt (pe_ix ix_tup (pv 5) (pe_int) (fun _ _ => rfl)) (pe_callB call_len_seq (by rfl) T.z_len PySem.boot_len (pa_cons (pv 2) pa_nil)) (nomark _))))) (pss_one (ps_raise rfl (takes_of rfl rfl rfl rfl) (pmk_bex T.x_Far.oex T.x_Far.iC T.x_Far.tI (ok_Far___init__ T) (hr.mono (by decide)) T.b_Far___init__ .nil pass0 rfl T.x_Far.gC (pa_cons (pv 4) pa_nil)))) pss_nil)
      (pss_one (ps_expr (pe_call (ok_copy_into T) (hr.mono (by decide)) rfl T.m_copy_into T.F_copy_into.kp T.b_copy_into .nil pass0 (pa_cons (pv 2) (pa_cons (pv 5) pa_nil)))))))
      (pss_one (ps_ret (pe_slice sl_list (pv 2) (po_some (pv 3)) po_none))))))), ?_⟩)
  · obtain ⟨G, W, v, b, d, db, n, m, _, rfl, _⟩ := h
    rfl
  · obtain ⟨G, W, v, b, d, db, n, m, w, rfl, hd, hz, hb, hzb, h⟩ := h
    unfold exF at h
    walk_at "zq"
    refine ⟨G, W, v, d, n, w, rfl, hd, hz, fun i hi => ?_, fun ht G1 H1 e1 w1 => ?_⟩
    · rw [hi] at h
      exact h
    rw [ht] at h
    walk_at "zq"
    refine ⟨G1, W, b, db, m, w1, rfl, dmono e1 hb, szB_mono (Nat.le_refl _) (by decide) (Nat.le_refl _) hzb, fun i hi => ?_, fun hbn p2 row G2 H2 hok e2 w2 => ?_⟩
    · rw [hi] at h
      exact Out.up h e1
    have hrow : row.length ≤ 200 := hok.len hzb
    rw [hbn] at h
    rw [intsD_ok hok] at h
    obtain ⟨hsq, htok⟩ := tF_none ht
    obtain ⟨a, xs, ds, rfl, ha, hx, hds, hxl⟩ := seq_ds hd hz hsq
    have hit : itemsD d = ds := by rcases hds with rfl | rfl <;> rfl
    rw [hit] at h htok
    have hB : ∀ d ∈ ds, TokB d := fun d hd => TokB.of (htok d hd)
    walk_at "zq"
    refine ⟨p2, _, rfl, .inl (SqL.of (Wd.is1 w2)), ?_⟩
    walk_at "zq"
    rw [List.length_map]
    have e02 := e1.trans e2
    refine for_enumA (i1 := 4) (i2 := 5) (ha.imp (fun h => e02.seq h) fun h => seqT e02 h) (fun i σ G' W' => W' = (p2, Is (.lst ((rowAt ds row i).map V.int))) :: W ∧ (∀ j, FarAt ds row j → (∀ i, i < j → ¬ FarAt ds row i) → i ≤ j) ∧ ∃ x4 x5, σ = [some (.ref a), some b, some (.ref p2), some (.int row.length), x4, x5]) w2 ⟨rfl, fun _ _ _ => Nat.zero_le _, _, _, rfl⟩ ?_ ?_
    · rintro i y σ' G3 G4 W' H3 hy e3 ⟨rfl, hij, x4, x5, rfl⟩ e4 w4
      obtain ⟨d, hdi, hd0⟩ := dpAll_get hx hy
      have e04 := (e02.trans e3).trans e4
      have hd : Dp K H3 y d := dUp w4 (dmono e04 hd0)
      have hTb := hB d (List.mem_of_getElem? hdi)
      have hrl := rowAt_len (row := row) hB i
      have hix : i < xs.length := (List.getElem?_eq_some_iff.mp hy).1
      have go : farB d (rowAt ds row i) = false → ∀ j, FarAt ds row j → (∀ i, i < j → ¬ FarAt ds row i) → i + 1 ≤ j := fun hf j h1 h2 => by
        have h3 := hij j h1 h2
        rcases Nat.lt_or_ge i j with h | h
        · exact h
        · have : j = i := by omega
          subst this
          obtain ⟨d2, h4, h5⟩ := h1
          rw [hdi] at h4
          cases h4
          rw [hf] at h5
          exact nomatch h5
      walk_at "zq"
      rcases hTb with ⟨i0, rfl, hi0⟩ | ⟨l, m, rfl, hl0, hl1, hm0, hm1⟩
      · cases hd
        refine isiD (.int i0) (b := true) (show kitB "int" "int" = some true by decide +kernel) ⟨_, rfl, ?_⟩
        walk_at "zq"
        refine ⟨G4, W, p2, rowAt ds row i, .int i0, .int i0, w4, rfl, .int i0, .inl ⟨i0, rfl, hi0⟩, rfl, by omega, fun G5 H5 e5 w5 => ?_⟩
        walk_at "zq"
        rw [← rowAt_succ hdi] at w5
        exact st_btw ((e3.trans e4).trans e5) w5 ⟨rfl, go rfl, _, _, rfl⟩
      · have hd4 : Dp K G4 y _ := dmono e04 hd0
        cases hd4 with
        | tup hs hall =>
          obtain ⟨x1, x2, d1, d2, rfl, e9, y1, y2⟩ := two_of hall rfl
          cases e9
          cases y1
          cases y2
          rename_i t
          refine isiD (.tup (tup_up w4 hs) (.cons (.int l) (.cons (.int m) .nil))) (b := false) (show kitB "tuple" "int" = some false by decide +kernel) ⟨_, rfl, ?_⟩
          walk_at "zq"
          refine st_ixT (v := .int m) (tup_up w4 hs) rfl ?_
          walk_at "zq"
          refine ⟨p2, _, rfl, .inl (SqL.of (Wd.is1 w4)), ?_⟩
          walk_at "zq"
          rw [List.length_map]
          by_cases hf : ((rowAt ds row i).length : Int) < m
          · have hF : FarAt ds row i := ⟨_, hdi, decide_eq_true hf⟩
            rw [decide_eq_true hf]
            walk_at "zq"
            cases hfF : fF ds row with
            | none => exact absurd hF (fF_none hfF i)
            | some j =>
              obtain ⟨hj, hj2⟩ := fF_some hfF
              have hle := hij j hj hj2
              have hji : j = i := by
                rcases Nat.lt_or_ge i j with h | h
                · exact absurd hF (hj2 i h)
                · omega
              subst hji
              rw [hfF] at h
              have h : Out A.x_Far G W (j : Int) E := h
              exact ⟨by simp, fun b hb => mk_done w4 (fun d' G' H' e w hd' => h d' G' H' (e04.trans e) (Wd.drop1 w) hd') b hb⟩
          · have hfb : farB (.tuple [.int l, .int m]) (rowAt ds row i) = false := decide_eq_false hf
            rw [decide_eq_false hf]
            walk_at "zq"
            refine ⟨G4, W, p2, rowAt ds row i, .ref t, .tuple [.int l, .int m], w4, rfl, .tup hs (.cons (.int l) (.cons (.int m) .nil)), .inr ⟨l, m, rfl, hl0, hl1, hm0, hm1⟩, hfb, by omega, fun G5 H5 e5 w5 => ?_⟩
            walk_at "zq"
            rw [← rowAt_succ hdi] at w5
            exact st_btw ((e3.trans e4).trans e5) w5 ⟨rfl, go hfb, _, _, rfl⟩
    · rintro σ' G3 W' H3 e3 w3 ⟨rfl, hij, x4, x5, rfl⟩
      have hxl2 : xs.length = ds.length := dpAll_len hx
      cases hfF : fF ds row with
      | none =>
        rw [hfF] at h
        walk_at "zq"
        have hrl := rowAt_len (row := row) hB xs.length
        refine ⟨_, rfl, ?_⟩
        walk_at "zq"
        refine st_slLO (SqL.of (Wd.is1 w3)) w3 fun q H4 w4 => ?_
        exact h _ G3 H4 (e02.trans e3) w4.drop1.drop1
      | some j =>
        obtain ⟨hj, hj2⟩ := fF_some hfF
        have h1 := hij j hj hj2
        have := farAt_lt hj
        omega

/-! ### the longest match, as a plain law -/
def eqL (R : List Int) : Nat → Nat → Nat → Nat
  | _, _, 0 => 0
  | p, o, m + 1 => if R.getD p 0 = R.getD o 0 then eqL R (p + 1) (o + 1) m + 1 else 0
theorem eqL_le (R : List Int) : ∀ (m p o : Nat), eqL R p o m ≤ m
  | 0, _, _ => Nat.le_refl _
  | m + 1, p, o => by
    have ih := eqL_le R m (p + 1) (o + 1)
    unfold eqL
    split <;> omega
theorem eqL_eq (R : List Int) : ∀ (m p o i : Nat), i < eqL R p o m → R.getD (p + i) 0 = R.getD (o + i) 0
  | 0, _, _, i, h => by exact absurd h (Nat.not_lt_zero _)
  | m + 1, p, o, i, h => by
    have h' : i < (if R.getD p 0 = R.getD o 0 then eqL R (p + 1) (o + 1) m + 1 else 0) := h
    split at h'
    · rename_i he
      cases i with
      | zero => exact he
      | succ i =>
        have := eqL_eq R m (p + 1) (o + 1) i (by omega)
        rw [show p + (i + 1) = p + 1 + i by omega, show o + (i + 1) = o + 1 + i by omega]
        exact this
    · omega
/-- behind c equal ones -/
theorem eqL_add (R : List Int) : ∀ (c m p o : Nat), c ≤ m → (∀ i, i < c → R.getD (p + i) 0 = R.getD (o + i) 0) → eqL R p o m = c + eqL R (p + c) (o + c) (m - c)
  | 0, m, p, o, _, _ => by rw [Nat.zero_add]; rfl
  | c + 1, 0, p, o, h, _ => by omega
  | c + 1, m + 1, p, o, h, he => by
    have h0 := he 0 (by omega)
    have ih := eqL_add R c m (p + 1) (o + 1) (by omega) fun i hi => by
      have := he (i + 1) (by omega)
      rw [show p + 1 + i = p + (i + 1) by omega, show o + 1 + i = o + (i + 1) by omega]
      exact this
    show (if R.getD p 0 = R.getD o 0 then _ else _) = _
    rw [if_pos (show R.getD p 0 = R.getD o 0 from h0), ih, show p + (c + 1) = p + 1 + c by omega, show o + (c + 1) = o + 1 + c by omega, show m + 1 - (c + 1) = m - c by omega]
    omega
theorem eqL_stop (R : List Int) {m p o : Nat} (h : R.getD p 0 ≠ R.getD o 0) : eqL R p o m = 0 := by
  cases m with
  | zero => rfl
  | succ m =>
    unfold eqL
    rw [if_neg h]
abbrev Mch := Option (Nat × Nat)
def better (b : Mch) (s : Nat) : Bool := match b with
  | none => true
  | some x => decide (x.1 < s)
def bst (R : List Int) (p m : Nat) (b : Mch) (d : Nat) : Mch := if 3 ≤ eqL R p (p - d) m ∧ better b (eqL R p (p - d) m) = true then some (eqL R p (p - d) m, d) else b
def lng (R : List Int) (win p : Nat) : Mch := (List.range (min p win)).foldl (fun b i => bst R p (min 258 (R.length - p)) b (i + 1)) none
theorem bst_len (R : List Int) (p m : Nat) (b : Mch) (d : Nat) (h : eqL R p (p - d) m < 3) : bst R p m b d = b := by
  unfold bst
  rw [if_neg (by omega)]
theorem bst_full (R : List Int) (p m : Nat) (x : Nat × Nat) (d : Nat) (h : x.1 = m) : bst R p m (some x) d = some x := by
  unfold bst
  have := eqL_le R m p (p - d)
  rw [if_neg fun h2 => ?_]
  have h3 : decide (x.1 < eqL R p (p - d) m) = true := h2.2
  have := of_decide_eq_true h3
  omega
/-- what a match has -/
def MOk (R : List Int) (win p : Nat) (x : Nat × Nat) : Prop := 3 ≤ x.1 ∧ x.1 ≤ 258 ∧ 1 ≤ x.2 ∧ x.2 ≤ p ∧ x.2 ≤ win ∧ p + x.1 ≤ R.length ∧ ∀ i, i < x.1 → R.getD (p + i) 0 = R.getD (p - x.2 + i) 0
theorem lng_ok {R : List Int} {win p : Nat} (hp : p ≤ R.length) {x : Nat × Nat} (h : lng R win p = some x) : MOk R win p x := by
  have key : ∀ n, n ≤ min p win → ∀ x, (List.range n).foldl (fun b i => bst R p (min 258 (R.length - p)) b (i + 1)) none = some x → MOk R win p x := fun n => by
    induction n with
    | zero => intro _ x h; exact nomatch h
    | succ n ih =>
      intro hn x h
      rw [List.range_succ, List.foldl_append] at h
      have h' : bst R p (min 258 (R.length - p)) ((List.range n).foldl (fun b i => bst R p (min 258 (R.length - p)) b (i + 1)) none) (n + 1) = some x := h
      unfold bst at h'
      split at h'
      · rename_i hc
        cases h'
        have hle := eqL_le R (min 258 (R.length - p)) p (p - (n + 1))
        exact ⟨hc.1, by show eqL _ _ _ _ ≤ 258; omega, by show 1 ≤ n + 1; omega, by show n + 1 ≤ p; omega, by show n + 1 ≤ win; omega, by show p + eqL _ _ _ _ ≤ _; omega, fun i hi => eqL_eq R _ _ _ i hi⟩
      · exact ih (by omega) x h'
  exact key _ (Nat.le_refl _) x h
/-! the places of the same three -/
def key3 (R : List Int) (o : Nat) : List Int := (R.drop o).take 3
theorem key3_len {R : List Int} {o p m : Nat} (ho : o < p) (hm : m ≤ R.length - p) (h : key3 R o ≠ key3 R p) : eqL R p o m < 3 := by
  rcases Nat.lt_or_ge (eqL R p o m) 3 with z | z
  · exact z
  · exfalso
    have hle := eqL_le R m p o
    refine h ?_
    have hd : ∀ a, a + 3 ≤ R.length → key3 R a = [R.getD a 0, R.getD (a + 1) 0, R.getD (a + 2) 0] := fun a ha => by
      unfold key3
      refine List.ext_getElem (by simp; omega) fun i h1 h2 => ?_
      have hi : i < 3 := by simpa using h2
      rw [List.getElem_take, List.getElem_drop]
      have hg : ∀ j, j < R.length → R.getD j 0 = R[j]! := fun j hj => by
        rw [List.getD_eq_getElem?_getD, List.getElem?_eq_getElem hj, getElem!_pos R j hj]
        rfl
      match i, hi with
      | 0, _ => simp [List.getD_eq_getElem?_getD, List.getElem?_eq_getElem (show a < R.length by omega)]
      | 1, _ => simp [List.getD_eq_getElem?_getD, List.getElem?_eq_getElem (show a + 1 < R.length by omega)]
      | 2, _ => simp [List.getD_eq_getElem?_getD, List.getElem?_eq_getElem (show a + 2 < R.length by omega)]
    rw [hd o (by omega), hd p (by omega)]
    have e0 := eqL_eq R m p o 0 (by omega)
    have e1 := eqL_eq R m p o 1 (by omega)
    have e2 := eqL_eq R m p o 2 (by omega)
    rw [show p + 0 = p from rfl, show o + 0 = o from rfl] at e0
    rw [e0, e1, e2]
def full (b : Mch) (m : Nat) : Bool := match b with
  | none => false
  | some x => decide (x.1 = m)
def pgo (R : List Int) (p m win : Nat) : List Nat → Mch → Mch
  | [], b => b
  | o :: os, b => if win < p - o ∨ full b m = true then b else pgo R p m win os (bst R p m b (p - o))
theorem fold_full (R : List Int) (p m : Nat) : ∀ (ds : List Nat) (b : Mch), full b m = true → ds.foldl (fun b o => bst R p m b (p - o)) b = b
  | [], _, _ => rfl
  | d :: ds, b, h => by
    cases b with
    | none => exact nomatch h
    | some x =>
      have hx : x.1 = m := of_decide_eq_true h
      rw [List.foldl_cons, bst_full R p m x (p - d) hx]
      exact fold_full R p m ds (some x) h
theorem pgo_fold {R : List Int} {p m win : Nat} (hm : m ≤ R.length - p) : ∀ (os : List Nat) (b : Mch), (∀ o ∈ os, o < p) → os.Pairwise (fun a b => b < a) →
    pgo R p m win (os.filter fun o => decide (key3 R o = key3 R p)) b = (os.filter fun o => decide (p - o ≤ win)).foldl (fun b o => bst R p m b (p - o)) b
  | [], _, _, _ => rfl
  | o :: os, b, hl, hs => by
    have hop := hl o List.mem_cons_self
    have hl' := fun x hx => hl x (List.mem_cons_of_mem _ hx)
    have hs' := List.pairwise_cons.mp hs
    by_cases hk : key3 R o = key3 R p
    · rw [List.filter_cons_of_pos (p := fun o => decide (key3 R o = key3 R p)) (decide_eq_true hk)]
      show (if win < p - o ∨ full b m = true then b else _) = _
      by_cases hw : win < p - o
      · rw [if_pos (Or.inl hw)]
        have e : (o :: os).filter (fun o => decide (p - o ≤ win)) = [] := List.filter_eq_nil_iff.mpr fun x hx => by
          rw [decide_eq_true_eq]
          rcases List.mem_cons.mp hx with rfl | hx
          · omega
          · have := hs'.1 x hx
            omega
        rw [e]
        rfl
      · by_cases hf : full b m = true
        · rw [if_pos (Or.inr hf), fold_full R p m _ b hf]
        · rw [if_neg (by simp [hw, hf]), List.filter_cons_of_pos (p := fun o => decide (p - o ≤ win)) (decide_eq_true (by omega)), List.foldl_cons]
          exact pgo_fold hm os _ hl' hs'.2
    · rw [List.filter_cons_of_neg (p := fun o => decide (key3 R o = key3 R p)) (by rw [decide_eq_true_eq]; exact hk), pgo_fold hm os b hl' hs'.2]
      by_cases hw : p - o ≤ win
      · rw [List.filter_cons_of_pos (p := fun o => decide (p - o ≤ win)) (decide_eq_true hw), List.foldl_cons, bst_len R p m b (p - o)]
        rw [show p - (p - o) = o by omega]
        exact key3_len hop hm hk
      · rw [List.filter_cons_of_neg (p := fun o => decide (p - o ≤ win)) (by rw [decide_eq_true_eq]; exact hw)]
theorem filt_range (win : Nat) : ∀ p : Nat, (List.range p).filter (fun i => decide (i + 1 ≤ win)) = List.range (min p win)
  | 0 => by simp
  | p + 1 => by
    rw [List.range_succ, List.filter_append, filt_range win p]
    by_cases h : p + 1 ≤ win
    · rw [List.filter_cons_of_pos (p := fun i => decide (i + 1 ≤ win)) (decide_eq_true h), Nat.min_eq_left (by omega), Nat.min_eq_left h, List.range_succ]
      rfl
    · rw [List.filter_cons_of_neg (p := fun i => decide (i + 1 ≤ win)) (by rw [decide_eq_true_eq]; exact h), Nat.min_eq_right (show win ≤ p by omega), Nat.min_eq_right (show win ≤ p + 1 by omega), List.filter_nil, List.append_nil]
/-- as the program finds it -/
theorem pgo_lng (R : List Int) (p win : Nat) : pgo R p (min 258 (R.length - p)) win (((List.range p).filter fun o => decide (key3 R o = key3 R p)).reverse) none = lng R win p := by
  rw [← List.filter_reverse, pgo_fold (by omega) _ none (fun o ho => List.mem_range.mp (List.mem_reverse.mp ho)) (List.pairwise_reverse.mpr List.pairwise_lt_range)]
  unfold lng
  have e1 : (List.range p).reverse = (List.range p).map fun i => p - 1 - i := by
    refine List.ext_getElem (by simp) fun i h1 h2 => ?_
    have hi : i < p := by simpa using h1
    rw [List.getElem_reverse, List.getElem_range, List.getElem_map, List.getElem_range, List.length_range]
  rw [e1, List.filter_map, List.foldl_map]
  have e2 : (List.range p).filter ((fun o => decide (p - o ≤ win)) ∘ fun i => p - 1 - i) = List.range (min p win) := by
    rw [← filt_range win p]
    refine List.filter_congr fun i hi => ?_
    have := List.mem_range.mp hi
    show decide (p - (p - 1 - i) ≤ win) = decide (i + 1 ≤ win)
    rw [show p - (p - 1 - i) = i + 1 by omega]
  rw [e2]
  have key : ∀ (l : List Nat), (∀ i ∈ l, i < p) → ∀ b, l.foldl (fun b i => bst R p (min 258 (R.length - p)) b (p - (p - 1 - i))) b = l.foldl (fun b i => bst R p (min 258 (R.length - p)) b (i + 1)) b := fun l => by
    induction l with
    | nil => intro _ b; rfl
    | cons i l ih =>
      intro h b
      rw [List.foldl_cons, List.foldl_cons, show p - (p - 1 - i) = i + 1 by have := h i List.mem_cons_self; omega]
      exact ih (fun x hx => h x (List.mem_cons_of_mem _ hx)) _
  exact key _ (fun i hi => by have := List.mem_range.mp hi; omega) none
/-! ### rows of tokens -/
abbrev Ch := Nat → Mch
def spn (ch : Ch) (p : Nat) : Nat := match ch p with
  | none => 1
  | some x => x.1
def tok (R : List Int) (ch : Ch) (p : Nat) : PyData := match ch p with
  | none => .int (R.getD p 0)
  | some x => .tuple [.int (x.1 : Int), .int (x.2 : Int)]
def toks (R : List Int) (ch : Ch) : Nat → Nat → List PyData
  | 0, _ => []
  | n + 1, p => if p < R.length then tok R ch p :: toks R ch n (p + spn ch p) else []
def pos (ch : Ch) : Nat → Nat → Nat
  | p, 0 => p
  | p, i + 1 => pos ch (p + spn ch p) i
/-- a choice of matches that stand there -/
def Good (R : List Int) (win : Nat) (ch : Ch) : Prop := ∀ p, p ≤ R.length → ∀ x, ch p = some x → MOk R win p x
def chG (R : List Int) (win : Nat) : Ch := lng R win
def chL (R : List Int) (win : Nat) : Ch := fun p => match lng R win p with
  | none => none
  | some x => if (match lng R win (p + 1) with
    | none => false
    | some y => decide (x.1 < y.1)) = true then none else some x
theorem good_G (R : List Int) (win : Nat) : Good R win (chG R win) := fun p hp x h => lng_ok hp h
theorem good_L (R : List Int) (win : Nat) : Good R win (chL R win) := fun p hp x h => by
  unfold chL at h
  cases e : lng R win p with
  | none =>
    rw [e] at h
    exact nomatch h
  | some y =>
    rw [e] at h
    have h' : (if (match lng R win (p + 1) with
      | none => false
      | some z => decide (y.1 < z.1)) = true then none else some y) = some x := h
    by_cases hc : (match lng R win (p + 1) with
      | none => false
      | some z => decide (y.1 < z.1)) = true
    · rw [if_pos hc] at h'
      exact nomatch h'
    · rw [if_neg hc] at h'
      exact lng_ok hp (e.trans h')
theorem spn_ok {R : List Int} {win : Nat} {ch : Ch} (g : Good R win ch) {p : Nat} (hp : p < R.length) : 1 ≤ spn ch p ∧ p + spn ch p ≤ R.length := by
  unfold spn
  cases e : ch p with
  | none => exact ⟨Nat.le_refl _, hp⟩
  | some x =>
    have h := g p (Nat.le_of_lt hp) x e
    unfold MOk at h
    show 1 ≤ x.1 ∧ p + x.1 ≤ R.length
    omega
theorem toks_fuel {R : List Int} {win : Nat} {ch : Ch} (g : Good R win ch) : ∀ (n m p : Nat), R.length - p ≤ n → R.length - p ≤ m → toks R ch n p = toks R ch m p
  | 0, 0, p, _, _ => rfl
  | 0, m + 1, p, h, _ => by
    show [] = if p < R.length then _ else _
    rw [if_neg (by omega)]
  | n + 1, 0, p, _, h => by
    show (if p < R.length then _ else _) = []
    rw [if_neg (by omega)]
  | n + 1, m + 1, p, h1, h2 => by
    show (if p < R.length then _ else _) = if p < R.length then _ else _
    by_cases hp : p < R.length
    · have := spn_ok g hp
      rw [if_pos hp, if_pos hp, toks_fuel g n m (p + spn ch p) (by omega) (by omega)]
    · rw [if_neg hp, if_neg hp]
/-- all tokens from p on -/
def tks (R : List Int) (ch : Ch) (p : Nat) : List PyData := toks R ch (R.length - p) p
theorem tks_cons {R : List Int} {win : Nat} {ch : Ch} (g : Good R win ch) {p : Nat} (hp : p < R.length) : tks R ch p = tok R ch p :: tks R ch (p + spn ch p) := by
  have h := spn_ok g hp
  unfold tks
  rw [show R.length - p = (R.length - p - 1) + 1 by omega]
  show (if p < R.length then _ else _) = _
  rw [if_pos hp, toks_fuel g _ (R.length - (p + spn ch p)) _ (by omega) (Nat.le_refl _)]
theorem tks_end (R : List Int) (ch : Ch) {p : Nat} (hp : R.length ≤ p) : tks R ch p = [] := by
  unfold tks
  rw [show R.length - p = 0 by omega]
  rfl
theorem tks_at {R : List Int} {win : Nat} {ch : Ch} (g : Good R win ch) : ∀ (i p : Nat), p ≤ R.length → ∀ d, (tks R ch p)[i]? = some d → pos ch p i < R.length ∧ p ≤ pos ch p i ∧ d = tok R ch (pos ch p i)
  | i, p, hp, d, h => by
    rcases Nat.lt_or_ge p R.length with hlt | hge
    · rw [tks_cons g hlt] at h
      cases i with
      | zero =>
        cases h
        exact ⟨hlt, Nat.le_refl _, rfl⟩
      | succ i =>
        have hs := spn_ok g hlt
        have := tks_at g i (p + spn ch p) hs.2 d (by simpa using h)
        exact ⟨this.1, Nat.le_trans (Nat.le_add_right _ _) this.2.1, this.2.2⟩
    · rw [tks_end R ch hge] at h
      exact nomatch h
theorem tks_drop {R : List Int} {win : Nat} {ch : Ch} (g : Good R win ch) : ∀ (i p : Nat), p ≤ R.length → i ≤ (tks R ch p).length → (tks R ch p).drop i = tks R ch (pos ch p i) ∧ p ≤ pos ch p i ∧ pos ch p i ≤ R.length
  | 0, p, hp, _ => ⟨rfl, Nat.le_refl _, hp⟩
  | i + 1, p, hp, h => by
    rcases Nat.lt_or_ge p R.length with hlt | hge
    · rw [tks_cons g hlt] at h ⊢
      have hs := spn_ok g hlt
      have ih := tks_drop g i (p + spn ch p) hs.2 (by simpa using h)
      exact ⟨ih.1, by show p ≤ pos ch (p + spn ch p) i; omega, ih.2.2⟩
    · rw [tks_end R ch hge] at h
      simp at h
theorem tks_len {R : List Int} {win : Nat} {ch : Ch} (g : Good R win ch) {p : Nat} (hp : p ≤ R.length) : pos ch p (tks R ch p).length = R.length ∧ (tks R ch p).length ≤ R.length - p := by
  obtain ⟨h1, h2, h3⟩ := tks_drop g (tks R ch p).length p hp (Nat.le_refl _)
  rw [List.drop_length] at h1
  refine ⟨?_, ?_⟩
  · rcases Nat.lt_or_ge (pos ch p (tks R ch p).length) R.length with hlt | hge
    · rw [tks_cons g hlt] at h1
      exact nomatch h1
    · omega
  · have key : ∀ n p, (toks R ch n p).length ≤ n := fun n => by
      induction n with
      | zero => intro p; exact Nat.le_refl _
      | succ n ih =>
        intro p
        show (if p < R.length then _ else _ : List PyData).length ≤ _
        split
        · rw [List.length_cons]
          have := ih (p + spn ch p)
          omega
        · exact Nat.zero_le _
    exact key _ _
theorem pos_add (ch : Ch) : ∀ (i p : Nat), pos ch p (i + 1) = pos ch p i + spn ch (pos ch p i)
  | 0, p => rfl
  | i + 1, p => pos_add ch i (p + spn ch p)
theorem cp_R {R : List Int} {p d : Nat} (hp : d ≤ p) (h1 : 1 ≤ d) : ∀ i : Nat, p + i ≤ R.length → (∀ j, j < i → R.getD (p + j) 0 = R.getD (p - d + j) 0) → cp d (R.take p) i = R.take (p + i)
  | 0, _, _ => rfl
  | i + 1, hl, he => by
    have ih := cp_R hp h1 i (by omega) fun j hj => he j (by omega)
    show cp d (R.take p) i ++ [(cp d (R.take p) i).getD ((cp d (R.take p) i).length - d) 0] = _
    rw [ih, List.length_take, Nat.min_eq_left (by omega)]
    have e1 : (R.take (p + i)).getD (p + i - d) 0 = R.getD (p + i) 0 := by
      rw [he i (by omega), List.getD_eq_getElem?_getD, List.getElem?_take, if_pos (by omega), ← List.getD_eq_getElem?_getD, show p + i - d = p - d + i by omega]
    rw [e1, show p + (i + 1) = p + i + 1 by omega, List.take_add_one, List.getD_eq_getElem?_getD, List.getElem?_eq_getElem (show p + i < R.length by omega)]
    rfl
theorem tkrow_tok {R : List Int} {win : Nat} {ch : Ch} (g : Good R win ch) {p : Nat} (hp : p < R.length) : tkrow (tok R ch p) (R.take p) = R.take (p + spn ch p) := by
  unfold tok spn
  cases e : ch p with
  | none =>
    show R.take p ++ [R.getD p 0] = R.take (p + 1)
    rw [List.take_add_one, List.getD_eq_getElem?_getD, List.getElem?_eq_getElem hp]
    rfl
  | some x =>
    obtain ⟨h1, h2, h3, h4, h5, h6, h7⟩ := g p (Nat.le_of_lt hp) x e
    show cp ((x.2 : Int)).toNat (R.take p) ((x.1 : Int)).toNat = R.take (p + x.1)
    rw [Int.toNat_natCast, Int.toNat_natCast]
    exact cp_R h4 h3 x.1 h6 h7
theorem rowAt_tks {R : List Int} {win : Nat} {ch : Ch} (g : Good R win ch) {p : Nat} (hp : p ≤ R.length) : ∀ i, i ≤ (tks R ch p).length → rowAt (tks R ch p) (R.take p) i = R.take (pos ch p i)
  | 0, _ => rfl
  | i + 1, h => by
    have ih := rowAt_tks g hp i (by omega)
    have hd : (tks R ch p)[i]? = some (tks R ch p)[i] := List.getElem?_eq_getElem (by omega)
    obtain ⟨h1, h2, h3⟩ := tks_at g i p hp _ hd
    rw [rowAt_succ hd, ih, h3, tkrow_tok g h1, pos_add]
theorem tok_ok {R : List Int} {win : Nat} {ch : Ch} (g : Good R win ch) (hb : Byt R) (hw : win ≤ 32768) {p : Nat} (hp : p < R.length) : tokB (tok R ch p) = true ∧ farB (tok R ch p) (R.take p) = false := by
  unfold tok
  cases e : ch p with
  | none =>
    have h := hb (R.getD p 0) (by
      rw [List.getD_eq_getElem?_getD, List.getElem?_eq_getElem hp]
      exact List.getElem_mem _)
    refine ⟨?_, rfl⟩
    show (decide (0 ≤ R.getD p 0) && decide (R.getD p 0 ≤ 255)) = true
    rw [decide_eq_true h.1, decide_eq_true h.2]
    rfl
  | some x =>
    obtain ⟨h1, h2, h3, h4, h5, h6, h7⟩ := g p (Nat.le_of_lt hp) x e
    refine ⟨?_, ?_⟩
    · show ((decide ((3 : Int) ≤ (x.1 : Int)) && decide ((x.1 : Int) ≤ 258)) && (decide ((1 : Int) ≤ (x.2 : Int)) && decide ((x.2 : Int) ≤ 32768))) = true
      rw [decide_eq_true (show (3 : Int) ≤ (x.1 : Int) by omega), decide_eq_true (show (x.1 : Int) ≤ 258 by omega), decide_eq_true (show (1 : Int) ≤ (x.2 : Int) by omega), decide_eq_true (show (x.2 : Int) ≤ 32768 by omega)]
      rfl
    · show decide (((R.take p).length : Int) < (x.2 : Int)) = false
      rw [List.length_take]
      exact decide_eq_false (by omega)
/-- the tokens expand to the row -/
theorem tks_expand {R : List Int} {win : Nat} {ch : Ch} (g : Good R win ch) (hb : Byt R) (hw : win ≤ 32768) {p : Nat} (hp : p ≤ R.length) : (∀ d ∈ tks R ch p, tokB d = true) ∧ (∀ i d, (tks R ch p)[i]? = some d → farB d (rowAt (tks R ch p) (R.take p) i) = false) ∧
    (rowAt (tks R ch p) (R.take p) (tks R ch p).length).drop (R.take p).length = R.drop p := by
  refine ⟨fun d hd => ?_, fun i d hd => ?_, ?_⟩
  · obtain ⟨i, hi⟩ := List.mem_iff_getElem?.mp hd
    obtain ⟨h1, h2, rfl⟩ := tks_at g i p hp d hi
    exact (tok_ok g hb hw h1).1
  · obtain ⟨h1, h2, rfl⟩ := tks_at g i p hp d hd
    rw [rowAt_tks g hp i (Nat.le_of_lt (List.getElem?_eq_some_iff.mp hd).1)]
    exact (tok_ok g hb hw h1).2
  · rw [rowAt_tks g hp _ (Nat.le_refl _), (tks_len g hp).1, List.take_length, List.length_take, Nat.min_eq_left hp]

def sp_same (K : PySem.W.Frag) : Sp := fun vs H Q _ => ∃ (G : Hp) (W : Wl) (a : Addr) (R : List Int) (p o m : Nat), Wd G W H ∧ vs = [.ref a, .int (p : Int), .int (o : Int), .int (m : Int)] ∧ SqL K G a (R.map V.int) ∧ p + m ≤ R.length ∧ o ≤ p ∧ R.length ≤ 100000 ∧ ∀ H', Wd G W H' → Q (.int (eqL R p o m : Nat)) H'
theorem getD_at {ws : List Int} {i : Nat} (h : i < ws.length) : atI (ws.map V.int) (i : Int) = some (.int (ws.getD i 0)) := by
  refine atI_nat ?_
  rw [List.getElem?_map, List.getElem?_eq_getElem h, List.getD_eq_getElem?_getD, List.getElem?_eq_getElem h]
  rfl
theorem ok_same_length (T : Txt K mg A) : FnOk P w K mg base CX0 1 A.f_same_length A.fd_same_length sP_same_length (sp_same K) := by
  refine okD T.F_same_length sc_same_length (fun vs H Q E h => ?_) (fun cdv Ar outer s H vs Q E hr h => ⟨_, (pss_cons (ps_set (i := 4) sc_same_length.nd rfl (Or.inl rfl) (pe_int))
      (pss_cons (ps_while PassesOwn.never (PW.pt (pw_and (pt_cmpR op_lt (pv 4) (pv 3) (nomark _)) (pw_and1 (pt_cmpR op_eq (pe_ix ix_list (pv 0) (pe_op op_add (pv 1) (pv 4)) (fun _ _ => rfl)) (pe_ix ix_list (pv 0) (pe_op op_add (pv 2) (pv 4)) (fun _ _ => rfl)) (nomark _))))) (pss_one (ps_aug (i := 4) sc_same_length.nd rfl (Or.inl rfl) (pe_int) ip_add)))
      (pss_one (ps_ret (pv 4))))), ?_⟩)
  · obtain ⟨G, W, a, R, p, o, m, _, rfl, _⟩ := h
    rfl
  · obtain ⟨G, W, a, R, p, o, m, w0, rfl, ha, hl, hop, hR, k⟩ := h
    walk_at "zt"
    refine while_m (fun z σ G' W' => W' = W ∧ G' = G ∧ ∃ c : Nat, c ≤ m ∧ z = m - c ∧ (∀ i, i < c → R.getD (p + i) 0 = R.getD (o + i) 0) ∧ σ = [some (.ref a), some (.int (p : Int)), some (.int (o : Int)), some (.int (m : Int)), some (.int (c : Int))]) m w0 ⟨rfl, rfl, 0, Nat.zero_le _, rfl, fun i hi => absurd hi (Nat.not_lt_zero _), rfl⟩ ?_
    rintro z σ' G1 W1 H1 e1 w1 ⟨rfl, rfl, c, hc, rfl, he, rfl⟩
    have hadd := eqL_add R c m p o hc he
    have ha1 := seq_up w1 ha
    walk_at "zt"
    by_cases hcm : c < m
    · rw [decide_eq_true (show (c : Int) < (m : Int) by omega)]
      walk_at "zt"
      refine st_ixL (v := .int (R.getD (p + c) 0)) ha1 (by rw [show (p : Int) + (c : Int) = ((p + c : Nat) : Int) by omega]; exact getD_at (by omega)) ?_
      walk_at "zt"
      refine st_ixL (v := .int (R.getD (o + c) 0)) ha1 (by rw [show (o : Int) + (c : Int) = ((o + c : Nat) : Int) by omega]; exact getD_at (by omega)) ?_
      walk_at "zt"
      by_cases heq : R.getD (p + c) 0 = R.getD (o + c) 0
      · rw [decide_eq_true (show V.int (R.getD (p + c) 0) = V.int (R.getD (o + c) 0) from congrArg V.int heq)]
        walk_at "zt"
        refine wt_go ?_
        walk_at "zt"
        refine st_wbt (m2 := m - (c + 1)) (by omega) e1 w1 ⟨rfl, rfl, c + 1, hcm, rfl, fun i hi => ?_, rfl⟩
        rcases Nat.lt_or_ge i c with z | z
        · exact he i z
        · obtain rfl : i = c := by omega
          exact heq
      · rw [decide_eq_false (show ¬ V.int (R.getD (p + c) 0) = V.int (R.getD (o + c) 0) from fun e => heq (by injection e)), ]
        walk_at "zt"
        rw [eqL_stop R heq, Nat.add_zero] at hadd
        rw [← hadd]
        exact k H1 w1
    · rw [decide_eq_false (show ¬ (c : Int) < (m : Int) by omega)]
      walk_at "zt"
      obtain rfl : c = m := by omega
      rw [Nat.sub_self] at hadd
      rw [← show eqL R p o c = c from hadd]
      exact k H1 w1
/-! ### the places of the matcher -/
def kys (c : List Int) : List Key := c.map fun i => (Sum.inl i : Key)
theorem kys_inj {a b : List Int} : kys a = kys b ↔ a = b := by
  constructor
  · intro h
    unfold kys at h
    exact List.map_inj_right (fun x y e => by injection e) |>.mp h
  · rintro rfl
    rfl
abbrev Pl := List Int × Addr × List Nat
def encP (e : Pl) : List Key × V := (kys e.1, .ref e.2.1)
def plV (e : Pl) : Addr × (HO → Prop) := (e.2.1, Is (.lst (e.2.2.map fun o : Nat => V.int (o : Int))))
structure PIn (R : List Int) (l : Nat) (P : List Pl) : Prop where
  nd : (P.map (·.1)).Nodup
  at_ : ∀ e ∈ P, e.2.2 = (List.range l).filter fun o => decide (key3 R o = e.1)
  all : ∀ o, o < l → ∃ e ∈ P, e.1 = key3 R o
theorem PIn.zero (R : List Int) : PIn R 0 [] := ⟨List.nodup_nil, fun _ h => absurd h List.not_mem_nil, fun o h => absurd h (Nat.not_lt_zero _)⟩
theorem valV_P (k : List Int) : ∀ P : List Pl, (∃ A e B, P = A ++ e :: B ∧ e.1 = k ∧ valV (P.map encP) (kys k) = some (.ref e.2.1)) ∨ ((∀ e ∈ P, e.1 ≠ k) ∧ valV (P.map encP) (kys k) = none)
  | [] => Or.inr ⟨fun _ h => absurd h List.not_mem_nil, rfl⟩
  | e :: P => by
    by_cases he : e.1 = k
    · refine Or.inl ⟨[], e, P, rfl, he, ?_⟩
      unfold valV
      rw [List.map_cons, List.find?_cons, decide_eq_true (show (encP e).1 = kys k from kys_inj.mpr he)]
      rfl
    · have hs : valV ((e :: P).map encP) (kys k) = valV (P.map encP) (kys k) := by
        unfold valV
        rw [List.map_cons, List.find?_cons, decide_eq_false (show ¬ (encP e).1 = kys k from fun z => he (kys_inj.mp z))]
      rcases valV_P k P with ⟨A, f, B, rfl, hf, hv⟩ | ⟨hn, hv⟩
      · exact Or.inl ⟨e :: A, f, B, rfl, hf, by rw [hs, hv]⟩
      · refine Or.inr ⟨fun f hf => ?_, by rw [hs, hv]⟩
        rcases List.mem_cons.mp hf with rfl | hf
        · exact he
        · exact hn f hf
theorem putK_P {k : List Int} {P : List Pl} (q : Addr) (h : ∀ e ∈ P, e.1 ≠ k) : putK (P.map encP) (kys k) (.ref q) = (P ++ [(k, q, [])]).map encP := by
  unfold putK
  rw [if_neg, List.map_append]
  · rfl
  · rw [List.any_eq_true]
    rintro ⟨x, hx, hd⟩
    obtain ⟨e, he, rfl⟩ := List.mem_map.mp hx
    exact h e he (kys_inj.mp (of_decide_eq_true hd))
theorem filt_succ (R : List Int) (l : Nat) (k : List Int) : (List.range (l + 1)).filter (fun o => decide (key3 R o = k)) = (List.range l).filter (fun o => decide (key3 R o = k)) ++ if key3 R l = k then [l] else [] := by
  rw [List.range_succ, List.filter_append]
  congr 1
  by_cases h : key3 R l = k
  · rw [if_pos h, List.filter_cons_of_pos (p := fun o => decide (key3 R o = k)) (decide_eq_true h)]
    rfl
  · rw [if_neg h, List.filter_cons_of_neg (p := fun o => decide (key3 R o = k)) (by rw [decide_eq_true_eq]; exact h)]
    rfl
theorem PIn.old {R : List Int} {l : Nat} {A B : List Pl} {e : Pl} (h : PIn R l (A ++ e :: B)) (he : e.1 = key3 R l) : PIn R (l + 1) (A ++ (e.1, e.2.1, e.2.2 ++ [l]) :: B) := by
  have hk : (A ++ (e.1, e.2.1, e.2.2 ++ [l]) :: B).map (·.1) = (A ++ e :: B).map (·.1) := by
    rw [List.map_append, List.map_append, List.map_cons, List.map_cons]
  have hnd := h.nd
  rw [List.map_append, List.map_cons, List.nodup_append] at hnd
  obtain ⟨n1, n2, n3⟩ := hnd
  refine ⟨by rw [hk]; exact h.nd, fun f hf => ?_, fun o ho => ?_⟩
  · rw [filt_succ]
    have hne : f ∈ A ∨ f ∈ B → f.2.2 = (List.range l).filter (fun o => decide (key3 R o = f.1)) ++ if key3 R l = f.1 then [l] else [] := fun hf => by
      have hn : ¬ key3 R l = f.1 := fun z => by
        rcases hf with hf | hf
        · exact n3 f.1 (List.mem_map.mpr ⟨f, hf, rfl⟩) e.1 List.mem_cons_self (z.symm.trans he.symm)
        · exact (List.nodup_cons.mp n2).1 (List.mem_map.mpr ⟨f, hf, z.symm.trans he.symm⟩)
      rw [if_neg hn, List.append_nil]
      exact h.at_ f (by
        rcases hf with hf | hf
        · exact List.mem_append_left _ hf
        · exact List.mem_append_right _ (List.mem_cons_of_mem _ hf))
    rcases List.mem_append.mp hf with hf | hf
    · exact hne (Or.inl hf)
    · rcases List.mem_cons.mp hf with rfl | hf
      · show e.2.2 ++ [l] = _ ++ if key3 R l = e.1 then [l] else []
        rw [if_pos he.symm, ← h.at_ e (List.mem_append_right _ List.mem_cons_self)]
      · exact hne (Or.inr hf)
  · rcases Nat.lt_or_ge o l with z | z
    · obtain ⟨f, hf, hfk⟩ := h.all o z
      rcases List.mem_append.mp hf with hf | hf
      · exact ⟨f, List.mem_append_left _ hf, hfk⟩
      · rcases List.mem_cons.mp hf with rfl | hf
        · exact ⟨_, List.mem_append_right _ List.mem_cons_self, hfk⟩
        · exact ⟨f, List.mem_append_right _ (List.mem_cons_of_mem _ hf), hfk⟩
    · obtain rfl : o = l := by omega
      exact ⟨_, List.mem_append_right _ List.mem_cons_self, he⟩
theorem PIn.new {R : List Int} {l : Nat} {P : List Pl} (h : PIn R l P) (q : Addr) (hn : ∀ e ∈ P, e.1 ≠ key3 R l) : PIn R (l + 1) (P ++ [(key3 R l, q, [l])]) := by
  refine ⟨?_, fun f hf => ?_, fun o ho => ?_⟩
  · rw [List.map_append]
    refine List.nodup_append.mpr ⟨h.nd, List.nodup_cons.mpr ⟨List.not_mem_nil, List.nodup_nil⟩, fun a ha b hb e => ?_⟩
    obtain ⟨f, hf, rfl⟩ := List.mem_map.mp ha
    have hb2 : b = key3 R l := List.mem_singleton.mp hb
    exact hn f hf (e.trans hb2)
  · rw [filt_succ]
    rcases List.mem_append.mp hf with hf | hf
    · rw [if_neg (fun z => hn f hf z.symm), List.append_nil]
      exact h.at_ f hf
    · rw [List.mem_singleton.mp hf]
      show [l] = _ ++ if key3 R l = key3 R l then [l] else []
      rw [if_pos rfl]
      have e : (List.range l).filter (fun o => decide (key3 R o = key3 R l)) = [] := List.filter_eq_nil_iff.mpr fun o ho => by
        rw [decide_eq_true_eq]
        intro z
        obtain ⟨f, hf, hfk⟩ := h.all o (List.mem_range.mp ho)
        exact hn f hf (hfk.trans z)
      show [l] = (List.range l).filter (fun o => decide (key3 R o = key3 R l)) ++ [l]
      rw [e]
      rfl
  · rcases Nat.lt_or_ge o l with z | z
    · obtain ⟨f, hf, hfk⟩ := h.all o z
      exact ⟨f, List.mem_append_left _ hf, hfk⟩
    · obtain rfl : o = l := by omega
      exact ⟨_, List.mem_append_right _ List.mem_cons_self, rfl⟩

def matF (a : Addr) (win l : Int) (pl : Addr) : List (Str × V) := [("row", .ref a), ("window", .int win), ("learned", .int l), ("places", .ref pl)]
def matW (C x dx a : Addr) (win l : Int) (pl : Addr) (P : List Pl) (W : Wl) : Wl := (x, Is (.ins C dx (matF a win l pl))) :: (pl, Is (.dT (P.map encP))) :: (P.map plV ++ W)
def sp_minit (C : Addr) : Sp := fun vs H Q _ => ∃ (G : Hp) (W : Wl) (x dx a : Addr) (l win : Int), Wd G ((x, Is (.ins C dx [])) :: W) H ∧ vs = [.ref x, .ref a, .int l, .int win] ∧ ∀ pl H', Wd G (matW C x dx a win l pl [] W) H' → Q .non H'
theorem ok_Matcher___init__ (T : Txt K mg A) : FnOk P w K mg base CX0 1 A.f_Matcher___init__ A.fd_Matcher___init__ sP_Matcher___init__ (sp_minit A.C_Matcher) := by
  refine okD T.F_Matcher___init__ sc_Matcher___init__ (fun vs H Q E h => ?_) (fun cdv Ar outer s H vs Q E hr h => ⟨_, (pss_cons (ps_fld (pv 0) (pv 1) rfl)
      (pss_cons (ps_fld (pv 0) (pv 3) rfl)
      (pss_cons (ps_fld (pv 0) (pv 2) rfl)
      (pss_one (ps_fld (pv 0) (pe_dnewT) rfl))))), ?_⟩)
  · obtain ⟨G, W, x, dx, a, l, win, _, rfl, _⟩ := h
    rfl
  · obtain ⟨G, W, x, dx, a, l, win, w, rfl, k⟩ := h
    walk_at "zt"
    refine ⟨x, A.C_Matcher, dx, _, rfl, Wd.is1 w, T.cl_Matcher, T.nf_Matcher_row, by show 0 < 1000; decide, ?_⟩
    have w1 := w.put1 (o := .ins A.C_Matcher dx [("row", .ref a)])
    rw [show putF "row" (.ref a) [] = ([("row", .ref a)] : List (Str × V)) from rfl]
    generalize upd H x _ = H1 at w1
    dsimp only
    walk_at "zt"
    refine ⟨x, A.C_Matcher, dx, _, rfl, Wd.is1 w1, T.cl_Matcher, T.nf_Matcher_window, by show 1 < 1000; decide, ?_⟩
    have w2 := w1.put1 (o := .ins A.C_Matcher dx [("row", .ref a), ("window", .int win)])
    rw [show putF "window" (.int win) [("row", .ref a)] = ([("row", .ref a), ("window", .int win)] : List (Str × V)) from rfl]
    generalize upd H1 x _ = H2 at w2
    dsimp only
    walk_at "zt"
    refine ⟨x, A.C_Matcher, dx, _, rfl, Wd.is1 w2, T.cl_Matcher, T.nf_Matcher_learned, by show 2 < 1000; decide, ?_⟩
    have w3 := w2.put1 (o := .ins A.C_Matcher dx [("row", .ref a), ("window", .int win), ("learned", .int l)])
    rw [show putF "learned" (.int l) [("row", .ref a), ("window", .int win)] = ([("row", .ref a), ("window", .int win), ("learned", .int l)] : List (Str × V)) from rfl]
    generalize upd H2 x _ = H3 at w3
    dsimp only
    walk_at "zt"
    refine NewO.own w3 fun pl H4 w4 => ?_
    walk_at "zt"
    refine ⟨x, A.C_Matcher, dx, _, rfl, Wd.is1 w4.drop1, T.cl_Matcher, T.nf_Matcher_places, by show 3 < 1000; decide, ?_⟩
    have w5 := Wd.putI (W1 := [_]) (o := .ins A.C_Matcher dx (matF a win l pl)) w4
    rw [show putF "places" (.ref pl) [("row", .ref a), ("window", .int win), ("learned", .int l)] = matF a win l pl from rfl]
    generalize upd H4 x _ = H5 at w5
    dsimp only
    walk_at "zt"
    exact k pl H5 (w5.perm (List.Perm.swap _ _ _))
theorem cut3 (R : List Int) (l : Nat) : cutV (R.map V.int) (some (l : Int)) (some ((l : Int) + 3)) = (key3 R l).map V.int := by
  unfold cutV key3
  simp only [HT.sIx, if_neg (show ¬ (l : Int) < 0 by omega), if_neg (show ¬ (l : Int) + 3 < 0 by omega)]
  rw [show ((l : Int) + 3).toNat = l + 3 by omega, Int.toNat_natCast, List.length_map, List.map_take, List.map_drop]
  rcases Nat.le_total (l + 3) R.length with h | h
  · rw [Nat.min_eq_left h, Nat.min_eq_left (show l ≤ R.length by omega), show l + 3 - l = 3 by omega]
  · rw [Nat.min_eq_right h]
    rcases Nat.le_total l R.length with h2 | h2
    · rw [Nat.min_eq_left h2, List.take_of_length_le (by rw [List.length_drop, List.length_map]; omega), List.take_of_length_le (by rw [List.length_drop, List.length_map]; omega)]
    · rw [Nat.min_eq_right h2, List.drop_of_length_le (by rw [List.length_map]; omega), List.drop_of_length_le (by rw [List.length_map]; omega), List.take_nil, List.take_nil]
theorem kys_kV (c : List Int) : (kys c).map kV = c.map V.int := by
  unfold kys
  rw [List.map_map]
  rfl
theorem posn_perm {D : Addr × (HO → Prop)} {x p : Addr × (HO → Prop)} {L W : Wl} : (D :: x :: p :: (L ++ W)).Perm (x :: p :: (L ++ D :: W)) :=
  ((List.Perm.swap x D _).trans ((List.Perm.swap p D _).cons x)).trans (((List.perm_middle.symm).cons p).cons x)
def sp_learn (K : PySem.W.Frag) (C : Addr) : Sp := fun vs H Q _ => ∃ (G : Hp) (W : Wl) (x dx a pl : Addr) (win : Int) (l stop : Nat) (P : List Pl) (R : List Int), Wd G (matW C x dx a win (l : Int) pl P W) H ∧ vs = [.ref x, .int (stop : Int)] ∧ HL G a R ∧ PIn R l P ∧ P.length ≤ l ∧ l ≤ stop ∧ stop ≤ 1000 ∧
  ∀ P' G' H', Same G G' → Wd G' (matW C x dx a win (stop : Int) pl P' W) H' → PIn R stop P' → P'.length ≤ stop → Q .non H'
theorem ok_Matcher_learn (T : Txt K mg A) : FnOk P w K mg base CX0 1 A.f_Matcher_learn A.fd_Matcher_learn sP_Matcher_learn (sp_learn K A.C_Matcher) := by
  refine okD T.F_Matcher_learn sc_Matcher_learn (fun vs H Q E h => ?_) (fun cdv Ar outer s H vs Q E hr h => ⟨_, (pss_one (ps_while PassesOwn.never (pt_cmpR op_lt (pe_fld (pv 0) rfl) (pv 1) (nomark _)) (pss_cons (ps_set (i := 2) sc_Matcher_learn.nd rfl (Or.inl rfl) (pe_callTy call_tuple_of (by rfl) T.z_tuple (by decide +kernel) (pa_cons (pe_slice sl_list (pe_fld (pv 0) rfl) (po_some (pe_fld (pv 0) rfl)) (po_some (pe_op op_add (pe_fld (pv 0) rfl) (pe_glob (v := .int 3) rfl T.m_LEAST_LENGTH ⟨_, rfl⟩)))) pa_nil)))
      (pss_cons (ps_expr (pe_bm PySem.F.plainAttrs_list PySem.F.slot_list_append PySem.F.type_list_append mt_append (pe_dsetdT (units1 hr.units) (pe_fld (pv 0) rfl) (pv 2) (pe_lst pa_nil) ⟨rfl, rfl, rfl, rfl⟩) (pa_cons (pe_fld (pv 0) rfl) pa_nil)))
      (pss_one (ps_fldaug (pv 0) (pe_int) in_add)))))), ?_⟩)
  · obtain ⟨G, W, x, dx, a, pl, win, l, stop, P, R, _, rfl, _⟩ := h
    rfl
  · obtain ⟨G, W, x, dx, a, pl, win, l, stop, P0, R, w, rfl, ha, hP, hPl, hls, hst, k⟩ := h
    walk_at "zt"
    refine while_m (fun z σ G' W' => ∃ (l : Nat) (P : List Pl) (x2 : Option V), W' = matW A.C_Matcher x dx a win (l : Int) pl P W ∧ PIn R l P ∧ P.length ≤ l ∧ l ≤ stop ∧ z = stop - l ∧ σ = [some (.ref x), some (.int (stop : Int)), x2]) (stop - l) w ⟨l, P0, _, rfl, hP, hPl, hls, rfl, rfl⟩ ?_
    clear hP hPl hls
    rintro z σ' G1 W1 H1 e1 w1 ⟨l, P1, x2, rfl, hP, hPl, hls, rfl, rfl⟩
    have a1 := ha.up e1
    walk_at "zt"
    refine ⟨x, A.C_Matcher, dx, _, _, rfl, Wd.is1 w1, T.cl_Matcher, T.nf_Matcher_learned, rfl, ?_⟩
    walk_at "zt"
    by_cases hlt : l < stop
    · rw [decide_eq_true (show (l : Int) < (stop : Int) by omega)]
      walk_at "zt"
      refine wt_go ?_
      walk_at "zt"
      refine ⟨x, A.C_Matcher, dx, _, _, rfl, Wd.is1 w1, T.cl_Matcher, T.nf_Matcher_row, rfl, ?_⟩
      walk_at "zt"
      refine ⟨x, A.C_Matcher, dx, _, _, rfl, Wd.is1 w1, T.cl_Matcher, T.nf_Matcher_learned, rfl, ?_⟩
      walk_at "zt"
      refine ⟨_, rfl, ?_⟩
      walk_at "zt"
      refine ⟨x, A.C_Matcher, dx, _, _, rfl, Wd.is1 w1, T.cl_Matcher, T.nf_Matcher_learned, rfl, ?_⟩
      walk_at "zt"
      refine ⟨_, rfl, ?_⟩
      refine st_slL (SqL.of (w1.at a1)) w1 fun p2 G2 H2 e2 w2 h2 => ?_
      rw [cut3] at h2
      walk_at "zt"
      refine ⟨p2, _, rfl, .inl ⟨SqL.of (w2.at h2), fun t3 ht3 => ?_⟩⟩
      have e3 := same_upd (o := HO.tup ((key3 R l).map V.int)) (w2.free ht3)
      have w3 : Wd (upd G2 t3 (.tup ((key3 R l).map V.int))) _ (upd H2 t3 (.tup ((key3 R l).map V.int))) := w2.new ht3
      have h3 : (upd G2 t3 (.tup ((key3 R l).map V.int))) t3 = some (.tup ((kys (key3 R l)).map kV)) := by rw [kys_kV]; exact upd_same
      generalize upd G2 t3 (HO.tup ((key3 R l).map V.int)) = G3 at e3 w3 h3
      generalize upd H2 t3 (HO.tup ((key3 R l).map V.int)) = H3 at w3
      have e13 := e1.trans (e2.trans e3)
      walk_at "zt"
      refine ⟨x, A.C_Matcher, dx, _, _, rfl, Wd.is1 w3, T.cl_Matcher, T.nf_Matcher_places, rfl, ?_⟩
      walk_at "zt"
      refine ⟨pl, rfl, .inr ⟨_, .inl (Wd.is1 w3.drop1)⟩, ?_⟩
      walk_at "zt"
      refine ⟨small (by simp), NewO.own w3 fun D H4 w4 => ?_⟩
      refine ⟨_, kys (key3 R l), t3, Wd.is1 w4.drop1.drop1, rfl, w4.at h3, small' (by rw [List.length_map]; omega), fun v hv => ?_, fun hv => ?_⟩
      · rcases valV_P (key3 R l) P1 with ⟨PA, e, PB, rfl, hek, hvv⟩ | ⟨hno, hvn⟩
        · rw [hvv] at hv
          cases hv
          have w5 := w4.drop1
          have hat := hP.at_ e (List.mem_append_right _ List.mem_cons_self)
          have hel : e.2.2.length ≤ l := by
            rw [hat]
            exact Nat.le_trans (List.length_filter_le _ _) (by rw [List.length_range]; exact Nat.le_refl _)
          have hW : matW A.C_Matcher x dx a win (l : Int) pl (PA ++ e :: PB) W = ((x, Is (.ins A.C_Matcher dx (matF a win l pl))) :: (pl, Is (.dT ((PA ++ e :: PB).map encP))) :: PA.map plV) ++ (e.2.1, Is (.lst (e.2.2.map fun o : Nat => V.int (o : Int)))) :: (PB.map plV ++ W) := by
            unfold matW
            rw [List.map_append (f := plV), List.map_cons (f := plV)]
            show _ = _ :: _ :: (PA.map plV ++ _)
            rw [List.append_assoc]
            rfl
          rw [hW] at w5
          have he : H4 e.2.1 = some (.lst (e.2.2.map fun o : Nat => V.int (o : Int))) := by
            obtain ⟨o, ho, rfl⟩ := w5.get (List.mem_append_right _ List.mem_cons_self)
            exact ho
          refine ⟨tyL' he, ?_⟩
          walk_at "zt"
          refine ⟨x, A.C_Matcher, dx, _, _, rfl, Wd.is1 w5, T.cl_Matcher, T.nf_Matcher_learned, rfl, ?_⟩
          walk_at "zt"
          refine st_appL he (by rw [List.length_map]; omega) ?_
          have w6 := Wd.putI (o := .lst ((e.2.2 ++ [l]).map fun o : Nat => V.int (o : Int))) w5
          rw [show (e.2.2.map fun o : Nat => V.int (o : Int)) ++ [V.int (l : Int)] = (e.2.2 ++ [l]).map fun o : Nat => V.int (o : Int) by rw [List.map_append]; rfl]
          generalize upd H4 e.2.1 _ = H6 at w6
          have hW2 : ((x, Is (.ins A.C_Matcher dx (matF a win l pl))) :: (pl, Is (.dT ((PA ++ e :: PB).map encP))) :: PA.map plV) ++ (e.2.1, Is (.lst ((e.2.2 ++ [l]).map fun o : Nat => V.int (o : Int)))) :: (PB.map plV ++ W) = matW A.C_Matcher x dx a win (l : Int) pl (PA ++ (e.1, e.2.1, e.2.2 ++ [l]) :: PB) W := by
            unfold matW
            rw [List.map_append (f := plV), List.map_cons (f := plV), List.map_append (f := encP), List.map_append (f := encP), List.map_cons (f := encP), List.map_cons (f := encP)]
            show _ :: _ :: (PA.map plV ++ _) = _ :: _ :: (PA.map plV ++ _ ++ _)
            rw [List.append_assoc]
            rfl
          rw [hW2] at w6
          walk_at "zt"
          refine ⟨x, A.C_Matcher, dx, _, _, rfl, Wd.is1 w6, T.cl_Matcher, T.nf_Matcher_learned, rfl, ?_⟩
          walk_at "zt"
          refine ⟨_, _, rfl, rfl, dx, _, Wd.is1 w6, by show 4 < 1000; decide, ?_⟩
          rw [show putF "learned" (.int ((l : Int) + 1)) (matF a win (l : Int) pl) = matF a win ((l + 1 : Nat) : Int) pl from rfl]
          have w7 : Wd G3 (matW A.C_Matcher x dx a win ((l + 1 : Nat) : Int) pl (PA ++ (e.1, e.2.1, e.2.2 ++ [l]) :: PB) W) (upd H6 x (.ins A.C_Matcher dx (matF a win ((l + 1 : Nat) : Int) pl))) := w6.put1
          exact st_wbt (m2 := stop - (l + 1)) (by omega) e13 w7 ⟨l + 1, _, _, rfl, hP.old hek, by
            rw [List.length_append, List.length_cons] at hPl ⊢
            omega, by omega, rfl, rfl⟩
        · rw [hvn] at hv
          exact nomatch hv
      · rcases valV_P (key3 R l) P1 with ⟨PA, e, PB, rfl, hek, hvv⟩ | ⟨hno, hvn⟩
        · rw [hvv] at hv
          exact nomatch hv
        · have w5 := Wd.putI (W1 := [_, _]) (o := .dT (putK (P1.map encP) (kys (key3 R l)) (.ref D))) w4
          rw [putK_P D hno] at w5 ⊢
          generalize upd H4 pl _ = H5 at w5
          refine ⟨tyL' (Wd.is1 w5), ?_⟩
          walk_at "zt"
          refine ⟨x, A.C_Matcher, dx, _, _, rfl, Wd.is1 w5.drop1, T.cl_Matcher, T.nf_Matcher_learned, rfl, ?_⟩
          walk_at "zt"
          refine st_appL (Wd.is1 w5) (by decide) ?_
          have w6 := w5.put1 (o := .lst (([l] : List Nat).map fun o : Nat => V.int (o : Int)))
          rw [show ([] : List V) ++ [V.int (l : Int)] = ([l] : List Nat).map fun o : Nat => V.int (o : Int) from rfl]
          generalize upd H5 D _ = H6 at w6
          have w6 := w6.perm posn_perm
          have hW2 : (x, Is (.ins A.C_Matcher dx (matF a win (l : Int) pl))) :: (pl, Is (.dT ((P1 ++ [(key3 R l, D, [])]).map encP))) :: (P1.map plV ++ (D, Is (.lst (([l] : List Nat).map fun o : Nat => V.int (o : Int)))) :: W) = matW A.C_Matcher x dx a win (l : Int) pl (P1 ++ [(key3 R l, D, [l])]) W := by
            unfold matW
            rw [List.map_append (f := plV), List.map_append (f := encP), List.map_append (f := encP), List.append_assoc]
            rfl
          rw [hW2] at w6
          walk_at "zt"
          refine ⟨x, A.C_Matcher, dx, _, _, rfl, Wd.is1 w6, T.cl_Matcher, T.nf_Matcher_learned, rfl, ?_⟩
          walk_at "zt"
          refine ⟨_, _, rfl, rfl, dx, _, Wd.is1 w6, by show 4 < 1000; decide, ?_⟩
          rw [show putF "learned" (.int ((l : Int) + 1)) (matF a win (l : Int) pl) = matF a win ((l + 1 : Nat) : Int) pl from rfl]
          have w7 : Wd G3 (matW A.C_Matcher x dx a win ((l + 1 : Nat) : Int) pl (P1 ++ [(key3 R l, D, [l])]) W) (upd H6 x (.ins A.C_Matcher dx (matF a win ((l + 1 : Nat) : Int) pl))) := w6.put1
          exact st_wbt (m2 := stop - (l + 1)) (by omega) e13 w7 ⟨l + 1, _, _, rfl, hP.new D hno, by
            rw [List.length_append, List.length_singleton]
            omega, by omega, rfl, rfl⟩
    · rw [decide_eq_false (show ¬ (l : Int) < (stop : Int) by omega)]
      walk_at "zt"
      obtain rfl : l = stop := by omega
      exact k P1 G1 H1 e1 w1 hP hPl

def MchV (G : Hp) (v : V) : Mch → Prop
  | none => v = .non
  | some y => ∃ t, v = .ref t ∧ G t = some (.tup [.int (y.1 : Int), .int (y.2 : Int)])
theorem MchV.up {G G' : Hp} {v : V} {b : Mch} (e : Same G G') (h : MchV G v b) : MchV G' v b := by
  cases b with
  | none => exact h
  | some y => exact let ⟨t, h1, h2⟩ := h; ⟨t, h1, e _ _ h2⟩
def sp_longest (K : PySem.W.Frag) (C : Addr) : Sp := fun vs H Q _ => ∃ (G : Hp) (W : Wl) (x dx a pl : Addr) (win l p : Nat) (P : List Pl) (R : List Int), Wd G (matW C x dx a (win : Int) (l : Int) pl P W) H ∧ vs = [.ref x, .int (p : Int), .int (R.length : Int)] ∧ HL G a R ∧ PIn R l P ∧ P.length ≤ l ∧ l ≤ p ∧ p ≤ R.length ∧ R.length ≤ 1000 ∧
  ∀ v P' G' H', Same G G' → Wd G' (matW C x dx a (win : Int) (p : Int) pl P' W) H' → PIn R p P' → P'.length ≤ p → MchV G' v (lng R win p) → Q v H'
theorem ok_Matcher_longest (T : Txt K mg A) : FnOk P w K mg base CX0 3 A.f_Matcher_longest A.fd_Matcher_longest sP_Matcher_longest (sp_longest K A.C_Matcher) := by
  refine okD T.F_Matcher_longest sc_Matcher_longest (fun vs H Q E h => ?_) (fun cdv Ar outer s H vs Q E hr h => ⟨_, (pss_cons (ps_expr (pe_meth (pv 0) T.cl_Matcher T.mt_Matcher_learn (ok_Matcher_learn T) (hr.mono (by decide)) T.b_Matcher_learn .nil pass0 (pa_cons (pv 1) pa_nil)))
      (pss_cons (ps_par (i := 3) (j := 4) (by rfl) sc_Matcher_longest.nd rfl rfl (by decide) rfl rfl (pa_cons (pe_callB (call_min2 rfl) (by rfl) T.z_min (by decide +kernel) (pa_cons (pe_glob (v := .int 258) rfl T.m_MOST_LENGTH ⟨_, rfl⟩) (pa_cons (pe_op op_sub (pv 2) (pv 1)) pa_nil))) (pa_cons (pe_non) pa_nil)) (by rfl))
      (pss_cons (ps_for PassesOwn.never rfl (pi_list (pe_revL (pe_dget2 (units1 hr.units) (pe_fld (pv 0) rfl) (pe_callTy call_tuple_of (by rfl) T.z_tuple (by decide +kernel) (pa_cons (pe_slice sl_list (pe_fld (pv 0) rfl) (po_some (pv 1)) (po_some (pe_op op_add (pv 1) (pe_glob (v := .int 3) rfl T.m_LEAST_LENGTH ⟨_, rfl⟩)))) pa_nil)) (pe_lst pa_nil) ⟨rfl, rfl, rfl, rfl⟩))) (pg_name (i := 5) sc_Matcher_longest.nd rfl (Or.inl rfl)) (pss_cons (ps_if (PW.pt (pw_or (pt_cmpR op_gt (pe_op op_sub (pv 1) (pv 5)) (pe_fld (pv 0) rfl) (nomark _)) (pw_or1 (PW.pt (pw_and (pt_cmpR op_notN (pv 4) (pe_non) (nomark _)) (pw_and1 (pt_cmpR op_eq (pe_ix ix_tup (pv 4) (pe_int) (fun _ _ => rfl)) (pv 3) (nomark _)))))))) (pss_one (ps_break)) pss_nil)
      (pss_cons (ps_set (i := 6) sc_Matcher_longest.nd rfl (Or.inl rfl) (pe_call (ok_same_length T) (hr.mono (by decide)) rfl T.m_same_length T.F_same_length.kp T.b_same_length .nil pass0 (pa_cons (pe_fld (pv 0) rfl) (pa_cons (pv 1) (pa_cons (pv 5) (pa_cons (pv 3) pa_nil))))))
      (pss_one (ps_if (PW.pt (pw_and (pt_cmpR op_ge (pv 6) (pe_glob (v := .int 3) rfl T.m_LEAST_LENGTH ⟨_, rfl⟩) (nomark _)) (pw_and1 (PW.pt (pw_or (pt_cmpR op_isN (pv 4) (pe_non) (nomark _)) (pw_or1 (pt_cmpR op_gt (pv 6) (pe_ix ix_tup (pv 4) (pe_int) (fun _ _ => rfl)) (nomark _)))))))) (pss_one (ps_set (i := 4) sc_Matcher_longest.nd rfl (Or.inl rfl) (pe_tup (pa_cons (pv 6) (pa_cons (pe_op op_sub (pv 1) (pv 5)) pa_nil))))) pss_nil)))))
      (pss_one (ps_ret (pv 4)))))), ?_⟩)
  · obtain ⟨G, W, x, dx, a, pl, win, l, p, P, R, _, rfl, _⟩ := h
    rfl
  · obtain ⟨G, W, x, dx, a, pl, win, l, p, P0, R, w, rfl, ha, hP, hPl, hlp, hpR, hR, k⟩ := h
    walk_at "zt"
    refine ⟨x, dx, _, rfl, Wd.is1 w, rfl, ?_⟩
    walk_at "zt"
    refine ⟨G, W, x, dx, a, pl, (win : Int), l, p, P0, R, w, rfl, ha, hP, hPl, hlp, by omega, fun P1 G1 H1 e1 w1 hP1 hPl1 => ?_⟩
    clear hP hPl w
    have a1 := ha.up e1
    walk_at "zt"
    refine ⟨_, _, rfl, ?_⟩
    obtain ⟨m, hm⟩ : ∃ m, m = min 258 (R.length - p) := ⟨_, rfl⟩
    have hmv : (if (R.length : Int) - (p : Int) < 258 then (R.length : Int) - (p : Int) else 258) = (m : Int) := by
      split <;> omega
    rw [hmv]
    walk_at "zt"
    refine ⟨x, A.C_Matcher, dx, _, _, rfl, Wd.is1 w1, T.cl_Matcher, T.nf_Matcher_places, rfl, ?_⟩
    refine ⟨pl, rfl, .inr ⟨_, .inl (Wd.is1 w1.drop1)⟩, ?_⟩
    walk_at "zt"
    refine ⟨x, A.C_Matcher, dx, _, _, rfl, Wd.is1 w1, T.cl_Matcher, T.nf_Matcher_row, rfl, ?_⟩
    walk_at "zt"
    refine ⟨_, rfl, ?_⟩
    walk_at "zt"
    refine ⟨_, rfl, ?_⟩
    refine st_slL (SqL.of (w1.at a1)) w1 fun p2 G2 H2 e2 w2 h2 => ?_
    rw [cut3] at h2
    walk_at "zt"
    refine ⟨p2, _, rfl, .inl ⟨SqL.of (w2.at h2), fun t3 ht3 => ?_⟩⟩
    have e3 := same_upd (o := HO.tup ((key3 R p).map V.int)) (w2.free ht3)
    have w3 : Wd (upd G2 t3 (.tup ((key3 R p).map V.int))) _ (upd H2 t3 (.tup ((key3 R p).map V.int))) := w2.new ht3
    have h3 : (upd G2 t3 (.tup ((key3 R p).map V.int))) t3 = some (.tup ((kys (key3 R p)).map kV)) := by rw [kys_kV]; exact upd_same
    generalize upd G2 t3 (HO.tup ((key3 R p).map V.int)) = G3 at e3 w3 h3
    generalize upd H2 t3 (HO.tup ((key3 R p).map V.int)) = H3 at w3
    walk_at "zt"
    refine ⟨small (by simp), NewO.good w3 fun D G4 H4 e4 w4 h4 => ?_⟩
    refine ⟨_, DGet.t (Wd.is1 w4.drop1) (w4.at (e4 _ _ h3)), ?_⟩
    have hat : ∃ la, (valV (P1.map encP) (kys (key3 R p))).getD (.ref D) = .ref la ∧ SqL K H4 la ((((List.range p).filter fun o => decide (key3 R o = key3 R p))).map fun o : Nat => V.int (o : Int)) := by
      rcases valV_P (key3 R p) P1 with ⟨PA, e, PB, rfl, hek, hvv⟩ | ⟨hno, hvn⟩
      · refine ⟨e.2.1, by rw [hvv]; rfl, ?_⟩
        have hmem : (e.2.1, Is (.lst (e.2.2.map fun o : Nat => V.int (o : Int)))) ∈ matW A.C_Matcher x dx a (win : Int) (p : Int) pl (PA ++ e :: PB) W :=
          List.mem_cons_of_mem _ (List.mem_cons_of_mem _ (List.mem_append_left _ (List.mem_map.mpr ⟨e, List.mem_append_right _ List.mem_cons_self, rfl⟩)))
        obtain ⟨o, ho, rfl⟩ := w4.get hmem
        rw [← hek, ← hP1.at_ e (List.mem_append_right _ List.mem_cons_self)]
        exact SqL.of ho
      · refine ⟨D, by rw [hvn]; rfl, ?_⟩
        have e0 : (List.range p).filter (fun o => decide (key3 R o = key3 R p)) = [] := List.filter_eq_nil_iff.mpr fun o ho => by
          rw [decide_eq_true_eq]
          intro z
          obtain ⟨f, hf, hfk⟩ := hP1.all o (List.mem_range.mp ho)
          exact hno f hf (hfk.trans z)
        rw [e0]
        exact SqL.of (w4.at h4)
    obtain ⟨la, hla, hsq⟩ := hat
    rw [hla]
    have hlng := pgo_lng R p win
    rw [← hm] at hlng
    refine ⟨la, _, rfl, hsq, fun q5 hq5 => ?_⟩
    rw [← List.map_reverse]
    have e5 := same_upd (o := HO.lst ((((List.range p).filter fun o => decide (key3 R o = key3 R p)).reverse).map fun o : Nat => V.int (o : Int))) (w4.free hq5)
    have w5 : Wd (upd G4 q5 (.lst ((((List.range p).filter fun o => decide (key3 R o = key3 R p)).reverse).map fun o : Nat => V.int (o : Int)))) _ (upd H4 q5 (.lst ((((List.range p).filter fun o => decide (key3 R o = key3 R p)).reverse).map fun o : Nat => V.int (o : Int)))) := w4.new hq5
    have h5 : (upd G4 q5 (.lst ((((List.range p).filter fun o => decide (key3 R o = key3 R p)).reverse).map fun o : Nat => V.int (o : Int)))) q5 = some (.lst ((((List.range p).filter fun o => decide (key3 R o = key3 R p)).reverse).map fun o : Nat => V.int (o : Int))) := upd_same
    have hos : ∀ o ∈ ((List.range p).filter fun o => decide (key3 R o = key3 R p)).reverse, o < p := fun o ho => List.mem_range.mp (List.mem_filter.mp (List.mem_reverse.mp ho)).1
    generalize ((List.range p).filter fun o => decide (key3 R o = key3 R p)).reverse = os at e5 w5 h5 hlng hos
    generalize upd G4 q5 _ = G5 at e5 w5 h5
    generalize upd H4 q5 _ = H5 at w5
    have e15 := e1.trans (e2.trans (e3.trans (e4.trans e5)))
    have a5 := ha.up e15
    walk_at "zt"
    refine for_l (SqL.of h5) (fun i σ G' W' => ∃ (b : Mch) (v : V) (x5 x6 : Option V), W' = matW A.C_Matcher x dx a (win : Int) (p : Int) pl P1 W ∧ MchV G' v b ∧ pgo R p m win (os.drop i) b = lng R win p ∧ σ = [some (.ref x), some (.int (p : Int)), some (.int (R.length : Int)), some (.int (m : Int)), some v, x5, x6]) w5 ⟨none, .non, _, _, rfl, rfl, hlng, rfl⟩ ?_ ?_
    · rintro i v σ' G6 W6 H6 hv e6 w6 ⟨b, vb, x5, x6, rfl, hb, hpg, rfl⟩
      rw [List.getElem?_map] at hv
      obtain ⟨o, ho, rfl⟩ := Option.map_eq_some_iff.mp hv
      have hop := hos o (List.mem_of_getElem? ho)
      have hil : i < os.length := (List.getElem?_eq_some_iff.mp ho).1
      rw [List.drop_eq_getElem_cons hil, (List.getElem?_eq_some_iff.mp ho).2] at hpg
      have hpg' : (if win < p - o ∨ full b m = true then b else pgo R p m win (os.drop (i + 1)) (bst R p m b (p - o))) = lng R win p := hpg
      have a6 := a5.up e6
      have brk : (win < p - o ∨ full b m = true) → MchV G6 vb (lng R win p) := fun h => by
        rw [if_pos h] at hpg'
        rw [← hpg']
        exact hb
      walk_at "zt"
      refine ⟨x, A.C_Matcher, dx, _, _, rfl, Wd.is1 w6, T.cl_Matcher, T.nf_Matcher_window, rfl, ?_⟩
      walk_at "zt"
      by_cases hw : win < p - o
      · rw [decide_eq_true (show (win : Int) < (p : Int) - (o : Int) by omega)]
        walk_at "zt"
        exact k vb P1 G6 H6 (e15.trans e6) w6 hP1 hPl1 (brk (Or.inl hw))
      · rw [decide_eq_false (show ¬ (win : Int) < (p : Int) - (o : Int) by omega)]
        walk_at "zt"
        have hpo : p - (p - o) = o := by omega
        cases b with
        | none =>
          obtain rfl : vb = .non := hb
          rw [if_neg (by rintro (h | h); exact hw h; exact nomatch h)] at hpg'
          walk_at "zt"
          refine ⟨rfl, ?_⟩
          rw [ne_self]
          walk_at "zt"
          refine ⟨x, A.C_Matcher, dx, _, _, rfl, Wd.is1 w6, T.cl_Matcher, T.nf_Matcher_row, rfl, ?_⟩
          walk_at "zt"
          refine ⟨G6, _, a, R, p, o, m, w6, rfl, a6.seq, by omega, by omega, by omega, fun H7 w7 => ?_⟩
          walk_at "zt"
          have hb2 : bst R p m none (p - o) = if 3 ≤ eqL R p o m then some (eqL R p o m, p - o) else none := by
            unfold bst
            rw [hpo]
            by_cases h3 : 3 ≤ eqL R p o m
            · rw [if_pos h3, if_pos ⟨h3, rfl⟩]
            · rw [if_neg h3, if_neg fun h => h3 h.1]
          rw [hb2] at hpg'
          by_cases h3 : 3 ≤ eqL R p o m
          · rw [if_pos h3] at hpg'
            rw [decide_eq_true (show (3 : Int) ≤ (eqL R p o m : Nat) by omega)]
            walk_at "zt"
            refine ⟨rfl, ?_⟩
            rw [decide_eq_true rfl]
            walk_at "zt"
            refine ⟨small (by simp), NewO.good w7 fun t8 G8 H8 e8 w8 h8 => ?_⟩
            exact st_btw (e6.trans e8) w8 ⟨some (eqL R p o m, p - o), _, _, _, rfl, ⟨t8, rfl, by rw [h8, show (p : Int) - (o : Int) = ((p - o : Nat) : Int) by omega]⟩, hpg', rfl⟩
          · rw [if_neg h3] at hpg'
            rw [decide_eq_false (show ¬ (3 : Int) ≤ (eqL R p o m : Nat) by omega)]
            walk_at "zt"
            exact st_btw e6 w7 ⟨none, _, _, _, rfl, rfl, hpg', rfl⟩
        | some y =>
          obtain ⟨t, rfl, ht⟩ := hb
          walk_at "zt"
          refine ⟨rfl, ?_⟩
          rw [decide_eq_false (show ¬ V.ref t = V.non from fun e => nomatch e)]
          walk_at "zt"
          refine st_ixT (SqT.of (w6.at ht)) (atI_nat (j := 0) rfl) ?_
          walk_at "zt"
          by_cases hfl : y.1 = m
          · rw [decide_eq_true (show V.int (y.1 : Int) = V.int (m : Int) by rw [hfl])]
            walk_at "zt"
            exact k _ P1 G6 H6 (e15.trans e6) w6 hP1 hPl1 (brk (Or.inr (decide_eq_true hfl)))
          · rw [decide_eq_false (show ¬ V.int (y.1 : Int) = V.int (m : Int) from fun e => by injection e with e; omega)]
            rw [if_neg (by rintro (h | h); exact hw h; exact hfl (of_decide_eq_true h))] at hpg'
            walk_at "zt"
            refine ⟨x, A.C_Matcher, dx, _, _, rfl, Wd.is1 w6, T.cl_Matcher, T.nf_Matcher_row, rfl, ?_⟩
            walk_at "zt"
            refine ⟨G6, _, a, R, p, o, m, w6, rfl, a6.seq, by omega, by omega, by omega, fun H7 w7 => ?_⟩
            walk_at "zt"
            have hb2 : bst R p m (some y) (p - o) = if 3 ≤ eqL R p o m ∧ y.1 < eqL R p o m then some (eqL R p o m, p - o) else some y := by
              unfold bst
              rw [hpo]
              by_cases h3 : 3 ≤ eqL R p o m ∧ y.1 < eqL R p o m
              · rw [if_pos h3, if_pos ⟨h3.1, decide_eq_true h3.2⟩]
              · rw [if_neg h3, if_neg fun h => h3 ⟨h.1, of_decide_eq_true h.2⟩]
            rw [hb2] at hpg'
            by_cases h3 : 3 ≤ eqL R p o m
            · rw [decide_eq_true (show (3 : Int) ≤ (eqL R p o m : Nat) by omega)]
              walk_at "zt"
              refine ⟨rfl, ?_⟩
              rw [decide_eq_false (show ¬ V.ref t = V.non from fun e => nomatch e)]
              walk_at "zt"
              refine st_ixT (SqT.of (w7.at ht)) (atI_nat (j := 0) rfl) ?_
              walk_at "zt"
              by_cases h4 : y.1 < eqL R p o m
              · rw [if_pos ⟨h3, h4⟩] at hpg'
                rw [decide_eq_true (show (y.1 : Int) < (eqL R p o m : Nat) by omega)]
                walk_at "zt"
                refine ⟨small (by simp), NewO.good w7 fun t8 G8 H8 e8 w8 h8 => ?_⟩
                exact st_btw (e6.trans e8) w8 ⟨some (eqL R p o m, p - o), _, _, _, rfl, ⟨t8, rfl, by rw [h8, show (p : Int) - (o : Int) = ((p - o : Nat) : Int) by omega]⟩, hpg', rfl⟩
              · rw [if_neg fun h => h4 h.2] at hpg'
                rw [decide_eq_false (show ¬ (y.1 : Int) < (eqL R p o m : Nat) by omega)]
                walk_at "zt"
                exact st_btw e6 w7 ⟨some y, _, _, _, rfl, ⟨t, rfl, ht⟩, hpg', rfl⟩
            · rw [if_neg fun h => h3 h.1] at hpg'
              rw [decide_eq_false (show ¬ (3 : Int) ≤ (eqL R p o m : Nat) by omega)]
              walk_at "zt"
              exact st_btw e6 w7 ⟨some y, _, _, _, rfl, ⟨t, rfl, ht⟩, hpg', rfl⟩
    · rintro σ' G6 W6 H6 e6 w6 ⟨b, vb, x5, x6, rfl, hb, hpg, rfl⟩
      rw [List.length_map, List.drop_length] at hpg
      have hpg' : b = lng R win p := hpg
      rw [hpg'] at hb
      walk_at "zt"
      exact k vb P1 G6 H6 (e15.trans e6) w6 hP1 hPl1 hb

theorem dpAll_snoc {G : Hp} : ∀ {xs : List V} {ds : List PyData} {v : V} {d : PyData}, DpAll K G xs ds → Dp K G v d → DpAll K G (xs ++ [v]) (ds ++ [d])
  | _, _, _, _, .nil, h => .cons h .nil
  | _, _, _, _, .cons a t, h => .cons a (dpAll_snoc t h)
theorem mk_mat {G H : Hp} {W : Wl} {C a : Addr} {l win : Int} {R : Addr → Hp → Prop} (w : Wd G W H) (k : ∀ x dx pl G' H', Same G G' → Wd G' (matW C x dx a win l pl [] W) H' → R x H') :
    ∀ x dx, H x = none → H dx = none → dx ≠ x → sp_minit C (.ref x :: ([.ref a, .int l, .int win] ++ [])) (upd (upd H dx (.own x)) x (.ins C dx [])) (fun v H2 => v = .non ∧ R x H2) E0 := fun x dx hx hd ne => by
  have w1 : Wd (upd G dx (.own x)) ((x, Is (.ins C dx [])) :: W) (upd (upd H dx (.own x)) x (.ins C dx [])) := (w.new hd).newM (by rw [upd_ne (fun z => ne z.symm)]; exact hx) rfl
  exact ⟨_, W, x, dx, a, l, win, w1, rfl, fun pl H2 w2 => ⟨rfl, k x dx pl _ H2 (same_upd (w.free hd)) w2⟩⟩
theorem wd_suff {G H : Hp} {W1 W : Wl} (w : Wd G (W1 ++ W) H) : Wd G W H := ⟨w.ex, fun q hq => w.own q (List.mem_append_right _ hq), by
  have h := w.nd
  rw [List.map_append] at h
  exact (List.nodup_append.mp h).2.1⟩
def sp_tk (K : PySem.W.Frag) (ch : List Int → Nat → Ch) : Sp := fun vs H Q _ => ∃ (G : Hp) (W : Wl) (a : Addr) (R : List Int) (start win : Nat), Wd G W H ∧ vs = [.ref a, .int (start : Int), .int (R.length : Int), .int 0, .int (win : Int)] ∧ HL G a R ∧ start ≤ R.length ∧ R.length ≤ 1000 ∧
  ∀ q xs G' H', Same G G' → Wd G' W H' → G' q = some (.lst xs) → DpAll K G' xs (tks R (ch R win) start) → Q (.ref q) H'
theorem ok_greedy_tokens (T : Txt K mg A) : FnOk P w K mg base CX0 4 A.f_greedy_tokens A.fd_greedy_tokens sP_greedy_tokens (sp_tk K chG) := by
  refine okD T.F_greedy_tokens sc_greedy_tokens (fun vs H Q E h => ?_) (fun cdv Ar outer s H vs Q E hr h => ⟨_, (pss_cons (ps_par3 (i := 5) (j := 6) (l := 7) (by rfl) sc_greedy_tokens.nd rfl rfl rfl (by decide) (by decide) (by decide) rfl rfl rfl (pa_cons (pe_make T.M_Matcher (ok_Matcher___init__ T) (hr.mono (by decide)) rfl T.gC_Matcher T.b_Matcher___init__ .nil pass0 (pa_cons (pv 0) (pa_cons (pv 3) (pa_cons (pv 4) pa_nil)))) (pa_cons (pe_lst pa_nil) (pa_cons (pv 1) pa_nil))) (by rfl))
      (pss_cons (ps_while PassesOwn.never (pt_cmpR op_lt (pv 7) (pv 2) (nomark _)) (pss_cons (ps_set (i := 8) sc_greedy_tokens.nd rfl (Or.inl rfl) (pe_meth (pv 5) T.cl_Matcher T.mt_Matcher_longest (ok_Matcher_longest T) (hr.mono (by decide)) T.b_Matcher_longest .nil pass0 (pa_cons (pv 7) (pa_cons (pv 2) pa_nil))))
      (pss_cons (ps_expr (pe_bm PySem.F.plainAttrs_list PySem.F.slot_list_append PySem.F.type_list_append mt_append (pv 6) (pa_cons (pe_ifExp (pt_cmpR op_isN (pv 8) (pe_non) (nomark _)) (pe_ix ix_list (pv 0) (pv 7) (fun _ _ => rfl)) (pv 8)) pa_nil)))
      (pss_one (ps_aug (i := 7) sc_greedy_tokens.nd rfl (Or.inl rfl) (pe_ifExp (pt_cmpR op_isN (pv 8) (pe_non) (nomark _)) (pe_int) (pe_ix ix_tup (pv 8) (pe_int) (fun _ _ => rfl))) ip_add)))))
      (pss_one (ps_ret (pv 6))))), ?_⟩)
  · obtain ⟨G, W, a, R, start, win, _, rfl, _⟩ := h
    rfl
  · obtain ⟨G, W, a, R, start, win, w, rfl, ha, hsR, hR, k⟩ := h
    have g := good_G R win
    walk_at "zt"
    refine mk_mat w fun x dx pl G1 H2 e1 w2 => ?_
    have a1 := ha.up e1
    walk_at "zt"
    refine ⟨small (by simp), NewO.own w2 fun f H3 w3 => ?_⟩
    have w4 : Wd G1 (matW A.C_Matcher x dx a (win : Int) ((0 : Nat) : Int) pl [] ((f, Is (.lst [])) :: W)) H3 := w3.perm posn_perm
    walk_at "zt"
    refine ⟨_, _, _, rfl, ?_⟩
    dsimp only
    walk_at "zt"
    refine while_m (fun z σ G' W' => ∃ (p l : Nat) (P1 : List Pl) (acc : List V) (ds : List PyData) (x8 : Option V), W' = matW A.C_Matcher x dx a (win : Int) (l : Int) pl P1 ((f, Is (.lst acc)) :: W) ∧ PIn R l P1 ∧ P1.length ≤ l ∧ l ≤ p ∧ start ≤ p ∧ p ≤ R.length ∧ z = R.length - p ∧ DpAll K G' acc ds ∧ ds ++ tks R (chG R win) p = tks R (chG R win) start ∧
      σ = [some (.ref a), some (.int (start : Int)), some (.int (R.length : Int)), some (.int 0), some (.int (win : Int)), some (.ref x), some (.ref f), some (.int (p : Int)), x8]) (R.length - start) w4 ⟨start, 0, [], [], [], _, rfl, PIn.zero R, Nat.le_refl _, Nat.zero_le _, Nat.le_refl _, hsR, rfl, .nil, rfl, rfl⟩ ?_
    rintro z σ' G5 W5 H5 e5 w5 ⟨p, l, P1, acc, ds, x8, rfl, hP, hPl, hlp, hsp, hpR, rfl, hD, hds, rfl⟩
    have a5 := a1.up e5
    have hal : acc.length ≤ 1000 := by
      have h1 := congrArg List.length hds
      rw [List.length_append] at h1
      have h2 := (tks_len g hsR).2
      have h3 := dpAll_len hD
      omega
    walk_at "zt"
    by_cases hlt : p < R.length
    · rw [decide_eq_true (show (p : Int) < (R.length : Int) by omega)]
      walk_at "zt"
      refine wt_go ?_
      walk_at "zt"
      refine ⟨x, dx, _, rfl, Wd.is1 w5, rfl, ?_⟩
      walk_at "zt"
      refine ⟨G5, _, x, dx, a, pl, win, l, p, P1, R, w5, rfl, a5, hP, hPl, hlp, hpR, hR, fun v P2 G6 H6 e6 w6 hP2 hPl2 hv => ?_⟩
      have hc := tks_cons g hlt
      have hsn := spn_ok g hlt
      have a6 := a5.up e6
      have hD6 := dpAll_up e6 hD
      have hf : ∀ {H' : Hp} {G' : Hp}, Wd G' (matW A.C_Matcher x dx a (win : Int) (p : Int) pl P2 ((f, Is (.lst acc)) :: W)) H' → H' f = some (.lst acc) := fun {H' G'} w' => by
        obtain ⟨o, ho, rfl⟩ := w'.get (List.mem_cons_of_mem _ (List.mem_cons_of_mem _ (List.mem_append_right _ List.mem_cons_self)))
        exact ho
      have hW : ∀ y : List V, matW A.C_Matcher x dx a (win : Int) (p : Int) pl P2 ((f, Is (.lst y)) :: W) = ((x, Is (.ins A.C_Matcher dx (matF a (win : Int) (p : Int) pl))) :: (pl, Is (.dT (P2.map encP))) :: P2.map plV) ++ (f, Is (.lst y)) :: W := fun y => rfl
      walk_at "zt"
      refine ⟨tyL' (hf w6), ?_⟩
      walk_at "zt"
      walk_at "zi"
      walk_at "zt"
      have hkey : ∀ (d : PyData) (vv : V), Dp K G6 vv d → tok R (chG R win) p = d → ∃ H7, upd H6 f (.lst (acc ++ [vv])) = H7 ∧ Wd G6 (matW A.C_Matcher x dx a (win : Int) (p : Int) pl P2 ((f, Is (.lst (acc ++ [vv]))) :: W)) H7 ∧ DpAll K G6 (acc ++ [vv]) (ds ++ [d]) ∧ (ds ++ [d]) ++ tks R (chG R win) (p + spn (chG R win) p) = tks R (chG R win) start := fun d vv hd ht => by
        refine ⟨_, rfl, ?_, dpAll_snoc hD6 hd, ?_⟩
        · rw [hW] at w6 ⊢
          exact Wd.putI w6
        · rw [← hds, hc, ht, List.append_assoc]
          rfl
      cases hm : lng R win p with
      | none =>
        rw [hm] at hv
        obtain rfl : v = .non := hv
        have hs1 : spn (chG R win) p = 1 := by
          unfold spn
          rw [show chG R win p = none from hm]
        have ht1 : tok R (chG R win) p = .int (R.getD p 0) := by
          unfold tok
          rw [show chG R win p = none from hm]
        refine ⟨rfl, ?_⟩
        rw [decide_eq_true rfl]
        walk_at "zt"
        refine st_ixL (seq_up w6 a6.seq) (getD_at hlt) ?_
        walk_at "zt"
        refine st_appL (hf w6) (by omega) ?_
        obtain ⟨H7, rfl, w7, hD7, hds7⟩ := hkey _ _ (.int (R.getD p 0)) ht1
        walk_at "zt"
        walk_at "zi"
        walk_at "zt"
        refine ⟨rfl, ?_⟩
        rw [decide_eq_true rfl]
        walk_at "zt"
        rw [hs1] at hds7
        exact st_wbt (m2 := R.length - (p + 1)) (by omega) (e5.trans e6) w7 ⟨p + 1, p, P2, _, _, _, rfl, hP2, hPl2, by omega, by omega, by omega, rfl, hD7, hds7, rfl⟩
      | some y =>
        rw [hm] at hv
        obtain ⟨t, rfl, ht⟩ := hv
        have hs1 : spn (chG R win) p = y.1 := by
          unfold spn
          rw [show chG R win p = some y from hm]
        have ht1 : tok R (chG R win) p = .tuple [.int (y.1 : Int), .int (y.2 : Int)] := by
          unfold tok
          rw [show chG R win p = some y from hm]
        refine ⟨rfl, ?_⟩
        rw [decide_eq_false (show ¬ V.ref t = V.non from fun e => nomatch e)]
        walk_at "zt"
        refine st_appL (hf w6) (by omega) ?_
        obtain ⟨H7, rfl, w7, hD7, hds7⟩ := hkey _ _ (.tup (SqT.of ht) (.cons (.int (y.1 : Int)) (.cons (.int (y.2 : Int)) .nil))) ht1
        walk_at "zt"
        walk_at "zi"
        walk_at "zt"
        refine ⟨rfl, ?_⟩
        rw [decide_eq_false (show ¬ V.ref t = V.non from fun e => nomatch e)]
        walk_at "zt"
        refine st_ixT (SqT.of (w7.at ht)) (atI_nat (j := 0) rfl) ?_
        walk_at "zt"
        rw [hs1] at hds7 hsn
        exact st_wbt (m2 := R.length - (p + y.1)) (by omega) (e5.trans e6) w7 ⟨p + y.1, p, P2, _, _, _, rfl, hP2, hPl2, by omega, by omega, hsn.2, rfl, hD7, hds7, by rw [Int.natCast_add]; rfl⟩
    · rw [decide_eq_false (show ¬ (p : Int) < (R.length : Int) by omega)]
      walk_at "zt"
      obtain rfl : p = R.length := by omega
      rw [tks_end R _ (Nat.le_refl _), List.append_nil] at hds
      have hW : matW A.C_Matcher x dx a (win : Int) (l : Int) pl P1 ((f, Is (.lst acc)) :: W) = ((x, Is (.ins A.C_Matcher dx (matF a (win : Int) (l : Int) pl))) :: (pl, Is (.dT (P1.map encP))) :: P1.map plV) ++ (f, Is (.lst acc)) :: W := rfl
      rw [hW] at w5
      obtain ⟨o, rfl, ho, e6, w6⟩ := w5.freeze
      have w7 : Wd _ W H5 := wd_suff w6
      exact k f acc _ H5 (e1.trans (e5.trans e6)) w7 upd_same (by rw [← hds]; exact dpAll_up e6 hD)

theorem dF_none {d : PyData} {ns : List Int} (h : DOk d ns) (hl : ns.length ≤ 70000) : dF d = none := by
  have hb : badP (inR 0 255) (ns.map .int) = none := badP_none fun j _ e he => by
    rw [List.getElem?_map] at he
    obtain ⟨n, hn, rfl⟩ := Option.map_eq_some_iff.mp he
    have := h.2 n (List.mem_of_getElem? hn)
    show (decide (0 ≤ n) && decide (n ≤ 255)) = true
    rw [decide_eq_true this.1, decide_eq_true this.2]
    rfl
  have go : (if 70000 < (ns.map PyData.int).length then some (-1) else badP (inR 0 255) (ns.map .int)) = none := by
    rw [if_neg (by rw [List.length_map]; omega), hb]
  rcases h.1 with rfl | rfl <;> exact go
def sp_tbX (K : PySem.W.Frag) (fg Cd : Addr) : Sp := fun vs H Q E => ∃ (G : Hp) (W : Wl) (v b : V) (d db : PyData) (n m : Nat), Wd G W H ∧ vs = [.ref fg, v, b, .int 32768] ∧ Dp K G v d ∧ szB MO 80000 n d = true ∧ (dF d = none → szB MO 200 n d = true) ∧ Dp K G b db ∧ szB MO 200 m db = true ∧ FltQ Cd Cd Cd G W Q E (grF d db)
theorem ok_tokens_behind (T : Txt K mg A) : FnOk P w K mg base (L2.CX P w) 5 A.f_tokens_behind A.fd_tokens_behind sP_tokens_behind (sp_tbX K A.f_greedy_tokens A.x_BadData) := by
  refine okX T.F_tokens_behind sc_tokens_behind (fun vs H Q E h => ?_) (fun cdv Ar outer s H vs Q E hr h => ?_)
  · obtain ⟨G, W, v, b, d, db, n, m, _, rfl, _⟩ := h
    rfl
  · obtain ⟨G, W, v, b, d, db, n, m, w, rfl, hd, hz, hz2, hb, hzb, h⟩ := h
    refine ⟨_, (pss_cons (ps_par (i := 4) (j := 5) (by rfl) sc_tokens_behind.nd rfl rfl (by decide) rfl rfl (pa_cons (pe_call (ok_checked_data T) (hr.mono (by decide)) rfl T.m_checked_data T.F_checked_data.kp T.b_checked_data .nil (passes_call (takes_of rfl rfl rfl rfl) (fun _ _ _ _ h => h)) (pa_cons (pv 1) pa_nil)) (pa_cons (pe_call (ok_checked_data T) (hr.mono (by decide)) rfl T.m_checked_data T.F_checked_data.kp T.b_checked_data .nil (passes_call (takes_of rfl rfl rfl rfl) (fun _ _ _ _ h => h)) (pa_cons (pv 2) pa_nil)) pa_nil)) (by rfl))
      (pss_one (ps_ret (pe_callNL (i := 0) (ok_greedy_tokens T) (hr.mono (by decide)) rfl (Or.inl rfl) T.F_greedy_tokens.kp T.kb_greedy_tokens_3_floor_window.choose_spec pass0 (pa_cons (pe_lst (StX.pa_star (pv 5) (StX.pa_star (pv 4) pa_nil))) (pa_cons (pe_callB call_len_seq (by rfl) T.z_len PySem.boot_len (pa_cons (pv 5) pa_nil)) (pa_cons (pe_op op_add (pe_callB call_len_seq (by rfl) T.z_len PySem.boot_len (pa_cons (pv 5) pa_nil)) (pe_callB call_len_seq (by rfl) T.z_len PySem.boot_len (pa_cons (pv 4) pa_nil))) pa_nil))) (pk_cons (pe_int) (pk_cons (pv 3) pk_nil)))))), ?_⟩
    unfold grF at h
    walk_at "zt"
    refine ⟨G, W, v, d, n, w, rfl, hd, hz, fun i hi => ?_, fun ht p1 some1 G1 H1 hok e1 w1 => ?_⟩
    · rw [hi] at h
      exact h
    have hl1 : some1.length ≤ 200 := hok.len (hz2 ht)
    rw [ht] at h
    obtain ⟨o, rfl, _, e2, w2⟩ := w1.freeze1
    have h2 : HL (upd G1 p1 (.lst (some1.map V.int))) p1 some1 := upd_same
    generalize upd G1 p1 (HO.lst (some1.map V.int)) = G2 at e2 w2 h2
    walk_at "zt"
    refine ⟨G2, W, b, db, m, w2, rfl, dmono (e1.trans e2) hb, szB_mono (Nat.le_refl _) (by decide) (Nat.le_refl _) hzb, fun i hi => ?_, fun hbn p3 row G3 H3 hok2 e3 w3 => ?_⟩
    · rw [hi] at h
      exact Out.up h (e1.trans e2)
    have hl3 : row.length ≤ 200 := hok2.len hzb
    rw [hbn] at h
    obtain ⟨o, rfl, _, e4, w4⟩ := w3.freeze1
    have h4 : HL (upd G3 p3 (.lst (row.map V.int))) p3 row := upd_same
    generalize upd G3 p3 (HO.lst (row.map V.int)) = G4 at e4 w4 h4
    have h24 := (h2.up e3).up e4
    have e04 := e1.trans (e2.trans (e3.trans e4))
    walk_at "zt"
    refine st_callNL rfl ?_
    walk_at "zt"
    refine ⟨p3, _, rfl, .inr (seq_up w4 h4.seq), ?_⟩
    walk_at "zt"
    refine ⟨p1, _, rfl, .inr (seq_up w4 h24.seq), ?_⟩
    walk_at "zt"
    have hls : (row.map V.int ++ (some1.map V.int ++ [])).length ≤ 1000000 := by
      rw [List.length_append, List.length_append, List.length_map, List.length_map]
      show row.length + (some1.length + 0) ≤ _
      omega
    refine ⟨small hls, NewO.good w4 fun p5 G5 H5 e5 w5 h5 => ?_⟩
    have h5 : HL G5 p5 (row ++ some1) := by
      show _ = _
      rw [h5, List.append_nil, ← List.map_append]
    walk_at "zt"
    refine ⟨p3, _, rfl, .inl (seq_up w5 (h4.up e5).seq), ?_⟩
    walk_at "zt"
    refine ⟨p3, _, rfl, .inl (seq_up w5 (h4.up e5).seq), ?_⟩
    walk_at "zt"
    refine ⟨p1, _, rfl, .inl (seq_up w5 (h24.up e5).seq), ?_⟩
    walk_at "zt"
    rw [List.length_map, List.length_map]
    have hlen : (row.length : Int) + (some1.length : Int) = ((row ++ some1).length : Int) := by
      rw [List.length_append]
      omega
    rw [hlen]
    refine ⟨rfl, rfl, G5, W, p5, row ++ some1, row.length, 32768, w5, rfl, h5, by rw [List.length_append]; omega, by rw [List.length_append]; omega, fun q xs G6 H6 e6 w6 hq hD => ?_⟩
    exact h _ G6 H6 (e04.trans (e5.trans e6)) w6
def sp_grX (K : PySem.W.Frag) (Cd : Addr) : Sp := fun vs H Q E => ∃ (G : Hp) (W : Wl) (v b : V) (d db : PyData) (n m : Nat), Wd G W H ∧ vs = [v, b, .int 32768] ∧ Dp K G v d ∧ szB MO 80000 n d = true ∧ (dF d = none → szB MO 200 n d = true) ∧ Dp K G b db ∧ szB MO 200 m db = true ∧ FltQ Cd Cd Cd G W Q E (grF d db)
theorem ok_greedy (T : Txt K mg A) : FnOk P w K mg base (L2.CX P w) 6 A.f_greedy A.fd_greedy sP_greedy (sp_grX K A.x_BadData) := by
  refine okX T.F_greedy sc_greedy (fun vs H Q E h => ?_) (fun cdv Ar outer s H vs Q E hr h => ⟨_, (pss_one (ps_ret (pe_call (ok_tokens_behind T) (hr.mono (by decide)) rfl T.m_tokens_behind T.F_tokens_behind.kp T.b_tokens_behind .nil (passes_call (takes_of rfl rfl rfl rfl) (fun _ _ _ _ h => h)) (pa_cons (pe_glob (v := .ref A.f_greedy_tokens) rfl T.m_greedy_tokens rfl) (pa_cons (pv 0) (pa_cons (pv 1) (pa_cons (pv 2) pa_nil))))))), ?_⟩)
  · obtain ⟨G, W, v, b, d, db, n, m, _, rfl, _⟩ := h
    rfl
  · obtain ⟨G, W, v, b, d, db, n, m, w, rfl, hd, hz, hz2, hb, hzb, h⟩ := h
    walk_at "zt"
    exact ⟨G, W, v, b, d, db, n, m, w, rfl, hd, hz, hz2, hb, hzb, h⟩
/-! ### what the law tells -/
def oiV : Option Int → V
  | none => .non
  | some i => .int i
def sp_df (K : PySem.W.Frag) : Sp := fun vs H Q _ => ∃ (G : Hp) (W : Wl) (v : V) (d : PyData) (n : Nat), Wd G W H ∧ vs = [v] ∧ Dp K G v d ∧ szB MO 200 n d = true ∧ ∀ G' H', Same G G' → Wd G' W H' → Q (oiV (dF d)) H'
theorem ok__law_data_fault (T : Txt K mg A) : FnOk P w K mg base CX0 2 A.f__law_data_fault A.fd__law_data_fault sP__law_data_fault (sp_df K) := by
  refine okD T.F__law_data_fault sc__law_data_fault (fun vs H Q E h => ?_) (fun cdv Ar outer s H vs Q E hr h => ⟨_, (pss_cons (ps_if (PW.pt (pw_or (pt_not (pt_val (pe_callB call_isiT (by rfl) T.z_isinstance (by decide +kernel) (pa_cons (pv 0) (pa_cons (pe_tup (pa_cons (pe_bltn (v := .ty "list") (u := .type "list") (by rfl) T.z_list (by decide +kernel) rfl) (pa_cons (pe_bltn (v := .ty "tuple") (u := .type "tuple") (by rfl) T.z_tuple (by decide +kernel) rfl) pa_nil))) pa_nil))))) (pw_or1 (pt_cmpR op_gt (pe_callB call_len_seq (by rfl) T.z_len PySem.boot_len (pa_cons (pv 0) pa_nil)) (pe_int) (nomark _))))) (pss_one (ps_ret (pe_un un_neg (pe_int)))) pss_nil)
      (pss_cons (ps_for PassesOwn.never rfl (pi_range1 (by rfl) T.z_range (pa_cons (pe_callB call_len_seq (by rfl) T.z_len PySem.boot_len (pa_cons (pv 0) pa_nil)) pa_nil)) (pg_name (i := 1) sc__law_data_fault.nd rfl (Or.inl rfl)) (pss_one (ps_if (PW.pt (pw_or (pt_not (pt_val (pe_call (ok__law_whole T) (hr.mono (by decide)) rfl T.m__law_whole T.F__law_whole.kp T.b__law_whole .nil pass0 (pa_cons (pe_ix ix_seqA (pv 0) (pv 1) (fun _ _ => rfl)) pa_nil)))) (pw_or1 (pt_not (pt_chain op_le op_le (pe_int) (pe_ix ix_seqA (pv 0) (pv 1) (fun _ _ => rfl)) (pe_int)))))) (pss_one (ps_ret (pv 1))) pss_nil)))
      (pss_one (ps_ret (pe_non))))), ?_⟩)
  · obtain ⟨G, W, v, d, n, _, rfl, _⟩ := h
    rfl
  · obtain ⟨G, W, v, d, n, w, rfl, hd, hz, h⟩ := h
    walk_at "zq"
    refine ⟨by decide, NewO.good w fun p G1 H1 e1 w1 hp => ?_⟩
    walk_at "zq"
    refine isiLT (w1.at hp) (dUp w1 (dmono e1 hd)) ?_
    walk_at "zq"
    cases hs : (isLst d || isTup d) with
    | false =>
      rw [dF_no hs] at h
      walk_at "zq"
      exact h G1 H1 e1 w1
    | true =>
      obtain ⟨a, xs, ds, rfl, ha, hall, hds, hxl⟩ := seq_ds (dmono e1 hd) hz hs
      have hF : dF d = if 70000 < ds.length then some (-1) else badP (inR 0 255) ds := by rcases hds with rfl | rfl <;> rfl
      rw [hF, ← dpA_len hall] at h
      have atA : ∀ {H' : Hp} {G' : Hp} {W' : Wl}, Same G1 G' → Wd G' W' H' → SqL K H' a xs ∨ SqT K H' a xs := fun e w => ha.imp (fun h => seq_up w (e.seq h)) fun h => tup_up w (seqT e h)
      walk_at "zq"
      refine ⟨a, _, rfl, atA (fun _ _ h => h) w1, ?_⟩
      walk_at "zq"
      rw [decide_eq_false (show ¬ (70000 : Int) < (xs.length : Int) by omega)]
      rw [if_neg (by omega)] at h
      walk_at "zq"
      refine ⟨a, _, rfl, atA (fun _ _ h => h) w1, ?_⟩
      walk_at "zq"
      refine for_r1 (by omega) (fun i σ G' W' => W' = W ∧ (∃ y, σ = [some (.ref a), y]) ∧ ∀ j : Nat, j < i → ∀ e, ds[j]? = some e → inR 0 255 e = true) w1 ⟨rfl, ⟨_, rfl⟩, fun j hj => absurd hj (Nat.not_lt_zero _)⟩ ?_ ?_
      · rintro i σ' G2 W' H2 hi e2 w2 ⟨rfl, ⟨x1, rfl⟩, hall0⟩
        have hix : i < xs.length := by omega
        obtain ⟨di, hdi, hyd⟩ := dpA_at hall (List.getElem?_eq_getElem hix)
        have hat : atI xs (i : Int) = some xs[i] := atI_nat (List.getElem?_eq_getElem hix)
        generalize xs[i] = y at hyd hat
        have hyd2 := dmono e2 hyd
        have good : inR 0 255 di = true → Btw (fun i σ G' W'' => W'' = W' ∧ (∃ y, σ = [some (.ref a), y]) ∧ ∀ j : Nat, j < i → ∀ e, ds[j]? = some e → inR 0 255 e = true) G1 (i + 1) [some (.ref a), some (.int (i : Int))] H2 := fun hb => by
          refine st_btw e2 w2 ⟨rfl, ⟨_, rfl⟩, fun j hj e he => ?_⟩
          rcases Nat.lt_or_ge j i with z | z
          · exact hall0 j z e he
          · obtain rfl : j = i := by omega
            rw [hdi] at he
            cases he
            exact hb
        have bad : inR 0 255 di = false → Q (.int (i : Int)) H2 := fun hb => by
          rw [badP_some hdi hb hall0] at h
          exact h G2 H2 (e1.trans e2) w2
        walk_at "zq"
        refine st_ixA (atA e2 w2) hat ?_
        walk_at "zq"
        refine ⟨_, rfl, dp_knd (dUp w2 hyd2), ?_⟩
        rw [isInt_d hyd2]
        cases hI : isI di with
        | false =>
          have hb : inR 0 255 di = false := by
            cases di with
            | int _ => exact nomatch (show true = false from hI)
            | _ => rfl
          walk_at "zq"
          exact bad hb
        | true =>
          obtain ⟨nn, rfl⟩ : ∃ nn, di = .int nn := by
            cases di with
            | int nn => exact ⟨nn, rfl⟩
            | _ => exact nomatch (show false = true from hI)
          obtain rfl : y = .int nn := by cases hyd; rfl
          walk_at "zq"
          refine st_ixA (atA e2 w2) hat ?_
          walk_at "zq"
          by_cases h0 : 0 ≤ nn
          · rw [decide_eq_true h0]
            walk_at "zq"
            by_cases h2 : nn ≤ 255
            · rw [decide_eq_true h2]
              walk_at "zq"
              refine good ?_
              show (decide (0 ≤ nn) && decide (nn ≤ 255)) = true
              rw [decide_eq_true h0, decide_eq_true h2]
              rfl
            · rw [decide_eq_false h2]
              walk_at "zq"
              refine bad ?_
              show (decide (0 ≤ nn) && decide (nn ≤ 255)) = false
              rw [decide_eq_true h0, decide_eq_false h2]
              rfl
          · rw [decide_eq_false h0]
            walk_at "zq"
            refine bad ?_
            show (decide (0 ≤ nn) && decide (nn ≤ 255)) = false
            rw [decide_eq_false h0]
            rfl
      · rintro σ' G2 W' H2 e2 w2 ⟨rfl, ⟨x1, rfl⟩, hall0⟩
        rw [badP_none (by rw [← dpA_len hall]; exact fun j hj => hall0 j (by omega))] at h
        walk_at "zq"
        exact h G2 H2 (e1.trans e2) w2

/-- a token that was drawn: as far as m -/
def TokM (m : Int) (d : PyData) : Prop := (∃ i, d = .int i ∧ 0 ≤ i ∧ i ≤ 255) ∨ ∃ s f, d = .tuple [.int s, .int f] ∧ 3 ≤ s ∧ s ≤ 258 ∧ 1 ≤ f ∧ f ≤ m
def sp_token (K : PySem.W.Frag) : Sp := fun vs H Q _ => ∃ (G : Hp) (W : Wl) (b : Addr) (m : Int), Wd G W H ∧ (b, BagI) ∈ W ∧ vs = [.ref b, .int m] ∧ 0 < m ∧ m ≤ 32768 ∧ ∀ v d G' H', Same G G' → Wd G' W H' → Dp K G' v d → TokM m d → Q v H'
theorem ok__law_token (T : Txt K mg A) : FnOk P w K mg base CX0 3 A.f__law_token A.fd__law_token sP__law_token (sp_token K) := by
  refine okD T.F__law_token sc__law_token (fun vs H Q E h => ?_) (fun cdv Ar outer s H vs Q E hr h => ⟨_, (pss_cons (ps_if (pt_cmpR op_eq (pe_call (ok__law_take T) (hr.mono (by decide)) rfl T.m__law_take T.F__law_take.kp T.b__law_take .nil pass0 (pa_cons (pv 0) (pa_cons (pe_int) pa_nil))) (pe_int) (nomark _)) (pss_one (ps_ret (pe_call (ok__law_take T) (hr.mono (by decide)) rfl T.m__law_take T.F__law_take.kp T.b__law_take .nil pass0 (pa_cons (pv 0) (pa_cons (pe_int) pa_nil))))) pss_nil)
      (pss_cons (ps_set (i := 2) sc__law_token.nd rfl (Or.inl rfl) (pe_call (ok__law_one T) (hr.mono (by decide)) rfl T.m__law_one T.F__law_one.kp T.b__law_one .nil pass0 (pa_cons (pv 0) (pa_cons (pe_lst (pa_cons (pe_int) (pa_cons (pe_int) (pa_cons (pe_int) (pa_cons (pe_int) (pa_cons (pe_int) (pa_cons (pe_int) (pa_cons (pe_int) (pa_cons (pe_int) (pa_cons (pe_op op_add (pe_int) (pe_call (ok__law_take T) (hr.mono (by decide)) rfl T.m__law_take T.F__law_take.kp T.b__law_take .nil pass0 (pa_cons (pv 0) (pa_cons (pe_int) pa_nil)))) pa_nil)))))))))) pa_nil))))
      (pss_one (ps_ret (pe_tup (pa_cons (pv 2) (pa_cons (pe_op op_add (pe_int) (pe_call (ok__law_take T) (hr.mono (by decide)) rfl T.m__law_take T.F__law_take.kp T.b__law_take .nil pass0 (pa_cons (pv 0) (pa_cons (pv 1) pa_nil)))) pa_nil))))))), ?_⟩)
  · obtain ⟨G, W, b, m, _, _, rfl, _⟩ := h
    rfl
  · obtain ⟨G, W, b, m, w, hm, rfl, hm0, hm1, k⟩ := h
    walk_at "zz"
    refine ⟨G, W, b, _, w, hm, rfl, by omega, by omega, fun r H1 hr0 hr1 w1 => ?_⟩
    walk_at "zz"
    refine ite2 (fun _ => ?_) (fun _ => ?_)
    · walk_at "zz"
      exact ⟨G, W, b, _, w1, hm, rfl, by omega, by omega, fun r H2 hr0 hr1 w2 => k _ _ G H2 (Same.refl _) w2 (.int r) (.inl ⟨r, rfl, by omega, by omega⟩)⟩
    · walk_at "zz"
      refine ⟨G, W, b, _, w1, hm, rfl, by omega, by omega, fun r2 H2 hr2 hr3 w2 => ?_⟩
      walk_at "zn"
      refine ⟨_, W, b, _, _, by assumption, hm, rfl, SqL.of (by walk_at "up"), by simp, by simp, fun v H3 hv w3 => ?_⟩
      obtain ⟨n, rfl, hn⟩ := (show AllP (fun v : V => ∃ n : Int, v = .int n ∧ 3 ≤ n ∧ n ≤ 258) [.int 3, .int 4, .int 5, .int 10, .int 11, .int 12, .int 258, .int 257, .int (3 + r2)] from ⟨⟨_, rfl, by omega, by omega⟩, ⟨_, rfl, by omega, by omega⟩, ⟨_, rfl, by omega, by omega⟩, ⟨_, rfl, by omega, by omega⟩, ⟨_, rfl, by omega, by omega⟩, ⟨_, rfl, by omega, by omega⟩, ⟨_, rfl, by omega, by omega⟩, ⟨_, rfl, by omega, by omega⟩, ⟨_, rfl, by omega, by omega⟩, trivial⟩).of v hv
      walk_at "zz"
      refine ⟨_, W, b, _, w3, hm, rfl, by omega, by omega, fun r4 H4 hr4 hr5 w4 => ?_⟩
      walk_at "zz"
      refine ⟨small (by simp), NewO.good w4 fun p G5 H5 e5 w5 h5 => k _ _ G5 H5 (by walk_at "sm") w5 (.tup (SqT.of h5) (.cons (.int _) (.cons (.int _) .nil))) (.inr ⟨_, _, rfl, hn.1, hn.2, by omega, by omega⟩)⟩

theorem cut_two {ns : List Int} {i j : Int} (h0 : 0 ≤ i) (h1 : i < ns.length) (h2 : i < j) : ∃ ms : List Int, cutV (ns.map V.int) (some i) (some j) = ms.map V.int ∧ (∀ m ∈ ms, m ∈ ns) ∧ 0 < ms.length ∧ (ms.length : Int) ≤ j - i := by
  refine ⟨(ns.drop (min i.toNat ns.length)).take (min j.toNat ns.length - min i.toNat ns.length), ?_, ?_, ?_, ?_⟩
  · unfold cutV
    simp only [HT.sIx, if_neg (show ¬ i < 0 by omega), if_neg (show ¬ j < 0 by omega), List.length_map]
    rw [List.map_take, List.map_drop]
  · exact fun m hm => List.mem_of_mem_drop (List.mem_of_mem_take hm)
  · rw [List.length_take, List.length_drop]
    omega
  · rw [List.length_take, List.length_drop]
    omega
theorem Byt.app {ns ms : List Int} (h : Byt ns) (h2 : Byt ms) : Byt (ns ++ ms) := fun n hn => (List.mem_append.mp hn).elim (h n) (h2 n)
def Pool (G : Hp) (v : V) : Prop := ∃ a ms, v = .ref a ∧ HL G a ms ∧ Byt ms ∧ 0 < ms.length ∧ ms.length ≤ 12
def sp_drawn (K : PySem.W.Frag) : Sp := fun vs H Q _ => ∃ (G : Hp) (W : Wl) (b : Addr) (m : Int), Wd G W H ∧ (b, BagI) ∈ W ∧ vs = [.ref b, .int m] ∧ 0 ≤ m ∧ m ≤ 1000 ∧ ∀ p ns G' H', Same G G' → Wd G' W H' → HL G' p ns → Byt ns → (ns.length : Int) ≤ m → Q (.ref p) H'
theorem ok__law_drawn_data (T : Txt K mg A) : FnOk P w K mg base CX0 3 A.f__law_drawn_data A.fd__law_drawn_data sP__law_drawn_data (sp_drawn K) := by
  refine okD T.F__law_drawn_data sc__law_drawn_data (fun vs H Q E h => ?_) (fun cdv Ar outer s H vs Q E hr h => ⟨_, (pss_cons (ps_set (i := 2) sc__law_drawn_data.nd rfl (Or.inl rfl) (pe_lst (pa_cons (pe_lst (pa_cons (pe_int) pa_nil)) (pa_cons (pe_lst (pa_cons (pe_int) (pa_cons (pe_int) pa_nil))) (pa_cons (pe_lst (pa_cons (pe_int) (pa_cons (pe_int) (pa_cons (pe_int) (pa_cons (pe_int) pa_nil))))) (pa_cons (pe_lst (pa_cons (pe_int) (pa_cons (pe_int) (pa_cons (pe_int) pa_nil)))) (pa_cons (pe_lc (own := [("_law_turn", 3)]) (g := gName 3) (tt := tYes) rfl sc__law_drawn_data.nd (pi_range1 (by rfl) T.z_range (pa_cons (pe_int) pa_nil)) (blkOk_by (own := [("_law_turn", 3)]) (N := sN__law_drawn_data) (sc := defScope s__law_drawn_data) (by decide +kernel)) (fun _ _ _ _ _ => pg_name (i := 3) sc__law_drawn_data.nd rfl (Or.inl rfl)) (fun _ _ _ _ _ => pts_nil) (fun _ _ _ _ _ => (pe_call (ok__law_take T) (hr.mono (by decide)) rfl T.m__law_take T.F__law_take.kp T.b__law_take .nil pass0 (pa_cons (pv 0) (pa_cons (pe_int) pa_nil))))) pa_nil)))))))
      (pss_cons (ps_par (i := 4) (j := 5) (by rfl) sc__law_drawn_data.nd rfl rfl (by decide) rfl rfl (pa_cons (pe_call (ok__law_one T) (hr.mono (by decide)) rfl T.m__law_one T.F__law_one.kp T.b__law_one .nil pass0 (pa_cons (pv 0) (pa_cons (pv 2) pa_nil))) (pa_cons (pe_lst pa_nil) pa_nil)) (by rfl))
      (pss_cons (ps_set (i := 6) sc__law_drawn_data.nd rfl (Or.inl rfl) (pe_call (ok__law_take T) (hr.mono (by decide)) rfl T.m__law_take T.F__law_take.kp T.b__law_take .nil pass0 (pa_cons (pv 0) (pa_cons (pe_op op_add (pv 1) (pe_int)) pa_nil))))
      (pss_cons (ps_while PassesOwn.never (pt_cmpR op_lt (pe_callB call_len_seq (by rfl) T.z_len PySem.boot_len (pa_cons (pv 5) pa_nil)) (pv 6) (nomark _)) (pss_one (ps_if (PW.pt (pw_and (pt_cmpR op_gt (pe_callB call_len_seq (by rfl) T.z_len PySem.boot_len (pa_cons (pv 5) pa_nil)) (pe_int) (nomark _)) (pw_and1 (pt_cmpR op_eq (pe_call (ok__law_take T) (hr.mono (by decide)) rfl T.m__law_take T.F__law_take.kp T.b__law_take .nil pass0 (pa_cons (pv 0) (pa_cons (pe_int) pa_nil))) (pe_int) (nomark _))))) (pss_cons (ps_set (i := 7) sc__law_drawn_data.nd rfl (Or.inl rfl) (pe_call (ok__law_take T) (hr.mono (by decide)) rfl T.m__law_take T.F__law_take.kp T.b__law_take .nil pass0 (pa_cons (pv 0) (pa_cons (pe_callB call_len_seq (by rfl) T.z_len PySem.boot_len (pa_cons (pv 5) pa_nil)) pa_nil))))
      (pss_one (ps_set (i := 5) sc__law_drawn_data.nd rfl (Or.inl rfl) (pe_op op_cat (pv 5) (pe_slice sl_list (pv 5) (po_some (pv 7)) (po_some (pe_op op_add (pe_op op_add (pv 7) (pe_int)) (pe_call (ok__law_take T) (hr.mono (by decide)) rfl T.m__law_take T.F__law_take.kp T.b__law_take .nil pass0 (pa_cons (pv 0) (pa_cons (pe_int) pa_nil)))))))))) (pss_one (ps_set (i := 5) sc__law_drawn_data.nd rfl (Or.inl rfl) (pe_op op_cat (pv 5) (pe_op op_rep (pe_lst (pa_cons (pe_call (ok__law_one T) (hr.mono (by decide)) rfl T.m__law_one T.F__law_one.kp T.b__law_one .nil pass0 (pa_cons (pv 0) (pa_cons (pv 4) pa_nil))) pa_nil)) (pe_op op_add (pe_int) (pe_call (ok__law_take T) (hr.mono (by decide)) rfl T.m__law_take T.F__law_take.kp T.b__law_take .nil pass0 (pa_cons (pv 0) (pa_cons (pe_int) pa_nil)))))))))))
      (pss_one (ps_ret (pe_slice sl_list (pv 5) po_none (po_some (pv 6))))))))), ?_⟩)
  · obtain ⟨G, W, b, m, _, _, rfl, _⟩ := h
    rfl
  · obtain ⟨G, W, b, m, w, hm, rfl, h0, h1, k⟩ := h
    walk_at "zz"
    refine ⟨by decide, NewO.good w fun p1 G1 H1 e1 w1 q1 => ?_⟩
    walk_at "zz"
    refine ⟨by decide, NewO.good w1 fun p2 G2 H2 e2 w2 q2 => ?_⟩
    walk_at "zz"
    refine ⟨by decide, NewO.good w2 fun p3 G3 H3 e3 w3 q3 => ?_⟩
    walk_at "zz"
    refine ⟨by decide, NewO.good w3 fun p4 G4 H4 e4 w4 q4 => ?_⟩
    walk_at "zz"
    refine lc_r1 (by omega) (fun i acc _ => ∃ ns : List Int, acc = ns.map V.int ∧ Byt ns ∧ ns.length = i) w4 ⟨[], rfl, (fun _ h => nomatch h), rfl⟩ (fun _ => rfl) ?_ ?_
    · rintro i D G' H' acc hi e w' ⟨ns, rfl, hL, hl⟩
      walk_at "zz"
      refine ⟨G', _, b, _, w', by simp [hm], rfl, by omega, by omega, fun r4 H4 hr4 hr5 w4 => ?_⟩
      refine lc_put w4 (by walk_at "sm") (by rw [List.length_map]; omega) ⟨ns ++ [r4], by simp, hL.app fun n hn => ?_, by simp [hl]⟩
      rw [List.mem_singleton.mp hn]
      omega
    rintro p5 G5 H5 acc e5 w5 ⟨l5, rfl, hB5, hl5⟩
    obtain ⟨o, rfl, ho, e6, w6⟩ := w5.freeze1
    have q5 : HL (upd G5 p5 (.lst (l5.map V.int))) p5 l5 := upd_same
    generalize upd G5 p5 (.lst (l5.map V.int)) = G6 at e6 w6 q5
    walk_at "zz"
    refine ⟨small (by simp), NewO.good w6 fun p7 G7 H7 e7 w7 q7 => ?_⟩
    have f45 : Same G4 G7 := (e5.trans e6).trans e7
    have hall : AllP (Pool G7) [.ref p1, .ref p2, .ref p3, .ref p4, .ref p5] :=
      ⟨⟨p1, [97], rfl, f45 _ _ (e4 _ _ (e3 _ _ (e2 _ _ q1))), (show ∀ n ∈ [(97 : Int)], 0 ≤ n ∧ n ≤ 255 by decide), by decide, by decide⟩,
       ⟨p2, [97, 98], rfl, f45 _ _ (e4 _ _ (e3 _ _ q2)), (show ∀ n ∈ [(97 : Int), 98], 0 ≤ n ∧ n ≤ 255 by decide), by decide, by decide⟩,
       ⟨p3, [0, 255, 143, 144], rfl, f45 _ _ (e4 _ _ q3), (show ∀ n ∈ [(0 : Int), 255, 143, 144], 0 ≤ n ∧ n ≤ 255 by decide), by decide, by decide⟩,
       ⟨p4, [7, 7, 200], rfl, f45 _ _ q4, (show ∀ n ∈ [(7 : Int), 7, 200], 0 ≤ n ∧ n ≤ 255 by decide), by decide, by decide⟩,
       ⟨p5, l5, rfl, e7 _ _ q5, hB5, by omega, by omega⟩, trivial⟩
    have f7 : Same G G7 := (((e1.trans e2).trans e3).trans e4).trans f45
    clear q1 q2 q3 q4 w1 w2 w3 w4 w5 w6 e1 e2 e3 e4 e5 e6 e7 f45
    walk_at "zz"
    refine ⟨G7, _, b, p7, _, w7, hm, rfl, SqL.of q7, by simp, by simp, fun v H8 hv w8 => ?_⟩
    obtain ⟨ps, ms, rfl, hps, hBm, hm0, hm1⟩ := hall.of v hv
    walk_at "zz"
    refine ⟨by decide, NewO.good w8 fun pr G9 H9 e9 w9 q9 => ?_⟩
    walk_at "zz"
    refine ⟨G9, _, b, _, w9, hm, rfl, by omega, by omega, fun z H10 hz0 hz1 w10 => ?_⟩
    walk_at "zz"
    refine while_m (fun n σ G' W' => ∃ pr ns x3 x7, W' = W ∧ HL G' pr ns ∧ Byt ns ∧ (ns.length : Int) ≤ z + 14 ∧ n = (z - ns.length).toNat ∧ σ = [some (.ref b), some (.int m), some (.ref p7), x3, some (.ref ps), some (.ref pr), some (.int z), x7]) _ w10 ⟨pr, [], _, _, rfl, q9, (fun _ h => nomatch h), by simp; omega, rfl, rfl⟩ ?_
    rintro n σ' G11 W11 H11 e11 w11 ⟨pq, ns, x3, x7, rfl, hq, hBn, hnl, rfl, rfl⟩
    walk_at "zz"
    refine ⟨pq, _, rfl, .inl (seq_up w11 hq.seq), ?_⟩
    walk_at "zz"
    rw [List.length_map]
    refine ite2 (fun hlt => ?_) (fun hge => ?_)
    · have hlt := of_decide_eq_true hlt
      refine wt_go ?_
      walk_at "zz"
      refine ⟨pq, _, rfl, .inl (seq_up w11 hq.seq), ?_⟩
      walk_at "zz"
      rw [List.length_map]
      by_cases h2 : (2 : Int) < ns.length
      · rw [decide_eq_true h2]
        walk_at "zz"
        refine ⟨G11, _, b, _, w11, hm, rfl, by decide, by decide, fun r H12 hr0 hr1 w12 => ?_⟩
        walk_at "zz"
        refine ite2 (fun _ => ?_) (fun _ => ?_)
        · walk_at "zz"
          refine ⟨pq, _, rfl, .inl (seq_up w12 hq.seq), ?_⟩
          walk_at "zz"
          rw [List.length_map]
          refine ⟨G11, _, b, _, w12, hm, rfl, by omega, by omega, fun r13 H13 hr2 hr3 w13 => ?_⟩
          walk_at "zz"
          refine ⟨_, rfl, ?_⟩
          walk_at "zz"
          refine ⟨G11, _, b, _, w13, hm, rfl, by decide, by decide, fun r14 H14 hr4 hr5 w14 => ?_⟩
          walk_at "zz"
          refine ⟨_, rfl, ?_⟩
          refine st_slL (seq_up w14 hq.seq) w14 fun p15 G15 H15 e15 w15 h15 => ?_
          obtain ⟨ms2, hms, hmem, hl0, hl1⟩ := cut_two (ns := ns) (i := r13) (j := r13 + 2 + r14) hr2 hr3 (by omega)
          rw [hms] at h15
          walk_at "zz"
          refine st_catI (hUp w15 (hq.up e15)) (hUp w15 h15) (by omega) w15 fun p16 G16 H16 e16 w16 h16 => ?_
          exact st_wbt (m2 := (z - (ns ++ ms2).length).toNat) (by rw [List.length_append]; omega) (by walk_at "sm") w16 ⟨p16, ns ++ ms2, _, _, rfl, h16, hBn.app fun n hn => hBn n (hmem n hn), by rw [List.length_append]; omega, rfl, rfl⟩
        · walk_at "zz"
          refine ⟨G11, _, b, ps, _, w12, hm, rfl, (hps.up (e9.trans e11)).seq, by rw [List.length_map]; omega, by rw [List.length_map]; omega, fun v H13 hv w13 => ?_⟩
          obtain ⟨x, hx, rfl⟩ := List.mem_map.mp hv
          walk_at "zz"
          refine ⟨small (by simp), NewO.good w13 fun p14 G14 H14 e14 w14 h14 => ?_⟩
          walk_at "zz"
          refine ⟨G14, _, b, _, w14, hm, rfl, by decide, by decide, fun r15 H15 hr0 hr1 w15 => ?_⟩
          walk_at "zz"
          refine st_repI (hUp w15 h14) (by omega) (by omega) w15 fun p16 G16 H16 e16 w16 h16 => ?_
          walk_at "zz"
          refine st_catI (hUp w16 (hq.up (e14.trans e16))) (hUp w16 h16) (by rw [List.length_replicate]; omega) w16 fun p17 G17 H17 e17 w17 h17 => ?_
          exact st_wbt (m2 := (z - (ns ++ List.replicate (1 + r15).toNat x).length).toNat) (by rw [List.length_append, List.length_replicate]; omega) (by walk_at "sm") w17 ⟨p17, _, _, _, rfl, h17, hBn.app fun n hn => by rw [(List.mem_replicate.mp hn).2]; exact hBm x hx, by rw [List.length_append, List.length_replicate]; omega, rfl, rfl⟩
      · rw [decide_eq_false h2]
        walk_at "zz"
        refine ⟨G11, _, b, ps, _, w11, hm, rfl, (hps.up (e9.trans e11)).seq, by rw [List.length_map]; omega, by rw [List.length_map]; omega, fun v H13 hv w13 => ?_⟩
        obtain ⟨x, hx, rfl⟩ := List.mem_map.mp hv
        walk_at "zz"
        refine ⟨small (by simp), NewO.good w13 fun p14 G14 H14 e14 w14 h14 => ?_⟩
        walk_at "zz"
        refine ⟨G14, _, b, _, w14, hm, rfl, by decide, by decide, fun r15 H15 hr0 hr1 w15 => ?_⟩
        walk_at "zz"
        refine st_repI (hUp w15 h14) (by omega) (by omega) w15 fun p16 G16 H16 e16 w16 h16 => ?_
        walk_at "zz"
        refine st_catI (hUp w16 (hq.up (e14.trans e16))) (hUp w16 h16) (by rw [List.length_replicate]; omega) w16 fun p17 G17 H17 e17 w17 h17 => ?_
        exact st_wbt (m2 := (z - (ns ++ List.replicate (1 + r15).toNat x).length).toNat) (by rw [List.length_append, List.length_replicate]; omega) (by walk_at "sm") w17 ⟨p17, _, _, _, rfl, h17, hBn.app fun n hn => by rw [(List.mem_replicate.mp hn).2]; exact hBm x hx, by rw [List.length_append, List.length_replicate]; omega, rfl, rfl⟩
    · have hge := of_decide_eq_false (Bool.eq_false_iff.mpr hge)
      walk_at "zz"
      refine ⟨_, rfl, ?_⟩
      refine st_slL (seq_up w11 hq.seq) w11 fun p15 G15 H15 e15 w15 h15 => ?_
      rw [cut_lo hz0 (by rw [List.length_map]; omega)] at h15
      exact k p15 (ns.take z.toNat) G15 H15 (by walk_at "sm") w15 (by unfold HL; rw [h15, List.map_take]) (fun n hn => hBn n (List.mem_of_mem_take hn)) (by rw [List.length_take]; omega)
theorem ok__law_is_token (T : Txt K mg A) : FnOk P w K mg base CX0 2 A.f__law_is_token A.fd__law_is_token sP__law_is_token (sp_is_token K) := by
  refine okD T.F__law_is_token sc__law_is_token (fun vs H Q E h => ?_) (fun cdv Ar outer s H vs Q E hr h => ⟨_, (pss_cons (ps_if (pt_val (pe_call (ok__law_whole T) (hr.mono (by decide)) rfl T.m__law_whole T.F__law_whole.kp T.b__law_whole .nil pass0 (pa_cons (pv 0) pa_nil))) (pss_one (ps_ret (pe_chain op_le op_le (pe_int) (pv 0) (pe_int)))) pss_nil)
      (pss_cons (ps_if (PW.pt (pw_or (pt_not (pt_val (pe_callB call_isi (by rfl) T.z_isinstance (by decide +kernel) (pa_cons (pv 0) (pa_cons (pe_bltn (v := .ty "tuple") (u := .type "tuple") (by rfl) T.z_tuple (by decide +kernel) rfl) pa_nil))))) (pw_or (pt_cmpR op_ne (pe_callB call_len_seq (by rfl) T.z_len PySem.boot_len (pa_cons (pv 0) pa_nil)) (pe_int) (nomark _)) (pw_or (pt_not (pt_val (pe_call (ok__law_whole T) (hr.mono (by decide)) rfl T.m__law_whole T.F__law_whole.kp T.b__law_whole .nil pass0 (pa_cons (pe_ix ix_tup (pv 0) (pe_int) (fun _ _ => rfl)) pa_nil)))) (pw_or1 (pt_not (pt_val (pe_call (ok__law_whole T) (hr.mono (by decide)) rfl T.m__law_whole T.F__law_whole.kp T.b__law_whole .nil pass0 (pa_cons (pe_ix ix_tup (pv 0) (pe_int) (fun _ _ => rfl)) pa_nil))))))))) (pss_one (ps_ret (pe_bl))) pss_nil)
      (pss_one (ps_ret ((pe_and (pe_chain op_le op_le (pe_int) (pe_ix ix_tup (pv 0) (pe_int) (fun _ _ => rfl)) (pe_int)) (pe_one (pe_chain op_le op_le (pe_int) (pe_ix ix_tup (pv 0) (pe_int) (fun _ _ => rfl)) (pe_int))))))))), ?_⟩)
  · obtain ⟨x, d, rfl, _⟩ := h
    rfl
  · obtain ⟨x, d, rfl, hd, k⟩ := h
    walk_at "zz"
    refine ⟨x, rfl, dp_knd hd, ?_⟩
    rw [isInt_d hd]
    cases h1 : isI d with
    | true =>
      cases hd with
      | int i =>
        walk_at "zz"
        have e : tokB (.int i) = (decide (0 ≤ i) && decide (i ≤ 255)) := rfl
        rw [e] at k
        by_cases h0 : 0 ≤ i
        · rw [decide_eq_true h0] at k ⊢
          walk_at "zz"
          exact k
        · rw [decide_eq_false h0] at k ⊢
          walk_at "zz"
          exact k
      | _ => exact nomatch h1
    | false =>
      have hb : inR 0 255 d = false := by
        cases d with
        | int _ => exact nomatch h1
        | _ => rfl
      walk_at "zz"
      refine isiD hd kit_tup ⟨_, rfl, ?_⟩
      cases h2 : isTup d with
      | false =>
        rw [tok_no hb h2] at k
        walk_at "zz"
        exact k
      | true =>
        cases hd with
        | tup hs hall =>
          rename_i a xs ds
          walk_at "zz"
          refine ⟨_, _, rfl, .inr hs, ?_⟩
          walk_at "zz"
          by_cases hl : ds.length = 2
          · obtain ⟨x1, x2, d1, d2, rfl, rfl, y1, y2⟩ := two_of hall hl
            rw [show (!decide (V.int (([x1, x2] : List V).length : Int) = V.int 2)) = false by rfl]
            walk_at "zz"
            refine st_ixT (v := x1) hs rfl ?_
            walk_at "zz"
            refine ⟨x1, rfl, dp_knd y1, ?_⟩
            have e : tokB (.tuple [d1, d2]) = (inR 3 258 d1 && inR 1 32768 d2) := rfl
            rw [e] at k
            rw [isInt_d y1]
            cases y1 with
            | int i =>
              dsimp only [isI]
              walk_at "zz"
              refine st_ixT (v := x2) hs rfl ?_
              walk_at "zz"
              refine ⟨x2, rfl, dp_knd y2, ?_⟩
              rw [isInt_d y2]
              cases y2 with
              | int j =>
                dsimp only [isI]
                walk_at "zz"
                refine st_ixT (v := .int i) hs rfl ?_
                walk_at "zz"
                have e1 : (inR 3 258 (.int i) && inR 1 32768 (.int j)) = ((decide (3 ≤ i) && decide (i ≤ 258)) && (decide (1 ≤ j) && decide (j ≤ 32768))) := rfl
                rw [e1] at k
                by_cases g0 : 3 ≤ i
                · rw [decide_eq_true g0] at k ⊢
                  walk_at "zz"
                  by_cases g1 : i ≤ 258
                  · rw [decide_eq_true g1] at k ⊢
                    walk_at "zz"
                    refine st_ixT (v := .int j) hs rfl ?_
                    walk_at "zz"
                    by_cases g2 : 1 ≤ j
                    · rw [decide_eq_true g2] at k ⊢
                      walk_at "zz"
                      exact k
                    · rw [decide_eq_false g2] at k ⊢
                      walk_at "zz"
                      exact k
                  · rw [decide_eq_false g1] at k ⊢
                    walk_at "zz"
                    exact k
                · rw [decide_eq_false g0] at k ⊢
                  walk_at "zz"
                  exact k
              | _ =>
                dsimp only [isI]
                walk_at "zz"
                unfold inR at k
                rw [Bool.and_false] at k
                exact k
            | _ =>
              dsimp only [isI]
              walk_at "zz"
              exact k
          · rw [tok_len hl] at k
            rw [decide_eq_false (show ¬ V.int (xs.length : Int) = V.int 2 from fun e => hl (by injection e with e; rw [dpAll_len hall] at e; omega))]
            walk_at "zz"
            exact k
        | _ => exact nomatch h2

def sp_expd (K : PySem.W.Frag) : Sp := fun vs H Q _ => ∃ (G : Hp) (W : Wl) (a p : Addr) (xs : List V) (ds : List PyData) (row : List Int), Wd G W H ∧ vs = [.ref p, .ref a] ∧ (SqL K G a xs ∨ SqT K G a xs) ∧ DpAll K G xs ds ∧ (∀ d ∈ ds, tokB d = true) ∧ (SqL K G p (row.map V.int) ∨ SqT K G p (row.map V.int)) ∧ xs.length ≤ 300 ∧ row.length ≤ 1000 ∧
  (∀ j, fF ds row = some j → ∀ G' H', Same G G' → Wd G' W H' → Q (.int (j : Int)) H') ∧ (fF ds row = none → ∀ q zs G' H', Same G G' → Wd G' W H' → G' q = some (.lst zs) → Q (.ref q) H')
theorem atI_back {ns : List Int} {m : Int} (h0 : 0 < m) (h1 : m ≤ ns.length) : atI (ns.map V.int) ((ns.length : Int) - m) = some (.int (ns.getD (ns.length - m.toNat) 0)) := by
  have hlt : ns.length - m.toNat < ns.length := by omega
  rw [show (ns.length : Int) - m = ((ns.length - m.toNat : Nat) : Int) by omega]
  refine atI_nat ?_
  rw [List.getElem?_map, List.getElem?_eq_getElem hlt, List.getD_eq_getElem?_getD, List.getElem?_eq_getElem hlt]
  rfl
theorem ok__law_expanded (T : Txt K mg A) : FnOk P w K mg base CX0 2 A.f__law_expanded A.fd__law_expanded sP__law_expanded (sp_expd K) := by
  refine okD T.F__law_expanded sc__law_expanded (fun vs H Q E h => ?_) (fun cdv Ar outer s H vs Q E hr h => ⟨_, (pss_cons (ps_set (i := 2) sc__law_expanded.nd rfl (Or.inl rfl) (pe_callTy call_list_of (by rfl) T.z_list (by decide +kernel) (pa_cons (pv 0) pa_nil)))
      (pss_cons (ps_for PassesOwn.never rfl (pi_range1 (by rfl) T.z_range (pa_cons (pe_callB call_len_seq (by rfl) T.z_len PySem.boot_len (pa_cons (pv 1) pa_nil)) pa_nil)) (pg_name (i := 3) sc__law_expanded.nd rfl (Or.inl rfl)) (pss_cons (ps_set (i := 4) sc__law_expanded.nd rfl (Or.inl rfl) (pe_ix ix_seqA (pv 1) (pv 3) (fun _ _ => rfl)))
      (pss_one (ps_if (pt_val (pe_call (ok__law_whole T) (hr.mono (by decide)) rfl T.m__law_whole T.F__law_whole.kp T.b__law_whole .nil pass0 (pa_cons (pv 4) pa_nil))) (pss_one (ps_expr (pe_bm PySem.F.plainAttrs_list PySem.F.slot_list_append PySem.F.type_list_append mt_append (pv 2) (pa_cons (pv 4) pa_nil)))) (pss_one (ps_if (pt_cmpR op_gt (pe_ix ix_tup (pv 4) (pe_int) (fun _ _ => rfl)) (pe_callB call_len_seq (by rfl) T.z_len PySem.boot_len (pa_cons (pv 2) pa_nil)) (nomark _)) (pss_one (ps_ret (pv 3))) (pss_one (ps_for PassesOwn.never rfl (pi_range1 (by rfl) T.z_range (pa_cons (pe_ix ix_tup (pv 4) (pe_int) (fun _ _ => rfl)) pa_nil)) (pg_name (i := 5) sc__law_expanded.nd rfl (Or.inl rfl)) (pss_one (ps_expr (pe_bm PySem.F.plainAttrs_list PySem.F.slot_list_append PySem.F.type_list_append mt_append (pv 2) (pa_cons (pe_ix ix_list (pv 2) (pe_op op_sub (pe_callB call_len_seq (by rfl) T.z_len PySem.boot_len (pa_cons (pv 2) pa_nil)) (pe_ix ix_tup (pv 4) (pe_int) (fun _ _ => rfl))) (fun _ _ => rfl)) pa_nil))))))))))))
      (pss_one (ps_ret (pv 2))))), ?_⟩)
  · obtain ⟨G, W, a, p, xs, ds, row, _, rfl, _⟩ := h
    rfl
  · obtain ⟨G, W, a, p, xs, ds, row, w, rfl, ha, hx, ht, hp, hl, hr2, kx, k⟩ := h
    have hB : ∀ d ∈ ds, TokB d := fun d hd => TokB.of (ht d hd)
    have hxl : xs.length = ds.length := dpAll_len hx
    have atA : ∀ {H' : Hp} {G' : Hp} {W' : Wl}, Same G G' → Wd G' W' H' → SqL K H' a xs ∨ SqT K H' a xs := fun e w => ha.imp (fun h => seq_up w (e.seq h)) fun h => tup_up w (seqT e h)
    walk_at "zz"
    refine ⟨p, _, rfl, hp.imp (seq_up w) (tup_up w), fun p2 hp2 => ?_⟩
    have w2 : Wd G ((p2, Is (.lst (row.map V.int))) :: W) _ := w.newM hp2 rfl
    generalize upd H p2 (.lst (row.map V.int)) = H2 at w2
    walk_at "zz"
    refine ⟨a, _, rfl, atA (fun _ _ h => h) w2, ?_⟩
    walk_at "zz"
    refine for_r1 (by omega) (fun i σ G' W' => W' = (p2, Is (.lst ((rowAt ds row i).map V.int))) :: W ∧ (∀ j, FarAt ds row j → (∀ i, i < j → ¬ FarAt ds row i) → i ≤ j) ∧ ∃ x3 x4 x5, σ = [some (.ref p), some (.ref a), some (.ref p2), x3, x4, x5]) w2 ⟨rfl, fun _ _ _ => Nat.zero_le _, _, _, _, rfl⟩ ?_ ?_
    · rintro i σ' G3 W3 H3 hi e3 w3 ⟨rfl, hij, x3, x4, x5, rfl⟩
      obtain ⟨y, hy⟩ : ∃ y, xs[i]? = some y := ⟨_, List.getElem?_eq_getElem (by omega)⟩
      obtain ⟨d, hdi, hd0⟩ := dpAll_get hx hy
      have hd4 : Dp K G3 y d := dmono e3 hd0
      have hTb := hB d (List.mem_of_getElem? hdi)
      have hrl := rowAt_len (row := row) hB i
      have go : farB d (rowAt ds row i) = false → ∀ j, FarAt ds row j → (∀ i, i < j → ¬ FarAt ds row i) → i + 1 ≤ j := fun hf j h1 h2 => by
        have h3 := hij j h1 h2
        rcases Nat.lt_or_ge i j with h | h
        · exact h
        · have : j = i := by omega
          subst this
          obtain ⟨d2, h4, h5⟩ := h1
          rw [hdi] at h4
          cases h4
          rw [hf] at h5
          exact nomatch h5
      walk_at "zz"
      refine st_ixA (atA e3 w3) (atI_nat hy) ?_
      walk_at "zz"
      refine ⟨y, rfl, dp_knd (dUp w3 hd4), ?_⟩
      rw [isInt_d (dUp w3 hd4)]
      rcases hTb with ⟨i0, rfl, hi0⟩ | ⟨l, m, rfl, hl0, hl1, hm0, hm1⟩
      · cases hd4
        dsimp only [isI]
        walk_at "zz"
        refine ⟨tyL' (Wd.is1 w3), ?_⟩
        walk_at "zz"
        refine st_appL (Wd.is1 w3) (by rw [List.length_map]; omega) ?_
        rw [show (rowAt ds row i).map V.int ++ [V.int i0] = (tkrow (.int i0) (rowAt ds row i)).map V.int by simp [tkrow], ← rowAt_succ hdi]
        exact st_btw e3 w3.put1 ⟨rfl, go rfl, _, _, _, rfl⟩
      · cases hd4 with
        | tup hs hall =>
          obtain ⟨x1, x2, d1, d2, rfl, e9, y1, y2⟩ := two_of hall rfl
          cases e9
          cases y1
          cases y2
          rename_i t
          dsimp only [isI]
          walk_at "zz"
          refine st_ixT (v := .int m) (tup_up w3 hs) rfl ?_
          walk_at "zz"
          refine ⟨p2, _, rfl, .inl (SqL.of (Wd.is1 w3)), ?_⟩
          walk_at "zz"
          rw [List.length_map]
          by_cases hf : ((rowAt ds row i).length : Int) < m
          · have hF : FarAt ds row i := ⟨_, hdi, decide_eq_true hf⟩
            rw [decide_eq_true hf]
            walk_at "zz"
            cases hfF : fF ds row with
            | none => exact absurd hF (fF_none hfF i)
            | some j =>
              obtain ⟨hj, hj2⟩ := fF_some hfF
              have hle := hij j hj hj2
              have hji : j = i := by
                rcases Nat.lt_or_ge i j with h | h
                · exact absurd hF (hj2 i h)
                · omega
              subst hji
              exact kx j hfF G3 H3 e3 (Wd.drop1 w3)
          · have hfb : farB (.tuple [.int l, .int m]) (rowAt ds row i) = false := decide_eq_false hf
            rw [decide_eq_false hf]
            walk_at "zz"
            refine st_ixT (v := .int l) (tup_up w3 hs) rfl ?_
            walk_at "zz"
            refine for_r1 (by omega) (fun i2 σ G' W' => W' = (p2, Is (.lst ((cp m.toNat (rowAt ds row i) i2).map V.int))) :: W ∧ ∃ x5, σ = [some (.ref p), some (.ref a), some (.ref p2), some (.int i), some (.ref t), x5]) w3 ⟨rfl, _, rfl⟩ ?_ ?_
            · rintro i2 σ' G5 W5 H5 hi2 e5 w5 ⟨rfl, x5, rfl⟩
              have hc := cp_len m.toNat (rowAt ds row i) i2
              walk_at "zz"
              refine ⟨tyL' (Wd.is1 w5), ?_⟩
              walk_at "zz"
              refine ⟨p2, _, rfl, .inl (SqL.of (Wd.is1 w5)), ?_⟩
              walk_at "zz"
              refine st_ixT (v := .int m) (tup_up w5 (seqT e5 hs)) rfl ?_
              walk_at "zz"
              rw [List.length_map]
              refine st_ixL (SqL.of (Wd.is1 w5)) (atI_back (by omega) (by omega)) ?_
              walk_at "zz"
              refine st_appL (Wd.is1 w5) (by rw [List.length_map]; omega) ?_
              refine st_btw (by walk_at "sm") w5.put1 ⟨?_, _, rfl⟩
              rw [show (cp m.toNat (rowAt ds row i) (i2 + 1)) = cp m.toNat (rowAt ds row i) i2 ++ [(cp m.toNat (rowAt ds row i) i2).getD ((cp m.toNat (rowAt ds row i) i2).length - m.toNat) 0] from rfl, List.map_append]
              rfl
            · rintro σ' G5 W5 H5 e5 w5 ⟨rfl, x5, rfl⟩
              refine st_btw (e3.trans e5) w5 ⟨?_, go hfb, _, _, _, rfl⟩
              rw [rowAt_succ hdi]
              rfl
    · rintro σ' G3 W3 H3 e3 w3 ⟨rfl, hij, x3, x4, x5, rfl⟩
      cases hfF : fF ds row with
      | none =>
        walk_at "zz"
        obtain ⟨o, rfl, _, e4, w4⟩ := w3.freeze1
        exact k hfF p2 _ _ H3 (e3.trans e4) w4 upd_same
      | some j =>
        obtain ⟨hj, hj2⟩ := fF_some hfF
        have h1 := hij j hj hj2
        have := farAt_lt hj
        omega
def toldD : Flt → PyData
  | .told => .str "told"
  | .tok i => .tuple [.str "token", .int i]
  | .dat i => .tuple [.str "data", .int i]
  | .far i => .tuple [.str "far", .int i]
theorem two_dp {G : Hp} {p : Addr} {z : Str} {i : Int} (h : G p = some (.tup [.str z, .int i])) : Dp K G (.ref p) (.tuple [.str z, .int i]) := .tup (SqT.of h) (.cons (.str _) (.cons (.int _) .nil))
def sp_due (K : PySem.W.Frag) : Sp := fun vs H Q _ => ∃ (G : Hp) (W : Wl) (v b : V) (d db : PyData) (n m : Nat), Wd G W H ∧ vs = [v, b] ∧ Dp K G v d ∧ szB MO 200 n d = true ∧ Dp K G b db ∧ szB MO 200 m db = true ∧ ∀ r G' H', Same G G' → Wd G' W H' → Dp K G' r (toldD (exF d db)) → Q r H'
theorem ok__law_due (T : Txt K mg A) : FnOk P w K mg base CX0 3 A.f__law_due A.fd__law_due sP__law_due (sp_due K) := by
  refine okD T.F__law_due sc__law_due (fun vs H Q E h => ?_) (fun cdv Ar outer s H vs Q E hr h => ⟨_, (pss_cons (ps_if (pt_not (pt_val (pe_callB call_isiT (by rfl) T.z_isinstance (by decide +kernel) (pa_cons (pv 0) (pa_cons (pe_tup (pa_cons (pe_bltn (v := .ty "list") (u := .type "list") (by rfl) T.z_list (by decide +kernel) rfl) (pa_cons (pe_bltn (v := .ty "tuple") (u := .type "tuple") (by rfl) T.z_tuple (by decide +kernel) rfl) pa_nil))) pa_nil))))) (pss_one (ps_ret (pe_tup (pa_cons (pe_str) (pa_cons (pe_un un_neg (pe_int)) pa_nil))))) pss_nil)
      (pss_cons (ps_for PassesOwn.never rfl (pi_range1 (by rfl) T.z_range (pa_cons (pe_callB call_len_seq (by rfl) T.z_len PySem.boot_len (pa_cons (pv 0) pa_nil)) pa_nil)) (pg_name (i := 2) sc__law_due.nd rfl (Or.inl rfl)) (pss_one (ps_if (pt_not (pt_val (pe_call (ok__law_is_token T) (hr.mono (by decide)) rfl T.m__law_is_token T.F__law_is_token.kp T.b__law_is_token .nil pass0 (pa_cons (pe_ix ix_seqA (pv 0) (pv 2) (fun _ _ => rfl)) pa_nil)))) (pss_one (ps_ret (pe_tup (pa_cons (pe_str) (pa_cons (pv 2) pa_nil))))) pss_nil)))
      (pss_cons (ps_if (pt_cmpR op_notN (pe_call (ok__law_data_fault T) (hr.mono (by decide)) rfl T.m__law_data_fault T.F__law_data_fault.kp T.b__law_data_fault .nil pass0 (pa_cons (pv 1) pa_nil)) (pe_non) (nomark _)) (pss_one (ps_ret (pe_tup (pa_cons (pe_str) (pa_cons (pe_call (ok__law_data_fault T) (hr.mono (by decide)) rfl T.m__law_data_fault T.F__law_data_fault.kp T.b__law_data_fault .nil pass0 (pa_cons (pv 1) pa_nil)) pa_nil))))) pss_nil)
      (pss_cons (ps_set (i := 3) sc__law_due.nd rfl (Or.inl rfl) (pe_call (ok__law_expanded T) (hr.mono (by decide)) rfl T.m__law_expanded T.F__law_expanded.kp T.b__law_expanded .nil pass0 (pa_cons (pv 1) (pa_cons (pv 0) pa_nil))))
      (pss_one (ps_ret (pe_ifExp (pt_val (pe_call (ok__law_whole T) (hr.mono (by decide)) rfl T.m__law_whole T.F__law_whole.kp T.b__law_whole .nil pass0 (pa_cons (pv 3) pa_nil))) (pe_tup (pa_cons (pe_str) (pa_cons (pv 3) pa_nil))) (pe_str)))))))), ?_⟩)
  · obtain ⟨G, W, v, b, d, db, n, m, _, rfl, _⟩ := h
    rfl
  · obtain ⟨G, W, v, b, d, db, n, m, w, rfl, hd, hz, hb, hzb, k⟩ := h
    unfold exF at k
    walk_at "zq"
    refine ⟨by decide, NewO.good w fun p G1 H1 e1 w1 hp => ?_⟩
    walk_at "zq"
    refine isiLT (w1.at hp) (dUp w1 (dmono e1 hd)) ?_
    walk_at "zq"
    cases hs : (isLst d || isTup d) with
    | false =>
      rw [tF_no hs] at k
      walk_at "zq"
      exact ⟨small (by simp), NewO.good w1 fun p2 G2 H2 e2 w2 h2 => k _ G2 H2 (e1.trans e2) w2 (two_dp h2)⟩
    | true =>
      obtain ⟨a, xs, ds, rfl, ha, hall, hds, hxl⟩ := seq_ds (dmono e1 hd) hz hs
      have hF : tF d = badP tokB ds := by rcases hds with rfl | rfl <;> rfl
      have hit : itemsD d = ds := by rcases hds with rfl | rfl <;> rfl
      rw [hF, hit] at k
      have atA : ∀ {H' : Hp} {G' : Hp} {W' : Wl}, Same G1 G' → Wd G' W' H' → SqL K H' a xs ∨ SqT K H' a xs := fun e w => ha.imp (fun h => seq_up w (e.seq h)) fun h => tup_up w (seqT e h)
      walk_at "zq"
      refine ⟨a, _, rfl, atA (fun _ _ h => h) w1, ?_⟩
      walk_at "zq"
      refine for_r1 (by omega) (fun i σ G' W' => W' = W ∧ (∃ y, σ = [some (.ref a), some b, y, none]) ∧ ∀ j : Nat, j < i → ∀ e, ds[j]? = some e → tokB e = true) w1 ⟨rfl, ⟨_, rfl⟩, fun j hj => absurd hj (Nat.not_lt_zero _)⟩ ?_ ?_
      · rintro i σ' G2 W' H2 hi e2 w2 ⟨rfl, ⟨x1, rfl⟩, hall0⟩
        have hix : i < xs.length := by omega
        obtain ⟨di, hdi, hyd⟩ := dpA_at hall (List.getElem?_eq_getElem hix)
        have hat : atI xs (i : Int) = some xs[i] := atI_nat (List.getElem?_eq_getElem hix)
        generalize xs[i] = y at hyd hat
        have hyd2 := dmono e2 hyd
        walk_at "zq"
        refine st_ixA (atA e2 w2) hat ?_
        walk_at "zq"
        refine ⟨_, di, rfl, dUp w2 hyd2, ?_⟩
        cases hT : tokB di with
        | true =>
          walk_at "zq"
          refine st_btw e2 w2 ⟨rfl, ⟨_, rfl⟩, fun j hj e he => ?_⟩
          rcases Nat.lt_or_ge j i with z | z
          · exact hall0 j z e he
          · obtain rfl : j = i := by omega
            rw [hdi] at he
            cases he
            exact hT
        | false =>
          rw [badP_some hdi hT hall0] at k
          walk_at "zq"
          exact ⟨small (by simp), NewO.good w2 fun p3 G3 H3 e3 w3 h3 => k _ G3 H3 (e1.trans (e2.trans e3)) w3 (two_dp h3)⟩
      · rintro σ' G2 W' H2 e2 w2 ⟨rfl, ⟨x1, rfl⟩, hall0⟩
        have hbn : badP tokB ds = none := badP_none (by rw [← dpA_len hall]; exact fun j hj => hall0 j (by omega))
        rw [hbn] at k
        have hb2 := dmono (e1.trans e2) hb
        walk_at "zq"
        refine ⟨G2, W', b, db, m, w2, rfl, hb2, hzb, fun G3 H3 e3 w3 => ?_⟩
        walk_at "zq"
        cases hDF : dF db with
        | some i =>
          rw [hDF] at k
          refine ⟨rfl, ?_⟩
          rw [decide_eq_false (show ¬ oiV (some i) = V.non from fun e => nomatch e)]
          walk_at "zq"
          refine ⟨G3, W', b, db, m, w3, rfl, dmono e3 hb2, hzb, fun G4 H4 e4 w4 => ?_⟩
          rw [hDF]
          walk_at "zq"
          exact ⟨small (by simp), NewO.good w4 fun p5 G5 H5 e5 w5 h5 => k _ G5 H5 (e1.trans (e2.trans (e3.trans (e4.trans e5)))) w5 (two_dp h5)⟩
        | none =>
          rw [hDF] at k
          refine ⟨rfl, ?_⟩
          rw [show oiV none = V.non from rfl, ne_self]
          walk_at "zq"
          have hbs : (isLst db || isTup db) = true := by
            cases hsb : (isLst db || isTup db) with
            | true => rfl
            | false =>
              rw [dF_no hsb] at hDF
              exact nomatch hDF
          obtain ⟨pb, xb, dbs, rfl, hpb, hallb, hdbs, hxbl⟩ := seq_ds (dmono e3 hb2) hzb hbs
          have hDb : badP (inR 0 255) dbs = none := by
            have hq : dF db = if 70000 < dbs.length then some (-1) else badP (inR 0 255) dbs := by rcases hdbs with rfl | rfl <;> rfl
            rw [hq, if_neg (by rw [← dpA_len hallb]; omega)] at hDF
            exact hDF
          obtain ⟨row, rfl, rfl, hB⟩ := ints_of hallb (badP_all hDb)
          rw [List.length_map] at hxbl
          rw [intsD_ok ⟨hdbs, hB⟩] at k
          have e23 := e2.trans e3
          refine ⟨G3, W', a, pb, xs, ds, row, w3, rfl, ha.imp (fun h => e23.seq h) (fun h => seqT e23 h), dpAll_up e23 hall, badP_all hbn, hpb, by omega, by omega, fun j hj G4 H4 e4 w4 => ?_, fun hj q zs G4 H4 e4 w4 hq => ?_⟩
          · rw [hj] at k
            walk_at "zq"
            walk_at "zi"
            walk_at "zq"
            refine ⟨_, rfl, .int _, ?_⟩
            dsimp only [isInt]
            walk_at "zq"
            exact ⟨small (by simp), NewO.good w4 fun p5 G5 H5 e5 w5 h5 => k _ G5 H5 (e1.trans (e2.trans (e3.trans (e4.trans e5)))) w5 (two_dp h5)⟩
          · rw [hj] at k
            walk_at "zq"
            walk_at "zi"
            walk_at "zq"
            refine ⟨_, rfl, .lst (SqL.of (w4.at hq)), ?_⟩
            dsimp only [isInt]
            walk_at "zq"
            exact k _ G4 H4 (e1.trans (e2.trans (e3.trans e4))) w4 (.str _)
theorem ok__law_greedy_due (T : Txt K mg A) : FnOk P w K mg base CX0 3 A.f__law_greedy_due A.fd__law_greedy_due sP__law_greedy_due (fun vs H Q _ => ∃ (G : Hp) (W : Wl) (v b : V) (d db : PyData) (n m : Nat), Wd G W H ∧ vs = [v, b] ∧ Dp K G v d ∧ szB MO 200 n d = true ∧ Dp K G b db ∧ szB MO 200 m db = true ∧ ∀ r G' H', Same G G' → Wd G' W H' → Dp K G' r (toldD (grF d db)) → Q r H') := by
  refine okD T.F__law_greedy_due sc__law_greedy_due (fun vs H Q E h => ?_) (fun cdv Ar outer s H vs Q E hr h => ⟨_, (pss_cons (ps_for PassesOwn.never rfl (pi_list (pe_lst (pa_cons (pv 0) (pa_cons (pv 1) pa_nil)))) (pg_name (i := 2) sc__law_greedy_due.nd rfl (Or.inl rfl)) (pss_one (ps_if (pt_cmpR op_notN (pe_call (ok__law_data_fault T) (hr.mono (by decide)) rfl T.m__law_data_fault T.F__law_data_fault.kp T.b__law_data_fault .nil pass0 (pa_cons (pv 2) pa_nil)) (pe_non) (nomark _)) (pss_one (ps_ret (pe_tup (pa_cons (pe_str) (pa_cons (pe_call (ok__law_data_fault T) (hr.mono (by decide)) rfl T.m__law_data_fault T.F__law_data_fault.kp T.b__law_data_fault .nil pass0 (pa_cons (pv 2) pa_nil)) pa_nil))))) pss_nil)))
      (pss_one (ps_ret (pe_str)))), ?_⟩)
  · obtain ⟨G, W, v, b, d, db, n, m, _, rfl, _⟩ := h
    rfl
  · obtain ⟨G, W, v, b, d, db, n, m, w, rfl, hd, hz, hb, hzb, k⟩ := h
    unfold grF at k
    walk_at "zq"
    refine ⟨small (by simp), NewO.good w fun l G1 H1 e1 w1 h1 => ?_⟩
    walk_at "zq"
    refine for_l (SqL.of h1) (fun i σ G' W' => W' = W ∧ (∃ y, σ = [some v, some b, y]) ∧ (0 < i → dF d = none) ∧ (1 < i → dF db = none)) w1 ⟨rfl, ⟨_, rfl⟩, fun h => absurd h (by omega), fun h => absurd h (by omega)⟩ ?_ ?_
    · rintro i y σ' G2 W' H2 hy e2 w2 ⟨rfl, ⟨x1, rfl⟩, h0, h2⟩
      have e12 := e1.trans e2
      have hy2 : (i = 0 ∧ y = v) ∨ (i = 1 ∧ y = b) := by
        match i, hy with
        | 0, hy => exact .inl ⟨rfl, (Option.some.inj hy).symm⟩
        | 1, hy => exact .inr ⟨rfl, (Option.some.inj hy).symm⟩
        | i + 2, hy => exact nomatch hy
      walk_at "zq"
      rcases hy2 with ⟨rfl, rfl⟩ | ⟨rfl, rfl⟩
      · refine ⟨G2, W', y, d, n, w2, rfl, dmono e12 hd, hz, fun G3 H3 e3 w3 => ?_⟩
        walk_at "zq"
        cases hDF : dF d with
        | some i =>
          rw [hDF] at k
          refine ⟨rfl, ?_⟩
          rw [decide_eq_false (show ¬ oiV (some i) = V.non from fun e => nomatch e)]
          walk_at "zq"
          refine ⟨G3, W', y, d, n, w3, rfl, dmono (e12.trans e3) hd, hz, fun G4 H4 e4 w4 => ?_⟩
          rw [hDF]
          walk_at "zq"
          exact ⟨small (by simp), NewO.good w4 fun p5 G5 H5 e5 w5 h5 => k _ G5 H5 (e12.trans (e3.trans (e4.trans e5))) w5 (two_dp h5)⟩
        | none =>
          refine ⟨rfl, ?_⟩
          rw [show oiV none = V.non from rfl, ne_self]
          walk_at "zq"
          exact st_btw (e2.trans e3) w3 ⟨rfl, ⟨_, rfl⟩, fun _ => rfl, fun h => absurd h (by omega)⟩
      · refine ⟨G2, W', y, db, m, w2, rfl, dmono e12 hb, hzb, fun G3 H3 e3 w3 => ?_⟩
        have hd0 := h0 (by omega)
        rw [hd0] at k
        walk_at "zq"
        cases hDF : dF db with
        | some i =>
          rw [hDF] at k
          refine ⟨rfl, ?_⟩
          rw [decide_eq_false (show ¬ oiV (some i) = V.non from fun e => nomatch e)]
          walk_at "zq"
          refine ⟨G3, W', y, db, m, w3, rfl, dmono (e12.trans e3) hb, hzb, fun G4 H4 e4 w4 => ?_⟩
          rw [hDF]
          walk_at "zq"
          exact ⟨small (by simp), NewO.good w4 fun p5 G5 H5 e5 w5 h5 => k _ G5 H5 (e12.trans (e3.trans (e4.trans e5))) w5 (two_dp h5)⟩
        | none =>
          refine ⟨rfl, ?_⟩
          rw [show oiV none = V.non from rfl, ne_self]
          walk_at "zq"
          exact st_btw (e2.trans e3) w3 ⟨rfl, ⟨_, rfl⟩, fun _ => hd0, fun _ => rfl⟩
    · rintro σ' G2 W' H2 e2 w2 ⟨rfl, ⟨x1, rfl⟩, h0, h2⟩
      have h0 := h0 (by simp)
      have h2 := h2 (by simp)
      rw [h0, h2] at k
      walk_at "zq"
      exact k _ G2 H2 (e1.trans e2) w2 (.str _)

/-! ### faults -/
def TTf (K : PySem.W.Frag) (Ct Cd Cf Cb : Addr) : (XK → Hp → VK → Prop) → Hp → VK → Prop := fun tl H Q =>
  tl (fun cls od H' => (∃ d i, cls = .ref Ct ∧ od = some d ∧ H' d = some (.xd [("position", .int i)]) ∧ NewO (.tup [.ref Cd, .ref Cb]) H' (fun _ H2 => NewO (.tup [.str "token", .int i]) H2 Q)) ∨ (∃ d i, cls = .ref Cd ∧ od = some d ∧ H' d = some (.xd [("position", .int i)]) ∧ NewO (.tup [.str "data", .int i]) H' Q) ∨ (∃ d i, cls = .ref Cf ∧ od = some d ∧ H' d = some (.xd [("position", .int i)]) ∧ NewO (.tup [.str "far", .int i]) H' Q)) H (fun _ H' => Q (.str "told") H')
theorem gives__law_fault {X : Cx} (T : Txt X.K X.mg A) (cdg : Value) (q : Str) : LamX.GivesTo X sN__law_fault "_law_fault" (defScope s__law_fault) A.f__law_fault cdg (defBody s__law_fault) "_law_call" q (TTf X.K A.x_BadToken A.x_BadData A.x_Far A.x_BadBits) := by
  intro f c' s H Q tl act hc h
  refine ⟨_, (pss_cons (ps_tryN (Wout := fun _ _ _ _ => False) rfl rfl takes0 (fun W pn xe tk po => (pss_one (ps_lcall rfl tk (fun W2 E2 t2 h2 => act W2 pn xe E2 _ _ t2 h2)))) (HdN.named (i := 1) sc__law_fault.nd rfl rfl ⟨rfl, by decide, Or.inl T.x_BadToken.gC⟩ (fun a oe cls d pn hz hf => (pss_one (ps_ret (pe_ifExp (PW.pt (pw_and (pt_val (pe_callB (call_isEd T.x_BadToken.xc hz hf) (by rfl) T.z_isinstance (by decide +kernel) (pa_cons (pv 1) (pa_cons (pe_bltn (v := .ty "ValueError") (u := .type "ValueError") (by rfl) T.z_ValueError (by decide +kernel) rfl) pa_nil)))) (pw_and1 (pt_not (pt_val (pe_callB (call_isEdT T.x_BadToken.xc hz hf) (by rfl) T.z_isinstance (by decide +kernel) (pa_cons (pv 1) (pa_cons (pe_tup (pa_cons (pe_glob (v := .ref A.x_BadData) rfl T.x_BadData.gC rfl) (pa_cons (pe_glob (v := .ref A.x_BadBits) rfl T.x_BadBits.gC rfl) pa_nil))) pa_nil)))))))) (pe_tup (pa_cons (pe_str) (pa_cons (pe_xf T.x_BadToken.xf T.x_BadToken.no hz hf (pv 1)) pa_nil))) (pe_str))))) (HdN.named (i := 1) sc__law_fault.nd rfl rfl ⟨rfl, by decide, Or.inl T.x_BadData.gC⟩ (fun a oe cls d pn hz hf => (pss_one (ps_ret (pe_tup (pa_cons (pe_str) (pa_cons (pe_xf T.x_BadData.xf T.x_BadData.no hz hf (pv 1)) pa_nil)))))) (HdN.named (i := 1) sc__law_fault.nd rfl rfl ⟨rfl, by decide, Or.inl T.x_Far.gC⟩ (fun a oe cls d pn hz hf => (pss_one (ps_ret (pe_tup (pa_cons (pe_str) (pa_cons (pe_xf T.x_Far.xf T.x_Far.no hz hf (pv 1)) pa_nil)))))) HdN.nil))))
      (pss_one (ps_ret (pe_str)))), ?_⟩
  refine ⟨_, fun cls od σ' H' hl hx => ?_, rfl, hc, h⟩
  match σ', hl with
  | [z0, z1], _ =>
  rcases hx with ⟨d', i, e1, e2, h3, hq⟩ | ⟨d', i, e1, e2, h3, hq⟩ | ⟨d', i, e1, e2, h3, hq⟩
  · subst e1 e2
    refine ⟨true, T.x_BadToken.te, fun _ a ha => ?_, fun h => nomatch h⟩
    walk_at "zq"
    walk_at "zi"
    walk_at "zq"
    refine ⟨_, .type "ValueError", true, d', _, rfl, rfl, rfl, h3, fun u r => r, T.x_BadToken.kv, ?_⟩
    walk_at "zq"
    refine ⟨small (by simp), fun p hp => ?_⟩
    have hq := hq p hp
    have h3' : upd H' p (.tup [.ref A.x_BadData, .ref A.x_BadBits]) d' = some (.xd [("position", .int i)]) := by
      rw [upd_ne (fun e => by rw [e, hp] at h3; exact nomatch h3)]
      exact h3
    have hp' : upd H' p (.tup [.ref A.x_BadData, .ref A.x_BadBits]) p = some (.tup [.ref A.x_BadData, .ref A.x_BadBits]) := upd_same
    generalize upd H' p (.tup [.ref A.x_BadData, .ref A.x_BadBits]) = H2 at hq h3' hp' ⊢
    refine ⟨p, _, _, false, d', _, rfl, rfl, rfl, h3', hp', .cons (.own _) (.cons (.own _) .nil), kitAny_no T.xk_BadToken_BadData T.xk_BadToken_BadBits, ?_⟩
    walk_at "zq"
    refine ⟨rfl, rfl, d', _, _, rfl, h3', rfl, ?_⟩
    walk_at "zq"
    exact ⟨small (by simp), hq⟩
  · subst e1 e2
    refine ⟨false, T.xm_BadData_BadToken, (fun h => nomatch h), fun _ => ⟨true, T.x_BadData.te, fun _ a ha => ?_, fun h => nomatch h⟩⟩
    walk_at "zq"
    refine ⟨rfl, rfl, d', _, _, rfl, h3, rfl, ?_⟩
    walk_at "zq"
    exact ⟨small (by simp), hq⟩
  · subst e1 e2
    refine ⟨false, T.xm_Far_BadToken, (fun h => nomatch h), fun _ => ⟨false, T.xm_Far_BadData, (fun h => nomatch h), fun _ => ⟨true, T.x_Far.te, fun _ a ha => ?_, fun h => nomatch h⟩⟩⟩
    walk_at "zq"
    refine ⟨rfl, rfl, d', _, _, rfl, h3, rfl, ?_⟩
    walk_at "zq"
    exact ⟨small (by simp), hq⟩
section
variable {G H : Hp} {W : Wl} {Q : VK} {v b : V} {d db : PyData} {n m : Nat} {Ct Cd Cf Cb : Addr}
theorem tf_tok {k0 : Int} {dd : Addr} {G' H' : Hp} (e : Same G G') (w : Wd G' W H') (hx : G' dd = some (.xd [("position", .int k0)])) (k : ∀ v G' H', Same G G' → Wd G' W H' → Dp K G' v (toldD (.tok k0)) → Q v H') :
    ∃ d i, Value.ref Ct = .ref Ct ∧ some dd = some d ∧ H' d = some (.xd [("position", .int i)]) ∧ NewO (.tup [.ref Cd, .ref Cb]) H' (fun _ H2 => NewO (.tup [.str "token", .int i]) H2 Q) :=
  ⟨dd, k0, rfl, rfl, w.at hx, NewO.good w fun p G2 H2 e2 w2 _ => NewO.good w2 fun p3 G3 H3 e3 w3 h3 => k _ G3 H3 (e.trans (e2.trans e3)) w3 (two_dp h3)⟩
theorem tf_exX (w : Wd G W H) (hd : Dp K G v d) (hz : szB MO 200 n d = true) (hb : Dp K G b db) (hzb : szB MO 200 m db = true) (k : ∀ v G' H', Same G G' → Wd G' W H' → Dp K G' v (toldD (exF d db)) → Q v H') :
    TTf K Ct Cd Cf Cb (fun E H' Q' => sp_exX K Ct Cd Cf [v, b] H' Q' E) H Q := by
  refine ⟨G, W, v, b, d, db, n, m, w, rfl, hd, hz, hb, hzb, ?_⟩
  cases h : exF d db with
  | told =>
    intro r G' H' e w'
    rw [h] at k
    exact k _ G' H' e w' (.str _)
  | tok i =>
    rw [h] at k
    exact fun dd G' H' e w' hx => .inl (tf_tok e w' hx k)
  | dat i =>
    rw [h] at k
    exact fun dd G' H' e w' hx => .inr (.inl ⟨dd, i, rfl, rfl, w'.at hx, NewO.good w' fun p G2 H2 e2 w2 h2 => k _ G2 H2 (e.trans e2) w2 (two_dp h2)⟩)
  | far i =>
    rw [h] at k
    exact fun dd G' H' e w' hx => .inr (.inr ⟨dd, i, rfl, rfl, w'.at hx, NewO.good w' fun p G2 H2 e2 w2 h2 => k _ G2 H2 (e.trans e2) w2 (two_dp h2)⟩)
theorem grF_kind (d db : PyData) : grF d db = .told ∨ ∃ i, grF d db = .dat i := by
  unfold grF
  split
  · exact .inr ⟨_, rfl⟩
  · split
    · exact .inr ⟨_, rfl⟩
    · exact .inl rfl
theorem tf_grX (w : Wd G W H) (hd : Dp K G v d) (hz : szB MO 80000 n d = true) (hz2 : dF d = none → szB MO 200 n d = true) (hb : Dp K G b db) (hzb : szB MO 200 m db = true) (k : ∀ v G' H', Same G G' → Wd G' W H' → Dp K G' v (toldD (grF d db)) → Q v H') :
    TTf K Ct Cd Cf Cb (fun E H' Q' => sp_grX K Cd [v, b, .int 32768] H' Q' E) H Q := by
  refine ⟨G, W, v, b, d, db, n, m, w, rfl, hd, hz, hz2, hb, hzb, ?_⟩
  rcases grF_kind d db with h | ⟨i, h⟩
  · rw [h] at k ⊢
    exact fun r G' H' e w' => k _ G' H' e w' (.str _)
  · rw [h] at k ⊢
    exact fun dd G' H' e w' hx => .inr (.inl ⟨dd, i, rfl, rfl, w'.at hx, NewO.good w' fun p G2 H2 e2 w2 h2 => k _ G2 H2 (e.trans e2) w2 (two_dp h2)⟩)
end
theorem len_sz {d : PyData} {n : Nat} {ds : List PyData} (hz : szB MO 200 n d = true) (h : d = .list ds ∨ d = .tuple ds) : ds.length ≤ 200 := by
  cases n with
  | zero => rcases h with rfl | rfl <;> exact nomatch (show false = true from hz)
  | succ n =>
    have hz : (decide (ds.length ≤ 200) && ds.all (szB MO 200 n)) = true := by rcases h with rfl | rfl <;> exact hz
    rw [Bool.and_eq_true] at hz
    exact of_decide_eq_true hz.1
theorem dF_bd {d : PyData} {n : Nat} {i : Int} (hz : szB MO 200 n d = true) (h : dF d = some i) : -1 ≤ i ∧ i ≤ 6000 := by
  have go : ∀ ds : List PyData, (d = .list ds ∨ d = .tuple ds) → (if 70000 < ds.length then some (-1) else badP (inR 0 255) ds) = some i → -1 ≤ i ∧ i ≤ 6000 := fun ds hd h => by
    have := len_sz hz hd
    rw [if_neg (by omega)] at h
    have := badP_bd h
    omega
  cases d with
  | list ds => exact go ds (.inl rfl) h
  | tuple ds => exact go ds (.inr rfl) h
  | _ =>
    have : (-1 : Int) = i := Option.some.inj h
    omega
theorem tF_bd {d : PyData} {n : Nat} {i : Int} (hz : szB MO 200 n d = true) (h : tF d = some i) : -1 ≤ i ∧ i ≤ 6000 := by
  have go : ∀ ds : List PyData, (d = .list ds ∨ d = .tuple ds) → badP tokB ds = some i → -1 ≤ i ∧ i ≤ 6000 := fun ds hd h => by
    have := len_sz hz hd
    have := badP_bd h
    omega
  cases d with
  | list ds => exact go ds (.inl rfl) h
  | tuple ds => exact go ds (.inr rfl) h
  | _ =>
    have : (-1 : Int) = i := Option.some.inj h
    omega
theorem two_od {z : Str} {i : Int} (hz : Od 0 (.str z)) (h : -1 ≤ i ∧ i ≤ 6000) : Od 1 (.tuple [.str z, .int i]) := by
  refine Od.tuple (fun d hd => ?_) (by show 2 ≤ 9; decide)
  rcases List.mem_cons.mp hd with rfl | hd
  · exact hz
  · rw [List.mem_singleton.mp hd]
    exact Od.int (by omega)
theorem od_told : Od 1 (toldD .told) := (show Od 0 (.str "told") by decide +kernel).mono (by decide)
theorem exF_od {d db : PyData} {n m : Nat} (hz : szB MO 200 n d = true) (hzb : szB MO 200 m db = true) : Od 1 (toldD (exF d db)) := by
  unfold exF
  cases ht : tF d with
  | some i => exact two_od (by decide +kernel) (tF_bd hz ht)
  | none =>
    cases hb : dF db with
    | some i => exact two_od (by decide +kernel) (dF_bd hzb hb)
    | none =>
      cases hf : fF (itemsD d) (intsD db) with
      | none => exact od_told
      | some j =>
        refine two_od (by decide +kernel) ?_
        have h1 := fF_lt hf
        have h2 : (itemsD d).length ≤ 200 := by
          cases d with
          | list ds => exact len_sz hz (.inl rfl)
          | tuple ds => exact len_sz hz (.inr rfl)
          | _ => exact Nat.zero_le _
        omega
theorem grF_od {d db : PyData} {n m : Nat} (hz : szB MO 200 n d = true) (hzb : szB MO 200 m db = true) : Od 1 (toldD (grF d db)) := by
  unfold grF
  cases ht : dF d with
  | some i => exact two_od (by decide +kernel) (dF_bd hz ht)
  | none =>
    cases hb : dF db with
    | some i => exact two_od (by decide +kernel) (dF_bd hzb hb)
    | none => exact od_told

theorem Wd.rot {G H : Hp} {W : Wl} {p : Addr × (HO → Prop)} (w : Wd G (p :: W) H) : Wd G (W ++ [p]) H := by
  refine ⟨w.ex, fun q hq => w.own q ?_, ?_⟩
  · rcases List.mem_append.mp hq with h | h
    · exact List.mem_cons_of_mem _ h
    · rw [List.mem_singleton.mp h]
      exact List.mem_cons_self
  · have := w.nd
    rw [List.map_cons, List.nodup_cons] at this
    rw [List.map_append, List.nodup_append]
    refine ⟨this.2, by simp, fun a ha b hb e => ?_⟩
    rw [List.map_cons, List.map_nil, List.mem_singleton] at hb
    rw [e, hb] at ha
    exact this.1 ha
theorem Wd.cutR {G H : Hp} {W V : Wl} (w : Wd G (W ++ V) H) : Wd G W H := by
  refine ⟨w.ex, fun q hq => w.own q (List.mem_append_left _ hq), ?_⟩
  have := w.nd
  rw [List.map_append, List.nodup_append] at this
  exact this.1
theorem noX_bag {b : Addr} : NoX [(b, BagI)] := fun p hp o ho => by
  rw [List.mem_singleton.mp hp] at ho
  obtain ⟨x, y, z, rfl, _⟩ := ho
  exact ⟨(fun _ z => by cases z), (fun _ _ z => by cases z)⟩
theorem Wd.fresh {G0 G H : Hp} {T : List (Addr × Str)} {Wr : Wl} (w : Wd G (TabW T G0 ++ Wr) H) (e : Same G0 G) (nt : NoTbl G0) : NoTbl (Z.strip G) ∧ Same G0 (Z.strip G) ∧ Wd (Z.strip G) (TabW T (Z.strip G) ++ Wr) H :=
  ⟨strip_nt G, same_strip nt e, w.strip.tabUp (same_strip nt e)⟩
theorem intsSz {M L : Nat} {ns : List Int} (h : ∀ n ∈ ns, n.natAbs ≤ M) (hl : ns.length ≤ L) : szB M L 1 (.list (ns.map .int)) = true := by
  show (decide ((ns.map PyData.int).length ≤ L) && (ns.map PyData.int).all (szB M L 0)) = true
  rw [decide_eq_true (by rw [List.length_map]; exact hl), Bool.true_and, List.all_eq_true]
  intro d hd
  obtain ⟨n, hn, rfl⟩ := List.mem_map.mp hd
  exact decide_eq_true (h n hn)
theorem noX_nil : NoX [] := fun _ h => nomatch h
theorem someS_strip {M L n : Nat} {G : Hp} {v : V} (h : SomeS M L n K G v) : SomeS M L n K (strip G) v := let ⟨d, h1, h2⟩ := h; ⟨d, dstrip h1, h2⟩
theorem TokM.sz {d : PyData} {L : Nat} (h : TokM 40 d) (hL : 2 ≤ L) : szB MI L 1 d = true := by
  have int : ∀ i : Int, i.natAbs ≤ 300 → ∀ n, szB MI L n (.int i) = true := fun i hi n => sz_leaf (decide_eq_true (Nat.le_trans hi (by decide)))
  rcases h with ⟨i, rfl, h0, h1⟩ | ⟨s, f, rfl, h0, h1, h2, h3⟩
  · exact int i (by omega) 1
  · show (decide (2 ≤ L) && ([.int s, .int f] : List PyData).all (szB MI L 0)) = true
    rw [decide_eq_true hL, List.all_cons, List.all_cons, int s (by omega) 0, int f (by omega) 0]
    rfl
theorem od_sh {n : Nat} {d : PyData} (h : Od n d) (hn : n ≤ 3) : SeqAt.shaped d = true := by
  obtain ⟨_, a, b, _⟩ := h.rep hn
  unfold SeqAt.shaped
  rw [a, decide_eq_true (show d.depth ≤ 64 by omega)]
  rfl
theorem TTf_set {Ct Cd Cf Cb : Addr} {t : XK → Hp → VK → Prop} {H : Hp} {Q : VK} (h : ∀ Qg, Qg = Q → TTf K Ct Cd Cf Cb t H Qg) : TTf K Ct Cd Cf Cb t H Q := h Q rfl
theorem ok__law_bent (T : Txt K mg A) : FnOk P w K mg base CX0 7 A.f__law_bent A.fd__law_bent sP__law_bent (sp_bent K 3) := ok_bent_all T 3
theorem ok_law (T : Txt K mg A) (TB_law : LamX.TabB base mg A.lc_law A.lP_law) (nd : ((tabs_all A).map (·.1)).Nodup) : FnG P w K mg base 11 A.f_law A.fd_law sP_law (spLawL K (tabs_all A)) := by
  have hu_law : ∀ p ∈ tabs_all A, p.1 = A.lP_law → p.2 = (envOfC "law" (defScope s_law) 0 A.f_law (.ref A.lc_law)).qual ++ "<lambda>" := fun p hp _ => by
    simp only [tabs_all, List.mem_singleton] at hp
    rw [hp]
  refine okC T.F_law T.hc_law sc_law (fun vs H Q E h => ?_) (fun Ar outer s H vs Q E hgd hr h => ⟨_, (pss_cons (ps_for PassesOwn.never rfl (pi_range1 (by rfl) T.z_range (pa_cons (pe_callB (call_max2 rfl) (by rfl) T.z_max (by decide +kernel) (pa_cons (pe_int) (pa_cons (pe_callB (call_min2 rfl) (by rfl) T.z_min (by decide +kernel) (pa_cons (pe_int) (pa_cons (pe_callB call_len_seq (by rfl) T.z_len PySem.boot_len (pa_cons (pv 0) pa_nil)) pa_nil))) pa_nil))) pa_nil)) (pg_name (i := 1) sc_law.nd rfl (Or.inl rfl)) (pss_cons (ps_set (i := 2) sc_law.nd rfl (Or.inr rfl) (pe_call (ok__law_bag T) (hr.mono (by decide)) rfl T.m__law_bag T.F__law_bag.kp T.b__law_bag .nil pass0 (pa_cons (pv 0) (pa_cons (pv 1) pa_nil))))
      (pss_cons (ps_par (i := 4) (j := 5) (by rfl) sc_law.nd rfl rfl (by decide) rfl rfl (pa_cons (pe_lc (own := [("_law_turn", 3)]) (g := gName 3) (tt := tYes) rfl sc_law.nd (pi_range1 (by rfl) T.z_range (pa_cons (pe_int) pa_nil)) (blkOk_by (own := [("_law_turn", 3)]) (N := sN_law) (sc := defScope s_law) (by decide +kernel)) (fun _ _ _ _ _ => pg_name (i := 3) sc_law.nd rfl (Or.inl rfl)) (fun _ _ _ _ _ => pts_nil) (fun _ _ _ _ _ => (pe_call (ok__law_token T) (hr.mono (by decide)) rfl T.m__law_token T.F__law_token.kp T.b__law_token .nil pass0 (pa_cons (pv 2) (pa_cons (pe_int) pa_nil))))) (pa_cons (pe_call (ok__law_drawn_data T) (hr.mono (by decide)) rfl T.m__law_drawn_data T.F__law_drawn_data.kp T.b__law_drawn_data .nil pass0 (pa_cons (pv 2) (pa_cons (pe_int) pa_nil))) pa_nil)) (by rfl))
      (pss_one (ps_for PassesOwn.never rfl (pi_range1 (by rfl) T.z_range (pa_cons (pe_int) pa_nil)) (pg_name (i := 3) sc_law.nd rfl (Or.inl rfl)) (pss_cons (ps_set (i := 6) sc_law.nd rfl (Or.inr rfl) (pe_call (ok__law_one T) (hr.mono (by decide)) rfl T.m__law_one T.F__law_one.kp T.b__law_one .nil pass0 (pa_cons (pv 2) (pa_cons (pe_lst (pa_cons (pv 4) (pa_cons (pe_call (ok__law_bent T) (hr.mono (by decide)) rfl T.m__law_bent T.F__law_bent.kp T.b__law_bent .nil pass0 (pa_cons (pv 2) (pa_cons (pv 4) pa_nil))) (pa_cons (pe_call (ok__law_odd T) (hr.mono (by decide)) rfl T.m__law_odd T.F__law_odd.kp T.b__law_odd .nil pass0 (pa_cons (pv 2) pa_nil)) pa_nil)))) pa_nil))))
      (pss_cons (ps_set (i := 7) sc_law.nd rfl (Or.inr rfl) (pe_call (ok__law_one T) (hr.mono (by decide)) rfl T.m__law_one T.F__law_one.kp T.b__law_one .nil pass0 (pa_cons (pv 2) (pa_cons (pe_lst (pa_cons (pv 5) (pa_cons (pe_lst pa_nil) (pa_cons (pe_call (ok__law_bent T) (hr.mono (by decide)) rfl T.m__law_bent T.F__law_bent.kp T.b__law_bent .nil pass0 (pa_cons (pv 2) (pa_cons (pv 5) pa_nil))) (pa_cons (pe_call (ok__law_odd T) (hr.mono (by decide)) rfl T.m__law_odd T.F__law_odd.kp T.b__law_odd .nil pass0 (pa_cons (pv 2) pa_nil)) pa_nil))))) pa_nil))))
      (pss_cons (ps_if (pt_cmpR op_ne (pe_callB (call_reprD hgd hr.units) (by rfl) T.z_repr (by decide +kernel) (pa_cons (pe_lamF (k := 8) (T := tabs_all A) T.F__law_fault rfl T.m__law_fault T.b__law_fault sc__law_fault rfl (Or.inl rfl) (fun cdg => gives__law_fault T cdg _) TB_law rfl (tabs_law_mem A) hu_law (hr.mono (by decide)) (LamX.lamS_by (show LamX.lamSB (defScope s_law) _ = true from by decide +kernel)) (by rfl) (fun _ _ _ _ _ => rfl)
        (fun _ _ _ _ _ _ _ hr => (pe_callN (ok_expand T) (hr.mono (by decide)) rfl T.m_expand T.F_expand.kp T.kb_expand_1_before.choose_spec (passes_call (takes_of rfl rfl rfl rfl) (fun _ _ _ _ h => h)) (pa_cons (pv 6) pa_nil) (pk_cons (pv 7) pk_nil)))) pa_nil)) (pe_callB (call_reprD hgd hr.units) (by rfl) T.z_repr (by decide +kernel) (pa_cons (pe_call (ok__law_due T) (hr.mono (by decide)) rfl T.m__law_due T.F__law_due.kp T.b__law_due .nil pass0 (pa_cons (pv 6) (pa_cons (pv 7) pa_nil))) pa_nil)) (nomark _)) (pss_one (ps_ret (pe_bl))) pss_nil)
      (pss_cons (ps_set (i := 6) sc_law.nd rfl (Or.inr rfl) (pe_call (ok__law_one T) (hr.mono (by decide)) rfl T.m__law_one T.F__law_one.kp T.b__law_one .nil pass0 (pa_cons (pv 2) (pa_cons (pe_lst (pa_cons (pv 5) (pa_cons (pe_call (ok__law_bent T) (hr.mono (by decide)) rfl T.m__law_bent T.F__law_bent.kp T.b__law_bent .nil pass0 (pa_cons (pv 2) (pa_cons (pv 5) pa_nil))) (pa_cons (pe_call (ok__law_odd T) (hr.mono (by decide)) rfl T.m__law_odd T.F__law_odd.kp T.b__law_odd .nil pass0 (pa_cons (pv 2) pa_nil)) pa_nil)))) pa_nil))))
      (pss_one (ps_if (pt_cmpR op_ne (pe_callB (call_reprD hgd hr.units) (by rfl) T.z_repr (by decide +kernel) (pa_cons (pe_lamF (k := 8) (T := tabs_all A) T.F__law_fault rfl T.m__law_fault T.b__law_fault sc__law_fault rfl (Or.inl rfl) (fun cdg => gives__law_fault T cdg _) TB_law rfl (tabs_law_mem A) hu_law (hr.mono (by decide)) (LamX.lamS_by (show LamX.lamSB (defScope s_law) _ = true from by decide +kernel)) (by rfl) (fun _ _ _ _ _ => rfl)
        (fun _ _ _ _ _ _ _ hr => (pe_callN (ok_greedy T) (hr.mono (by decide)) rfl T.m_greedy T.F_greedy.kp T.kb_greedy_1_before.choose_spec (passes_call (takes_of rfl rfl rfl rfl) (fun _ _ _ _ h => h)) (pa_cons (pv 6) pa_nil) (pk_cons (pv 7) pk_nil)))) pa_nil)) (pe_callB (call_reprD hgd hr.units) (by rfl) T.z_repr (by decide +kernel) (pa_cons (pe_call (ok__law_greedy_due T) (hr.mono (by decide)) rfl T.m__law_greedy_due T.F__law_greedy_due.kp T.b__law_greedy_due .nil pass0 (pa_cons (pv 6) (pa_cons (pv 7) pa_nil))) pa_nil)) (nomark _)) (pss_one (ps_ret (pe_bl))) pss_nil)))))))))))
      (pss_one (ps_ret (pe_cmpR (op_eqD hr.units) (pe_lamF (k := 8) (T := tabs_all A) T.F__law_fault rfl T.m__law_fault T.b__law_fault sc__law_fault rfl (Or.inl rfl) (fun cdg => gives__law_fault T cdg _) TB_law rfl (tabs_law_mem A) hu_law (hr.mono (by decide)) (LamX.lamS_by (show LamX.lamSB (defScope s_law) _ = true from by decide +kernel)) (by rfl) (fun _ _ _ _ _ => rfl)
        (fun _ _ _ _ _ _ _ hr => (pe_call (ok_greedy T) (hr.mono (by decide)) rfl T.m_greedy T.F_greedy.kp T.b1_greedy.choose_spec.2 T.b1_greedy.choose_spec.1 (passes_call (takes_of rfl rfl rfl rfl) (fun _ _ _ _ h => h)) (pa_cons (pe_op op_rep (pe_lst (pa_cons (pe_int) pa_nil)) (pe_int)) pa_nil)))) (pe_tup (pa_cons (pe_str) (pa_cons (pe_un un_neg (pe_int)) pa_nil))) (nomark _))))), ?_⟩)
  · obtain ⟨a, ns, rfl, _⟩ := h
    rfl
  · obtain ⟨a, ns, rfl, hS0, hn, hT, k⟩ := h
    obtain ⟨nt0, w0⟩ := law_start hT nd
    have hS := lstrip hS0
    clear hS0 hT
    generalize strip H = G0 at nt0 w0 hS
    have w0 : Wd G0 (TabW (tabs_all A) G0 ++ []) H := by rw [List.append_nil]; exact w0
    walk_at "zq"
    refine ⟨a, _, rfl, .inl (seq_up w0 hS), ?_⟩
    walk_at "zq"
    rw [List.length_map]
    refine ⟨_, _, rfl, ?_⟩
    walk_at "zq"
    refine ⟨_, _, rfl, ?_⟩
    walk_at "zq"
    refine for_r1 (by split <;> split <;> omega) (fun i σ G' W' => NoTbl G' ∧ W' = TabW (tabs_all A) G' ++ [] ∧ ∃ x1 x2 x3 x4 x5 x6 x7, σ = [some (.ref a), x1, x2, x3, x4, x5, x6, x7]) w0 ⟨nt0, rfl, _, _, _, _, _, _, _, rfl⟩ ?_ ?_
    · rintro i σ' G1 W1 H1 hi e1 w1 ⟨nt1, rfl, x1, x2, x3, x4, x5, x6, x7, rfl⟩
      clear w0
      have hi6 : (i : Int) < 6 := by split at hi <;> split at hi <;> omega
      walk_at "zq"
      refine ⟨G1, _, a, ns, _, w1, rfl, e1.seq hS, by omega, by omega, fun b H2 w2 => ?_⟩
      rw [List.append_nil] at w2
      have w2 := w2.rot
      have hm : ∀ {G}, (b, BagI) ∈ TabW (tabs_all A) G ++ [(b, BagI)] := List.mem_append_right _ (List.mem_singleton.mpr rfl)
      walk_at "zq"
      refine lc_r1 (by omega) (fun i acc G' => ∃ ds : List PyData, DpAll K G' acc ds ∧ (∀ d ∈ ds, TokM 40 d) ∧ acc.length = i) w2 ⟨[], .nil, (fun _ h => nomatch h), rfl⟩ (fun _ => rfl) ?_ ?_
      · rintro i D G4 H4 acc hi e4 w4 ⟨ds, hds, hTM, hl⟩
        walk_at "zq"
        refine ⟨G4, _, b, 40, w4, List.mem_cons_of_mem _ hm, rfl, by decide, by decide, fun v d G5 H5 e5 w5 hv hTd => ?_⟩
        refine lc_put w5 (e4.trans e5) (by omega) ⟨ds ++ [d], dpAll_snoc (dpAll_up e5 hds) hv, fun z hz => ?_, by simp [hl]⟩
        rcases List.mem_append.mp hz with hz | hz
        · exact hTM z hz
        · rw [List.mem_singleton.mp hz]
          exact hTd
      rintro ps G4 H4 acc e4 w4 ⟨ds, hds, hTM, hl⟩
      obtain ⟨o, rfl, _, e5, w5⟩ := w4.freeze1
      have hps : Dp K (upd G4 ps (.lst acc)) (.ref ps) (.list ds) := .lst (SqL.of upd_same) (dpAll_up e5 hds)
      generalize upd G4 ps (.lst acc) = G5 at e5 w5 hps
      have hszs : szB MI 9 2 (.list ds) = true := by
        show (decide (ds.length ≤ 9) && ds.all (szB MI 9 1)) = true
        rw [decide_eq_true (by rw [← dpA_len hds, hl]; decide), Bool.true_and, List.all_eq_true]
        exact fun d hd => (hTM d hd).sz (by decide)
      walk_at "zq"
      refine ⟨G5, _, b, 30, w5, hm, rfl, by decide, by decide, fun pr row G6 H6 e6 w6 hr6 hBr hlr => ?_⟩
      walk_at "zq"
      have hszr : szB MI 40 1 (.list (row.map .int)) = true := intsSz (fun n hn => by
        have := hBr n hn
        exact Nat.le_trans (show n.natAbs ≤ 255 by omega) (by decide)) (by omega)
      obtain ⟨nt7, e7, w7⟩ := w6.fresh (e4.trans (e5.trans e6)) nt1
      have hps7 : Dp K (strip G6) (.ref ps) (.list ds) := dstrip (dmono e6 hps)
      have hpr7 : Dp K (strip G6) (.ref pr) (.list (row.map .int)) := dstrip (.lst hr6.seq (dpInts row))
      generalize strip G6 = G7 at nt7 e7 w7 hps7 hpr7
      clear w1 w2 w4 w5 w6 hps hds hr6
      refine for_r1 (by omega) (fun i2 σ G' W' => NoTbl G' ∧ W' = TabW (tabs_all A) G' ++ [(b, BagI)] ∧ ∃ x3 x6 x7, σ = [some (.ref a), some (.int i), some (.ref b), x3, some (.ref ps), some (.ref pr), x6, x7]) w7 ⟨nt7, rfl, _, _, _, rfl⟩ ?_ ?_
      · rintro i2 σ' G10 W10 H10 hi2 e10 w10 ⟨nt10, rfl, y3, y6, y7, rfl⟩
        clear w7
        have hps10 := dmono e10 hps7
        have hpr10 := dmono e10 hpr7
        have hSs : SomeS MO 200 4 K G10 (.ref ps) := ⟨_, hps10, szB_mono MI_le (by decide) (by decide) hszs⟩
        have hSr : SomeS MO 200 4 K G10 (.ref pr) := ⟨_, hpr10, szB_mono MI_le (by decide) (by decide) hszr⟩
        walk_at "zq"
        refine ⟨G10, _, b, .ref ps, .list ds, 2, 9, rfl, w10, hm, rfl, hps10, hszs, by decide, by decide, fun v G11 H11 e11 w11 hv => ?_⟩
        walk_at "zq"
        refine ⟨G11, _, b, w11, hm, rfl, fun u G12 H12 e12 w12 hu => ?_⟩
        walk_at "zq"
        refine ⟨small (by simp), NewO.good w12 fun l13 G13 H13 e13 w13 h13 => ?_⟩
        have e1013 := (e11.trans e12).trans e13
        have hall : AllP (SomeS MO 200 4 K G13) [.ref ps, v, u] := ⟨hSs.up e1013, ((hv.up e12).up e13).mono (Nat.le_refl _) (by decide) (by decide), (hu.up e13).mono (Nat.le_refl _) (by decide) (by decide), trivial⟩
        walk_at "zq"
        refine ⟨G13, _, b, l13, _, w13, hm, rfl, SqL.of h13, by simp, by simp, fun v1 H14 hv1 w14 => ?_⟩
        have hv1 := AllP.of hall v1 hv1
        clear hall w11 w12 w13 hv hu
        walk_at "zq"
        refine ⟨by decide, NewO.good w14 fun p15 G15 H15 e15 w15 h15 => ?_⟩
        walk_at "zq"
        have e1015 := e1013.trans e15
        refine ⟨G15, _, b, .ref pr, _, 2, 40, rfl, w15, hm, rfl, dmono e1015 hpr10, szB_mono (Nat.le_refl _) (Nat.le_refl _) (by decide) hszr, by decide, by decide, fun v G16 H16 e16 w16 hv => ?_⟩
        walk_at "zq"
        refine ⟨G16, _, b, w16, hm, rfl, fun u G17 H17 e17 w17 hu => ?_⟩
        walk_at "zq"
        refine ⟨small (by simp), NewO.good w17 fun l18 G18 H18 e18 w18 h18 => ?_⟩
        have e1518 := (e16.trans e17).trans e18
        have hall : AllP (SomeS MO 200 4 K G18) [.ref pr, .ref p15, v, u] := ⟨hSr.up (e1015.trans e1518), ⟨_, .lst (SqL.of (e1518 _ _ h15)) .nil, rfl⟩, ((hv.up e17).up e18).mono (Nat.le_refl _) (by decide) (by decide), (hu.up e18).mono (Nat.le_refl _) (by decide) (by decide), trivial⟩
        walk_at "zq"
        refine ⟨G18, _, b, l18, _, w18, hm, rfl, SqL.of h18, by simp, by simp, fun v2 H19 hv2 w19 => ?_⟩
        have hv2 := AllP.of hall v2 hv2
        have hv1 := (hv1.up e15).up e1518
        clear hall w14 w15 w16 w17 w18 hv hu h15 h18 h13
        walk_at "zq"
        obtain ⟨nt20, e20, w20⟩ := w19.fresh (e1015.trans e1518) nt10
        obtain ⟨d1, hd1, hz1⟩ := someS_strip hv1
        obtain ⟨d2, hd2, hz2⟩ := someS_strip hv2
        generalize strip G18 = G20 at nt20 e20 w20 hd1 hd2
        clear hv1 hv2 w19 w10
        refine st_lam2 w20 (fun _ _ h => h) nt20 noX_bag fun G21 H21 e21 _ nt21 w21 => ?_
        have hd1 := dmono e21 hd1
        have hd2 := dmono e21 hd2
        refine TTf_set fun Qg hQ => ?_
        refine ⟨v1, rfl, v2, rfl, rfl, rfl, ?_⟩
        refine tf_exX (Q := Qg) (Cb := A.x_BadBits) (n := 4) (m := 4) w21 hd1 hz1 hd2 hz2 fun r G22 H22 e22 w22 hr22 => ?_
        subst hQ
        have hod := exF_od hz1 hz2
        walk_at "zq"
        refine st_repr (dUp w22 hr22) hod (by decide) ?_
        walk_at "zq"
        have hd1 := dmono e22 hd1
        have hd2 := dmono e22 hd2
        refine ⟨G22, _, v1, v2, d1, d2, 4, 4, w22, rfl, hd1, hz1, hd2, hz2, fun r2 G23 H23 e23 w23 hr23 => ?_⟩
        walk_at "zq"
        refine st_repr (dUp w23 hr23) hod (by decide) ?_
        walk_at "zq"
        rw [ne_self]
        walk_at "zq"
        have e2023 := (e21.trans e22).trans e23
        have e1023 := e20.trans e2023
        have hpr23 := dmono e1023 hpr10
        have hSr : SomeS MO 200 4 K G23 (.ref pr) := ⟨_, hpr23, szB_mono MI_le (by decide) (by decide) hszr⟩
        have hd2 := dmono e23 hd2
        clear w20 w21 w22 hod hd1
        refine ⟨G23, _, b, .ref pr, _, 2, 40, rfl, w23, hm, rfl, hpr23, szB_mono (Nat.le_refl _) (Nat.le_refl _) (by decide) hszr, by decide, by decide, fun v G24 H24 e24 w24 hv => ?_⟩
        walk_at "zq"
        refine ⟨G24, _, b, w24, hm, rfl, fun u G25 H25 e25 w25 hu => ?_⟩
        walk_at "zq"
        refine ⟨small (by simp), NewO.good w25 fun l26 G26 H26 e26 w26 h26 => ?_⟩
        have e2326 := (e24.trans e25).trans e26
        have hall : AllP (SomeS MO 200 4 K G26) [.ref pr, v, u] := ⟨hSr.up e2326, ((hv.up e25).up e26).mono (Nat.le_refl _) (by decide) (by decide), (hu.up e26).mono (Nat.le_refl _) (by decide) (by decide), trivial⟩
        walk_at "zq"
        refine ⟨G26, _, b, l26, _, w26, hm, rfl, SqL.of h26, by simp, by simp, fun v3 H27 hv3 w27 => ?_⟩
        have hv3 := AllP.of hall v3 hv3
        have hd2 := dmono e2326 hd2
        clear hall w24 w25 w26 hv hu h26
        walk_at "zq"
        obtain ⟨nt30, e30, w30⟩ := w27.fresh (((e22.trans e23)).trans e2326) nt21
        obtain ⟨d3, hd3, hz3⟩ := someS_strip hv3
        have hd2 := dstrip hd2
        generalize strip G26 = G30 at nt30 e30 w30 hd3 hd2
        clear hv3 w27
        refine st_lam2 w30 (fun _ _ h => h) nt30 noX_bag fun G31 H31 e31 _ nt31 w31 => ?_
        have hd3 := dmono e31 hd3
        have hd2 := dmono e31 hd2
        refine TTf_set fun Qg hQ => ?_
        refine ⟨v3, rfl, v2, rfl, rfl, rfl, ?_⟩
        refine tf_grX (Q := Qg) (Ct := A.x_BadToken) (Cd := A.x_BadData) (Cf := A.x_Far) (Cb := A.x_BadBits) (n := 4) (m := 4) w31 hd3 (szB_mono (Nat.le_refl _) (by decide) (Nat.le_refl _) hz3) (fun _ => hz3) hd2 hz2 fun r G32 H32 e32 w32 hr32 => ?_
        subst hQ
        have hod := grF_od hz3 hz2
        walk_at "zq"
        refine st_repr (dUp w32 hr32) hod (by decide) ?_
        walk_at "zq"
        refine ⟨G32, _, v3, v2, d3, d2, 4, 4, w32, rfl, dmono e32 hd3, hz3, dmono e32 hd2, hz2, fun r2 G33 H33 e33 w33 hr33 => ?_⟩
        walk_at "zq"
        refine st_repr (dUp w33 hr33) hod (by decide) ?_
        walk_at "zq"
        rw [ne_self]
        walk_at "zq"
        obtain ⟨nt34, e34, w34⟩ := w33.fresh (e32.trans e33) nt31
        exact st_btw (e10.trans (e20.trans (e21.trans (e30.trans (e31.trans e34))))) w34 ⟨nt34, rfl, _, _, _, rfl⟩
      · rintro σ' G15 W15 H15 e15 w15 ⟨nt15, rfl, y3, y6, y7, rfl⟩
        walk_at "zq"
        exact st_btw (e1.trans (e7.trans e15)) (by rw [List.append_nil]; exact w15.cutR) ⟨nt15, rfl, _, _, _, _, _, _, _, rfl⟩
    · rintro σ' G1 W1 H1 e1 w1 ⟨nt1, rfl, x1, x2, x3, x4, x5, x6, x7, rfl⟩
      walk_at "zq"
      refine st_lam2 w1 (fun _ _ h => h) nt1 noX_nil fun G2 H2 e2 _ nt2 w2 => ?_
      refine TTf_set fun Qg hQ => ?_
      unfold TTf
      walk_at "zq"
      refine ⟨by decide, NewO.good w2 fun p3 G3 H3 e3 w3 h3 => ?_⟩
      walk_at "zq"
      refine st_repI (w3.at h3) (by decide) (by decide) w3 fun p4 G4 H4 e4 w4 h4 => ?_
      generalize hzs : List.replicate (70001 : Int).toNat (0 : Int) = zs at h4
      have hzl : zs.length = 70001 := by rw [← hzs, List.length_replicate]; rfl
      have hz0 : ∀ n ∈ zs, n.natAbs ≤ MO := fun n hn => by
        rw [← hzs] at hn
        rw [(List.mem_replicate.mp hn).2]
        decide
      clear hzs
      have hdF : dF (.list (zs.map .int)) = some (-1) := by
        show (if 70000 < (zs.map PyData.int).length then some (-1) else _) = _
        rw [if_pos (by rw [List.length_map, hzl]; decide)]
      have hgr : grF (.list (zs.map .int)) (.tuple []) = .dat (-1) := by
        unfold grF
        rw [hdF]
      walk_at "zq"
      refine tf_grX (Q := Qg) (Ct := A.x_BadToken) (Cd := A.x_BadData) (Cf := A.x_Far) (Cb := A.x_BadBits) (n := 1) (m := 1) (d := .list (zs.map .int)) (db := .tuple []) w4 (.lst h4.seq (dpInts zs)) (intsSz hz0 (by omega)) (fun h => by rw [hdF] at h; exact nomatch h) (.tup (T.dt_greedy_before _) .nil) rfl fun r G5 H5 e5 w5 hr5 => ?_
      subst hQ
      rw [hgr] at hr5
      walk_at "zq"
      refine ⟨small (by simp), NewO.good w5 fun p6 G6 H6 e6 w6 h6 => ?_⟩
      walk_at "zq"
      have ho := two_od (z := "data") (i := -1) (by decide +kernel) (by decide)
      refine st_eqD (b := true) (dUp w6 (dmono e6 hr5)) (dUp w6 (two_dp h6)) (od_sh ho (by decide)) (od_sh ho (by decide)) (by unfold toldD; decide +kernel) ?_
      exact k _

end
def lamNames : List Str := ["law"]
theorem all_mk {l : PySem.W.OpenLaw} {w : World} {K : PySem.W.Frag} {h : Heap} {mg : Str → Option Value} {fa : Addr} (X : K.In h) (G : h.Ns mainGlobals mg) (hfa : mg "law" = some (.ref fa))
    {CBadData : Addr} {nmBadData qnBadData : Str} {NBadData : Addr} {bsBadData : List Value} {snBadData : List Str} {subBadData : List Value} {abBadData : Bool} {colBadData : Option Bool} {ddBadData : Option Addr} {k0BadData k1BadData k2BadData k3BadData k5BadData : Option Value}
    {A0 : Addr} {od0 an0 : Option Addr} {sl0 : Array (Option Value)} {oc0 kV0 dc0 pm0 cd0 ct0 : Value}
    {CBadBits : Addr} {nmBadBits qnBadBits : Str} {NBadBits : Addr} {bsBadBits : List Value} {snBadBits : List Str} {subBadBits : List Value} {abBadBits : Bool} {colBadBits : Option Bool} {ddBadBits : Option Addr} {k0BadBits k1BadBits k2BadBits k3BadBits k5BadBits : Option Value}
    {A1 : Addr} {od1 an1 : Option Addr} {sl1 : Array (Option Value)} {oc1 kV1 dc1 pm1 cd1 ct1 : Value}
    {CBadToken : Addr} {nmBadToken qnBadToken : Str} {NBadToken : Addr} {bsBadToken : List Value} {snBadToken : List Str} {subBadToken : List Value} {abBadToken : Bool} {colBadToken : Option Bool} {ddBadToken : Option Addr} {k0BadToken k1BadToken k2BadToken k3BadToken k5BadToken : Option Value}
    {A2 : Addr} {od2 an2 : Option Addr} {sl2 : Array (Option Value)} {oc2 kV2 dc2 pm2 cd2 ct2 : Value}
    {CFar : Addr} {nmFar qnFar : Str} {NFar : Addr} {bsFar : List Value} {snFar : List Str} {subFar : List Value} {abFar : Bool} {colFar : Option Bool} {ddFar : Option Addr} {k0Far k1Far k2Far k3Far k5Far : Option Value}
    {A3 : Addr} {od3 an3 : Option Addr} {sl3 : Array (Option Value)} {oc3 kV3 dc3 pm3 cd3 ct3 : Value}
    {A4 : Addr} {od4 an4 : Option Addr} {sl4 : Array (Option Value)} {oc4 kV4 dc4 pm4 cd4 ct4 : Value}
    {A5 : Addr} {od5 an5 : Option Addr} {sl5 : Array (Option Value)} {oc5 kV5 dc5 pm5 cd5 ct5 : Value}
    {A6 : Addr} {od6 an6 : Option Addr} {sl6 : Array (Option Value)} {oc6 kV6 dc6 pm6 cd6 ct6 : Value}
    {A7 : Addr} {od7 an7 : Option Addr} {sl7 : Array (Option Value)} {oc7 kV7 dc7 pm7 cd7 ct7 : Value}
    {A8 : Addr} {od8 an8 : Option Addr} {sl8 : Array (Option Value)} {oc8 kV8 dc8 pm8 cd8 ct8 : Value}
    {A9 : Addr} {od9 an9 : Option Addr} {sl9 : Array (Option Value)} {oc9 kV9 dc9 pm9 cd9 ct9 : Value}
    {A10 : Addr} {od10 an10 : Option Addr} {sl10 : Array (Option Value)} {oc10 kV10 dc10 pm10 cd10 ct10 : Value}
    {A11 : Addr} {od11 an11 : Option Addr} {sl11 : Array (Option Value)} {oc11 dc11 pm11 cd11 ct11 : Value}
    {KD11 : Addr}
    {KT11_0 : Addr} {kn11_0 : Nat} {ks11_0 : Array (Option Value)} {kd11_0 : Option Addr}
    {A12 : Addr} {od12 an12 : Option Addr} {sl12 : Array (Option Value)} {oc12 kV12 dc12 pm12 cd12 ct12 : Value}
    {CMatcher : Addr}
    {A13 : Addr} {od13 an13 : Option Addr} {sl13 : Array (Option Value)} {oc13 kV13 dc13 pm13 cd13 ct13 : Value}
    {A14 : Addr} {od14 an14 : Option Addr} {sl14 : Array (Option Value)} {oc14 kV14 dc14 pm14 cd14 ct14 : Value}
    {A15 : Addr} {od15 an15 : Option Addr} {sl15 : Array (Option Value)} {oc15 kV15 dc15 pm15 cd15 ct15 : Value}
    {A16 : Addr} {od16 an16 : Option Addr} {sl16 : Array (Option Value)} {oc16 kV16 dc16 pm16 cd16 ct16 : Value}
    {A17 : Addr} {od17 an17 : Option Addr} {sl17 : Array (Option Value)} {oc17 kV17 dc17 pm17 cd17 ct17 : Value}
    {A18 : Addr} {od18 an18 : Option Addr} {sl18 : Array (Option Value)} {oc18 dc18 pm18 cd18 ct18 : Value}
    {KD18 : Addr}
    {KT18_0 : Addr} {kn18_0 : Nat} {ks18_0 : Array (Option Value)} {kd18_0 : Option Addr}
    {kt18_1 : Tok}
    {A19 : Addr} {od19 an19 : Option Addr} {sl19 : Array (Option Value)} {oc19 kV19 dc19 pm19 cd19 ct19 : Value}
    {A20 : Addr} {od20 an20 : Option Addr} {sl20 : Array (Option Value)} {oc20 kV20 dc20 pm20 cd20 ct20 : Value}
    {A21 : Addr} {od21 an21 : Option Addr} {sl21 : Array (Option Value)} {oc21 kV21 dc21 pm21 cd21 ct21 : Value}
    {A22 : Addr} {od22 an22 : Option Addr} {sl22 : Array (Option Value)} {oc22 kV22 dc22 pm22 cd22 ct22 : Value}
    {A23 : Addr} {od23 an23 : Option Addr} {sl23 : Array (Option Value)} {oc23 kV23 dc23 pm23 cd23 ct23 : Value}
    {A24 : Addr} {od24 an24 : Option Addr} {sl24 : Array (Option Value)} {oc24 kV24 dc24 pm24 cd24 ct24 : Value}
    {A25 : Addr} {od25 an25 : Option Addr} {sl25 : Array (Option Value)} {oc25 kV25 dc25 pm25 cd25 ct25 : Value}
    {A26 : Addr} {od26 an26 : Option Addr} {sl26 : Array (Option Value)} {oc26 kV26 dc26 pm26 cd26 ct26 : Value}
    {A27 : Addr} {od27 an27 : Option Addr} {sl27 : Array (Option Value)} {oc27 kV27 dc27 pm27 cd27 ct27 : Value}
    {A28 : Addr} {od28 an28 : Option Addr} {sl28 : Array (Option Value)} {oc28 kV28 dc28 pm28 cd28 ct28 : Value}
    {A29 : Addr} {od29 an29 : Option Addr} {sl29 : Array (Option Value)} {oc29 kV29 dc29 pm29 cd29 ct29 : Value}
    {A30 : Addr} {od30 an30 : Option Addr} {sl30 : Array (Option Value)} {oc30 kV30 dc30 pm30 cd30 ct30 : Value}
    {A31 : Addr} {od31 an31 : Option Addr} {sl31 : Array (Option Value)} {oc31 kV31 dc31 pm31 cd31 ct31 : Value}
    {A32 : Addr} {od32 an32 : Option Addr} {sl32 : Array (Option Value)} {oc32 kV32 dc32 pm32 cd32 ct32 : Value}
    {A33 : Addr} {od33 an33 : Option Addr} {sl33 : Array (Option Value)} {oc33 kV33 dc33 pm33 ct33 : Value}
    {CL33 PL33 : Addr} {lo33 : Value} {ld33 : Option Addr} {lv33 : Array Value} {ls33 : Array (Option Value)}
    {tc0 : Tok}
    {tc1 : Tok}
    {tc2 : Tok}
    {tc3 : Tok}
    (xg_BadData : PySem.W.nsIn K mainGlobals "BadData" = some (some (.ref CBadData)))
    (xl_BadData : K.lookup CBadData = some (excClassObj nmBadData qnBadData CBadData NBadData bsBadData tl_ValueError true snBadData subBadData abBadData colBadData ddBadData k0BadData k1BadData k2BadData k3BadData k5BadData "ValueError.__new__"))
    (xsa_BadData : PySem.W.findIn K (.ref CBadData) "__setattr__" = some (some (.builtin "object.__setattr__")))
    (xga_BadData : PySem.W.findIn K (.ref CBadData) "__getattribute__" = some (some (.builtin "BaseException.__getattribute__")))
    (xgg_BadData : PySem.W.findIn K (.ref CBadData) "__getattr__" = some none)
    (xno_BadData : PySem.W.findIn K (.ref CBadData) "position" = some none)
    (xk_BadData : PySem.W.keepIn K (.ref CBadData) = true)
    (xe_BadData : PySem.W.subIn K (.ref CBadData) (.type "BaseException") = some true)
    (xt_BadData : PySem.W.typeIn K (.ref CBadData) = some (.type "type"))
    (xh_BadData : PySem.W.hasDictIn K CBadData = true)
    (xs_BadData : PySem.W.subIn K (.ref CBadData) (.ref CBadData) = some true)
    (xca_BadData : PySem.W.findIn K (.ref CBadData) "__class__" = some (some (.builtin "object.__class__")))
    (xv_BadData : PySem.W.subIn K (.ref CBadData) (.type "ValueError") = some true)
    (xcm_BadData : PySem.W.mroIn K CBadData (.type "object") = some true)
    (a0 : PySem.W.findIn K (.ref CBadData) "__init__" = some (some (.ref A0)))
    (u0 : PySem.W.typeIn K (.ref A0) = some (.type "function"))
    (l0 : K.lookup A0 = some ⟨oc0, od0, .func (PySem.W.fnOf "__init__" "BadData.__init__" (defArgs s_BadData___init__) (defBody s_BadData___init__) (defScope s_BadData___init__) .none kV0 dc0 pm0 an0 cd0 ct0), sl0⟩)
    (c0 : PySem.W.codeIn K cd0 "BadData.__init__" = true) (k0 : PySem.W.keepIn K (.ref A0) = true)
    (xg_BadBits : PySem.W.nsIn K mainGlobals "BadBits" = some (some (.ref CBadBits)))
    (xl_BadBits : K.lookup CBadBits = some (excClassObj nmBadBits qnBadBits CBadBits NBadBits bsBadBits tl_ValueError true snBadBits subBadBits abBadBits colBadBits ddBadBits k0BadBits k1BadBits k2BadBits k3BadBits k5BadBits "ValueError.__new__"))
    (xsa_BadBits : PySem.W.findIn K (.ref CBadBits) "__setattr__" = some (some (.builtin "object.__setattr__")))
    (xga_BadBits : PySem.W.findIn K (.ref CBadBits) "__getattribute__" = some (some (.builtin "BaseException.__getattribute__")))
    (xgg_BadBits : PySem.W.findIn K (.ref CBadBits) "__getattr__" = some none)
    (xno_BadBits : PySem.W.findIn K (.ref CBadBits) "position" = some none)
    (xk_BadBits : PySem.W.keepIn K (.ref CBadBits) = true)
    (xe_BadBits : PySem.W.subIn K (.ref CBadBits) (.type "BaseException") = some true)
    (xt_BadBits : PySem.W.typeIn K (.ref CBadBits) = some (.type "type"))
    (xh_BadBits : PySem.W.hasDictIn K CBadBits = true)
    (xs_BadBits : PySem.W.subIn K (.ref CBadBits) (.ref CBadBits) = some true)
    (xca_BadBits : PySem.W.findIn K (.ref CBadBits) "__class__" = some (some (.builtin "object.__class__")))
    (xv_BadBits : PySem.W.subIn K (.ref CBadBits) (.type "ValueError") = some true)
    (xcm_BadBits : PySem.W.mroIn K CBadBits (.type "object") = some true)
    (a1 : PySem.W.findIn K (.ref CBadBits) "__init__" = some (some (.ref A1)))
    (u1 : PySem.W.typeIn K (.ref A1) = some (.type "function"))
    (l1 : K.lookup A1 = some ⟨oc1, od1, .func (PySem.W.fnOf "__init__" "BadBits.__init__" (defArgs s_BadBits___init__) (defBody s_BadBits___init__) (defScope s_BadBits___init__) .none kV1 dc1 pm1 an1 cd1 ct1), sl1⟩)
    (c1 : PySem.W.codeIn K cd1 "BadBits.__init__" = true) (k1 : PySem.W.keepIn K (.ref A1) = true)
    (xg_BadToken : PySem.W.nsIn K mainGlobals "BadToken" = some (some (.ref CBadToken)))
    (xl_BadToken : K.lookup CBadToken = some (excClassObj nmBadToken qnBadToken CBadToken NBadToken bsBadToken tl_ValueError true snBadToken subBadToken abBadToken colBadToken ddBadToken k0BadToken k1BadToken k2BadToken k3BadToken k5BadToken "ValueError.__new__"))
    (xsa_BadToken : PySem.W.findIn K (.ref CBadToken) "__setattr__" = some (some (.builtin "object.__setattr__")))
    (xga_BadToken : PySem.W.findIn K (.ref CBadToken) "__getattribute__" = some (some (.builtin "BaseException.__getattribute__")))
    (xgg_BadToken : PySem.W.findIn K (.ref CBadToken) "__getattr__" = some none)
    (xno_BadToken : PySem.W.findIn K (.ref CBadToken) "position" = some none)
    (xk_BadToken : PySem.W.keepIn K (.ref CBadToken) = true)
    (xe_BadToken : PySem.W.subIn K (.ref CBadToken) (.type "BaseException") = some true)
    (xt_BadToken : PySem.W.typeIn K (.ref CBadToken) = some (.type "type"))
    (xh_BadToken : PySem.W.hasDictIn K CBadToken = true)
    (xs_BadToken : PySem.W.subIn K (.ref CBadToken) (.ref CBadToken) = some true)
    (xca_BadToken : PySem.W.findIn K (.ref CBadToken) "__class__" = some (some (.builtin "object.__class__")))
    (xv_BadToken : PySem.W.subIn K (.ref CBadToken) (.type "ValueError") = some true)
    (xcm_BadToken : PySem.W.mroIn K CBadToken (.type "object") = some true)
    (a2 : PySem.W.findIn K (.ref CBadToken) "__init__" = some (some (.ref A2)))
    (u2 : PySem.W.typeIn K (.ref A2) = some (.type "function"))
    (l2 : K.lookup A2 = some ⟨oc2, od2, .func (PySem.W.fnOf "__init__" "BadToken.__init__" (defArgs s_BadToken___init__) (defBody s_BadToken___init__) (defScope s_BadToken___init__) .none kV2 dc2 pm2 an2 cd2 ct2), sl2⟩)
    (c2 : PySem.W.codeIn K cd2 "BadToken.__init__" = true) (k2 : PySem.W.keepIn K (.ref A2) = true)
    (xg_Far : PySem.W.nsIn K mainGlobals "Far" = some (some (.ref CFar)))
    (xl_Far : K.lookup CFar = some (excClassObj nmFar qnFar CFar NFar bsFar tl_LookupError true snFar subFar abFar colFar ddFar k0Far k1Far k2Far k3Far k5Far "LookupError.__new__"))
    (xsa_Far : PySem.W.findIn K (.ref CFar) "__setattr__" = some (some (.builtin "object.__setattr__")))
    (xga_Far : PySem.W.findIn K (.ref CFar) "__getattribute__" = some (some (.builtin "BaseException.__getattribute__")))
    (xgg_Far : PySem.W.findIn K (.ref CFar) "__getattr__" = some none)
    (xno_Far : PySem.W.findIn K (.ref CFar) "position" = some none)
    (xk_Far : PySem.W.keepIn K (.ref CFar) = true)
    (xe_Far : PySem.W.subIn K (.ref CFar) (.type "BaseException") = some true)
    (xt_Far : PySem.W.typeIn K (.ref CFar) = some (.type "type"))
    (xh_Far : PySem.W.hasDictIn K CFar = true)
    (xs_Far : PySem.W.subIn K (.ref CFar) (.ref CFar) = some true)
    (xca_Far : PySem.W.findIn K (.ref CFar) "__class__" = some (some (.builtin "object.__class__")))
    (xv_Far : PySem.W.subIn K (.ref CFar) (.type "LookupError") = some true)
    (xcm_Far : PySem.W.mroIn K CFar (.type "object") = some true)
    (a3 : PySem.W.findIn K (.ref CFar) "__init__" = some (some (.ref A3)))
    (u3 : PySem.W.typeIn K (.ref A3) = some (.type "function"))
    (l3 : K.lookup A3 = some ⟨oc3, od3, .func (PySem.W.fnOf "__init__" "Far.__init__" (defArgs s_Far___init__) (defBody s_Far___init__) (defScope s_Far___init__) .none kV3 dc3 pm3 an3 cd3 ct3), sl3⟩)
    (c3 : PySem.W.codeIn K cd3 "Far.__init__" = true) (k3 : PySem.W.keepIn K (.ref A3) = true)
    (a4 : PySem.W.nsIn K mainGlobals "is_integer" = some (some (.ref A4)))
    (l4 : K.lookup A4 = some ⟨oc4, od4, .func (PySem.W.fnOf "is_integer" "is_integer" (defArgs s_is_integer) (defBody s_is_integer) (defScope s_is_integer) .none kV4 dc4 pm4 an4 cd4 ct4), sl4⟩)
    (c4 : PySem.W.codeIn K cd4 "is_integer" = true) (k4 : PySem.W.keepIn K (.ref A4) = true)
    (a5 : PySem.W.nsIn K mainGlobals "in_range" = some (some (.ref A5)))
    (l5 : K.lookup A5 = some ⟨oc5, od5, .func (PySem.W.fnOf "in_range" "in_range" (defArgs s_in_range) (defBody s_in_range) (defScope s_in_range) .none kV5 dc5 pm5 an5 cd5 ct5), sl5⟩)
    (c5 : PySem.W.codeIn K cd5 "in_range" = true) (k5 : PySem.W.keepIn K (.ref A5) = true)
    (a6 : PySem.W.nsIn K mainGlobals "is_byte" = some (some (.ref A6)))
    (l6 : K.lookup A6 = some ⟨oc6, od6, .func (PySem.W.fnOf "is_byte" "is_byte" (defArgs s_is_byte) (defBody s_is_byte) (defScope s_is_byte) .none kV6 dc6 pm6 an6 cd6 ct6), sl6⟩)
    (c6 : PySem.W.codeIn K cd6 "is_byte" = true) (k6 : PySem.W.keepIn K (.ref A6) = true)
    (a7 : PySem.W.nsIn K mainGlobals "checked_data" = some (some (.ref A7)))
    (l7 : K.lookup A7 = some ⟨oc7, od7, .func (PySem.W.fnOf "checked_data" "checked_data" (defArgs s_checked_data) (defBody s_checked_data) (defScope s_checked_data) .none kV7 dc7 pm7 an7 cd7 ct7), sl7⟩)
    (c7 : PySem.W.codeIn K cd7 "checked_data" = true) (k7 : PySem.W.keepIn K (.ref A7) = true)
    (a8 : PySem.W.nsIn K mainGlobals "is_token" = some (some (.ref A8)))
    (l8 : K.lookup A8 = some ⟨oc8, od8, .func (PySem.W.fnOf "is_token" "is_token" (defArgs s_is_token) (defBody s_is_token) (defScope s_is_token) .none kV8 dc8 pm8 an8 cd8 ct8), sl8⟩)
    (c8 : PySem.W.codeIn K cd8 "is_token" = true) (k8 : PySem.W.keepIn K (.ref A8) = true)
    (a9 : PySem.W.nsIn K mainGlobals "check_tokens" = some (some (.ref A9)))
    (l9 : K.lookup A9 = some ⟨oc9, od9, .func (PySem.W.fnOf "check_tokens" "check_tokens" (defArgs s_check_tokens) (defBody s_check_tokens) (defScope s_check_tokens) .none kV9 dc9 pm9 an9 cd9 ct9), sl9⟩)
    (c9 : PySem.W.codeIn K cd9 "check_tokens" = true) (k9 : PySem.W.keepIn K (.ref A9) = true)
    (a10 : PySem.W.nsIn K mainGlobals "copy_into" = some (some (.ref A10)))
    (l10 : K.lookup A10 = some ⟨oc10, od10, .func (PySem.W.fnOf "copy_into" "copy_into" (defArgs s_copy_into) (defBody s_copy_into) (defScope s_copy_into) .none kV10 dc10 pm10 an10 cd10 ct10), sl10⟩)
    (c10 : PySem.W.codeIn K cd10 "copy_into" = true) (k10 : PySem.W.keepIn K (.ref A10) = true)
    (a11 : PySem.W.nsIn K mainGlobals "expand" = some (some (.ref A11)))
    (l11 : K.lookup A11 = some ⟨oc11, od11, .func (PySem.W.fnOf "expand" "expand" (defArgs s_expand) (defBody s_expand) (defScope s_expand) .none (.ref KD11) dc11 pm11 an11 cd11 ct11), sl11⟩)
    (kx11_0 : PySem.W.nsIn K KD11 "before" = some (some (.ref KT11_0)))
    (kl11_0 : K.lookup KT11_0 = some ⟨.type "tuple", kd11_0, .seq #[] kn11_0, ks11_0⟩)
    (c11 : PySem.W.codeIn K cd11 "expand" = true) (k11 : PySem.W.keepIn K (.ref A11) = true)
    (a12 : PySem.W.nsIn K mainGlobals "same_length" = some (some (.ref A12)))
    (l12 : K.lookup A12 = some ⟨oc12, od12, .func (PySem.W.fnOf "same_length" "same_length" (defArgs s_same_length) (defBody s_same_length) (defScope s_same_length) .none kV12 dc12 pm12 an12 cd12 ct12), sl12⟩)
    (c12 : PySem.W.codeIn K cd12 "same_length" = true) (k12 : PySem.W.keepIn K (.ref A12) = true)
    (yg_Matcher : PySem.W.nsIn K mainGlobals "Matcher" = some (some (.ref CMatcher)))
    (ypg_Matcher : PySem.W.plainGet K CMatcher Str.empty = true)
    (yhd_Matcher : PySem.W.hasDictIn K CMatcher = true)
    (ypo_Matcher : PySem.W.plainOver K CMatcher = true)
    (ysa_Matcher : PySem.W.findIn K (.ref CMatcher) "__setattr__" = some (some (.builtin "object.__setattr__")))
    (ymk_Matcher : PySem.W.makesIn K CMatcher = true)
    (ykc_Matcher : PySem.W.keepIn K (.ref CMatcher) = true)
    (yf_row_Matcher : PySem.W.findIn K (.ref CMatcher) "row" = some none)
    (yf_window_Matcher : PySem.W.findIn K (.ref CMatcher) "window" = some none)
    (yf_learned_Matcher : PySem.W.findIn K (.ref CMatcher) "learned" = some none)
    (yf_places_Matcher : PySem.W.findIn K (.ref CMatcher) "places" = some none)
    (a13 : PySem.W.findIn K (.ref CMatcher) "__init__" = some (some (.ref A13)))
    (u13 : PySem.W.isFn K (.ref A13) = true)
    (l13 : K.lookup A13 = some ⟨oc13, od13, .func (PySem.W.fnOf "__init__" "Matcher.__init__" (defArgs s_Matcher___init__) (defBody s_Matcher___init__) (defScope s_Matcher___init__) .none kV13 dc13 pm13 an13 cd13 ct13), sl13⟩)
    (c13 : PySem.W.codeIn K cd13 "Matcher.__init__" = true) (k13 : PySem.W.keepIn K (.ref A13) = true)
    (a14 : PySem.W.findIn K (.ref CMatcher) "learn" = some (some (.ref A14)))
    (u14 : PySem.W.isFn K (.ref A14) = true)
    (l14 : K.lookup A14 = some ⟨oc14, od14, .func (PySem.W.fnOf "learn" "Matcher.learn" (defArgs s_Matcher_learn) (defBody s_Matcher_learn) (defScope s_Matcher_learn) .none kV14 dc14 pm14 an14 cd14 ct14), sl14⟩)
    (c14 : PySem.W.codeIn K cd14 "Matcher.learn" = true) (k14 : PySem.W.keepIn K (.ref A14) = true)
    (a15 : PySem.W.findIn K (.ref CMatcher) "longest" = some (some (.ref A15)))
    (u15 : PySem.W.isFn K (.ref A15) = true)
    (l15 : K.lookup A15 = some ⟨oc15, od15, .func (PySem.W.fnOf "longest" "Matcher.longest" (defArgs s_Matcher_longest) (defBody s_Matcher_longest) (defScope s_Matcher_longest) .none kV15 dc15 pm15 an15 cd15 ct15), sl15⟩)
    (c15 : PySem.W.codeIn K cd15 "Matcher.longest" = true) (k15 : PySem.W.keepIn K (.ref A15) = true)
    (a16 : PySem.W.nsIn K mainGlobals "greedy_tokens" = some (some (.ref A16)))
    (l16 : K.lookup A16 = some ⟨oc16, od16, .func (PySem.W.fnOf "greedy_tokens" "greedy_tokens" (defArgs s_greedy_tokens) (defBody s_greedy_tokens) (defScope s_greedy_tokens) .none kV16 dc16 pm16 an16 cd16 ct16), sl16⟩)
    (c16 : PySem.W.codeIn K cd16 "greedy_tokens" = true) (k16 : PySem.W.keepIn K (.ref A16) = true)
    (a17 : PySem.W.nsIn K mainGlobals "tokens_behind" = some (some (.ref A17)))
    (l17 : K.lookup A17 = some ⟨oc17, od17, .func (PySem.W.fnOf "tokens_behind" "tokens_behind" (defArgs s_tokens_behind) (defBody s_tokens_behind) (defScope s_tokens_behind) .none kV17 dc17 pm17 an17 cd17 ct17), sl17⟩)
    (c17 : PySem.W.codeIn K cd17 "tokens_behind" = true) (k17 : PySem.W.keepIn K (.ref A17) = true)
    (a18 : PySem.W.nsIn K mainGlobals "greedy" = some (some (.ref A18)))
    (l18 : K.lookup A18 = some ⟨oc18, od18, .func (PySem.W.fnOf "greedy" "greedy" (defArgs s_greedy) (defBody s_greedy) (defScope s_greedy) .none (.ref KD18) dc18 pm18 an18 cd18 ct18), sl18⟩)
    (kx18_0 : PySem.W.nsIn K KD18 "before" = some (some (.ref KT18_0)))
    (kx18_1 : PySem.W.nsIn K KD18 "window" = some (some (.int 32768 kt18_1)))
    (kl18_0 : K.lookup KT18_0 = some ⟨.type "tuple", kd18_0, .seq #[] kn18_0, ks18_0⟩)
    (c18 : PySem.W.codeIn K cd18 "greedy" = true) (k18 : PySem.W.keepIn K (.ref A18) = true)
    (a19 : PySem.W.nsIn K mainGlobals "_law_bag" = some (some (.ref A19)))
    (l19 : K.lookup A19 = some ⟨oc19, od19, .func (PySem.W.fnOf "_law_bag" "_law_bag" (defArgs s__law_bag) (defBody s__law_bag) (defScope s__law_bag) .none kV19 dc19 pm19 an19 cd19 ct19), sl19⟩)
    (c19 : PySem.W.codeIn K cd19 "_law_bag" = true) (k19 : PySem.W.keepIn K (.ref A19) = true)
    (a20 : PySem.W.nsIn K mainGlobals "_law_take" = some (some (.ref A20)))
    (l20 : K.lookup A20 = some ⟨oc20, od20, .func (PySem.W.fnOf "_law_take" "_law_take" (defArgs s__law_take) (defBody s__law_take) (defScope s__law_take) .none kV20 dc20 pm20 an20 cd20 ct20), sl20⟩)
    (c20 : PySem.W.codeIn K cd20 "_law_take" = true) (k20 : PySem.W.keepIn K (.ref A20) = true)
    (a21 : PySem.W.nsIn K mainGlobals "_law_one" = some (some (.ref A21)))
    (l21 : K.lookup A21 = some ⟨oc21, od21, .func (PySem.W.fnOf "_law_one" "_law_one" (defArgs s__law_one) (defBody s__law_one) (defScope s__law_one) .none kV21 dc21 pm21 an21 cd21 ct21), sl21⟩)
    (c21 : PySem.W.codeIn K cd21 "_law_one" = true) (k21 : PySem.W.keepIn K (.ref A21) = true)
    (a22 : PySem.W.nsIn K mainGlobals "_law_whole" = some (some (.ref A22)))
    (l22 : K.lookup A22 = some ⟨oc22, od22, .func (PySem.W.fnOf "_law_whole" "_law_whole" (defArgs s__law_whole) (defBody s__law_whole) (defScope s__law_whole) .none kV22 dc22 pm22 an22 cd22 ct22), sl22⟩)
    (c22 : PySem.W.codeIn K cd22 "_law_whole" = true) (k22 : PySem.W.keepIn K (.ref A22) = true)
    (a23 : PySem.W.nsIn K mainGlobals "_law_odd" = some (some (.ref A23)))
    (l23 : K.lookup A23 = some ⟨oc23, od23, .func (PySem.W.fnOf "_law_odd" "_law_odd" (defArgs s__law_odd) (defBody s__law_odd) (defScope s__law_odd) .none kV23 dc23 pm23 an23 cd23 ct23), sl23⟩)
    (c23 : PySem.W.codeIn K cd23 "_law_odd" = true) (k23 : PySem.W.keepIn K (.ref A23) = true)
    (a24 : PySem.W.nsIn K mainGlobals "_law_bent" = some (some (.ref A24)))
    (l24 : K.lookup A24 = some ⟨oc24, od24, .func (PySem.W.fnOf "_law_bent" "_law_bent" (defArgs s__law_bent) (defBody s__law_bent) (defScope s__law_bent) .none kV24 dc24 pm24 an24 cd24 ct24), sl24⟩)
    (c24 : PySem.W.codeIn K cd24 "_law_bent" = true) (k24 : PySem.W.keepIn K (.ref A24) = true)
    (a25 : PySem.W.nsIn K mainGlobals "_law_drawn_data" = some (some (.ref A25)))
    (l25 : K.lookup A25 = some ⟨oc25, od25, .func (PySem.W.fnOf "_law_drawn_data" "_law_drawn_data" (defArgs s__law_drawn_data) (defBody s__law_drawn_data) (defScope s__law_drawn_data) .none kV25 dc25 pm25 an25 cd25 ct25), sl25⟩)
    (c25 : PySem.W.codeIn K cd25 "_law_drawn_data" = true) (k25 : PySem.W.keepIn K (.ref A25) = true)
    (a26 : PySem.W.nsIn K mainGlobals "_law_data_fault" = some (some (.ref A26)))
    (l26 : K.lookup A26 = some ⟨oc26, od26, .func (PySem.W.fnOf "_law_data_fault" "_law_data_fault" (defArgs s__law_data_fault) (defBody s__law_data_fault) (defScope s__law_data_fault) .none kV26 dc26 pm26 an26 cd26 ct26), sl26⟩)
    (c26 : PySem.W.codeIn K cd26 "_law_data_fault" = true) (k26 : PySem.W.keepIn K (.ref A26) = true)
    (a27 : PySem.W.nsIn K mainGlobals "_law_token" = some (some (.ref A27)))
    (l27 : K.lookup A27 = some ⟨oc27, od27, .func (PySem.W.fnOf "_law_token" "_law_token" (defArgs s__law_token) (defBody s__law_token) (defScope s__law_token) .none kV27 dc27 pm27 an27 cd27 ct27), sl27⟩)
    (c27 : PySem.W.codeIn K cd27 "_law_token" = true) (k27 : PySem.W.keepIn K (.ref A27) = true)
    (a28 : PySem.W.nsIn K mainGlobals "_law_is_token" = some (some (.ref A28)))
    (l28 : K.lookup A28 = some ⟨oc28, od28, .func (PySem.W.fnOf "_law_is_token" "_law_is_token" (defArgs s__law_is_token) (defBody s__law_is_token) (defScope s__law_is_token) .none kV28 dc28 pm28 an28 cd28 ct28), sl28⟩)
    (c28 : PySem.W.codeIn K cd28 "_law_is_token" = true) (k28 : PySem.W.keepIn K (.ref A28) = true)
    (a29 : PySem.W.nsIn K mainGlobals "_law_expanded" = some (some (.ref A29)))
    (l29 : K.lookup A29 = some ⟨oc29, od29, .func (PySem.W.fnOf "_law_expanded" "_law_expanded" (defArgs s__law_expanded) (defBody s__law_expanded) (defScope s__law_expanded) .none kV29 dc29 pm29 an29 cd29 ct29), sl29⟩)
    (c29 : PySem.W.codeIn K cd29 "_law_expanded" = true) (k29 : PySem.W.keepIn K (.ref A29) = true)
    (a30 : PySem.W.nsIn K mainGlobals "_law_fault" = some (some (.ref A30)))
    (l30 : K.lookup A30 = some ⟨oc30, od30, .func (PySem.W.fnOf "_law_fault" "_law_fault" (defArgs s__law_fault) (defBody s__law_fault) (defScope s__law_fault) .none kV30 dc30 pm30 an30 cd30 ct30), sl30⟩)
    (c30 : PySem.W.codeIn K cd30 "_law_fault" = true) (k30 : PySem.W.keepIn K (.ref A30) = true)
    (a31 : PySem.W.nsIn K mainGlobals "_law_due" = some (some (.ref A31)))
    (l31 : K.lookup A31 = some ⟨oc31, od31, .func (PySem.W.fnOf "_law_due" "_law_due" (defArgs s__law_due) (defBody s__law_due) (defScope s__law_due) .none kV31 dc31 pm31 an31 cd31 ct31), sl31⟩)
    (c31 : PySem.W.codeIn K cd31 "_law_due" = true) (k31 : PySem.W.keepIn K (.ref A31) = true)
    (a32 : PySem.W.nsIn K mainGlobals "_law_greedy_due" = some (some (.ref A32)))
    (l32 : K.lookup A32 = some ⟨oc32, od32, .func (PySem.W.fnOf "_law_greedy_due" "_law_greedy_due" (defArgs s__law_greedy_due) (defBody s__law_greedy_due) (defScope s__law_greedy_due) .none kV32 dc32 pm32 an32 cd32 ct32), sl32⟩)
    (c32 : PySem.W.codeIn K cd32 "_law_greedy_due" = true) (k32 : PySem.W.keepIn K (.ref A32) = true)
    (a33 : PySem.W.nsIn K mainGlobals "law" = some (some (.ref A33)))
    (l33 : K.lookup A33 = some ⟨oc33, od33, .func (PySem.W.fnOf "law" "law" (defArgs s_law) (defBody s_law) (defScope s_law) .none kV33 dc33 pm33 an33 (.ref CL33) ct33), sl33⟩)
    (c33 : PySem.W.codeIn K (.ref CL33) "law" = true) (k33 : PySem.W.keepIn K (.ref A33) = true)
    (tc33 : K.lookup CL33 = some ⟨lo33, ld33, .fields lv33, ls33⟩) (tp33 : lv33[11]? = some (.ref PL33)) (tn33 : K.lookup PL33 = none)
    (co0 : PySem.W.nsIn K mainGlobals "MOST_DATA" = some (some (.int 70000 tc0)))
    (co1 : PySem.W.nsIn K mainGlobals "LEAST_LENGTH" = some (some (.int 3 tc1)))
    (co2 : PySem.W.nsIn K mainGlobals "MOST_LENGTH" = some (some (.int 258 tc2)))
    (co3 : PySem.W.nsIn K mainGlobals "MOST_DISTANCE" = some (some (.int 32768 tc3)))
    (z_ValueError : PySem.W.nsIn K mainGlobals "ValueError" = some none)
    (z_LookupError : PySem.W.nsIn K mainGlobals "LookupError" = some none)
    (z_isinstance : PySem.W.nsIn K mainGlobals "isinstance" = some none)
    (z_int : PySem.W.nsIn K mainGlobals "int" = some none)
    (z_bool : PySem.W.nsIn K mainGlobals "bool" = some none)
    (z_enumerate : PySem.W.nsIn K mainGlobals "enumerate" = some none)
    (z_list : PySem.W.nsIn K mainGlobals "list" = some none)
    (z_len : PySem.W.nsIn K mainGlobals "len" = some none)
    (z_tuple : PySem.W.nsIn K mainGlobals "tuple" = some none)
    (z_range : PySem.W.nsIn K mainGlobals "range" = some none)
    (z_min : PySem.W.nsIn K mainGlobals "min" = some none)
    (z_abs : PySem.W.nsIn K mainGlobals "abs" = some none)
    (z_str : PySem.W.nsIn K mainGlobals "str" = some none)
    (z_max : PySem.W.nsIn K mainGlobals "max" = some none)
    (z_repr : PySem.W.nsIn K mainGlobals "repr" = some none)
    (ecn : PySem.W.specialIn K (.builtin "object.__class__") "__get__" = some (some (.builtin "getset_descriptor.__get__")))
    (ect : PySem.W.takesIn K (.builtin "object.__class__") = some true)
    (evv_ValueError : PySem.W.findCls K (.type "ValueError") (.type "type") "__init__" = some (.val (.builtin "ValueError.__init__")))
    (evv_LookupError : PySem.W.findCls K (.type "LookupError") (.type "type") "__init__" = some (.val (.builtin "LookupError.__init__")))
    (xq_BadData_BadToken : PySem.W.subIn K (.ref CBadData) (.ref CBadToken) = some false)
    (xq_Far_BadToken : PySem.W.subIn K (.ref CFar) (.ref CBadToken) = some false)
    (xq_Far_BadData : PySem.W.subIn K (.ref CFar) (.ref CBadData) = some false)
    (xz_BadToken_BadData : PySem.W.kitOne K (.ref CBadToken) (.ref CBadData) = some false)
    (xz_BadToken_BadBits : PySem.W.kitOne K (.ref CBadToken) (.ref CBadBits) = some false) :
    ∃ (fd : FuncData) (cs : List (Addr × Addr)) (sp : Sp), (∀ (s : Shared) (v : Value), BindsTo s fd ⟨[v], []⟩ [("_law_script", v)]) ∧ (∀ p ∈ cs, (∃ nm ∈ lamNames, PySem.W.tabIn K nm = some p) ∧ K.lookup p.2 = none) ∧
      (∀ (H : Hp) (a : Addr) (ns : List Int), ns.length ≤ 63 → (∀ p ∈ cs, H p.2 = some (.tbl #[])) → SqL K H a (ns.map V.int) → sp [.ref a] H (fun v _ => v = .bl true) fun _ _ _ => False) ∧
      ∀ base : Heap, K.In base → base.Ns mainGlobals mg → (∀ p ∈ cs, LamX.TabB base mg p.1 p.2) → FnG l.prog w K mg base 11 fa fd ["_law_script"] sp := by
  have e := hfa.symm.trans (PySem.W.mg_of X G a33)
  cases e
  have F0 : FunD K "__init__" "BadData.__init__" (defArgs s_BadData___init__) (defBody s_BadData___init__) (defScope s_BadData___init__) [] [] A0 (PySem.W.fnOf "__init__" "BadData.__init__" (defArgs s_BadData___init__) (defBody s_BadData___init__) (defScope s_BadData___init__) .none kV0 dc0 pm0 an0 cd0 ct0) :=
    ⟨⟨oc0, od0, .none, kV0, dc0, pm0, an0, cd0, ct0, sl0, rfl, l0, c0, (.inl ⟨rfl, rfl⟩), .inl rfl⟩, k0⟩
  have F1 : FunD K "__init__" "BadBits.__init__" (defArgs s_BadBits___init__) (defBody s_BadBits___init__) (defScope s_BadBits___init__) [] [] A1 (PySem.W.fnOf "__init__" "BadBits.__init__" (defArgs s_BadBits___init__) (defBody s_BadBits___init__) (defScope s_BadBits___init__) .none kV1 dc1 pm1 an1 cd1 ct1) :=
    ⟨⟨oc1, od1, .none, kV1, dc1, pm1, an1, cd1, ct1, sl1, rfl, l1, c1, (.inl ⟨rfl, rfl⟩), .inl rfl⟩, k1⟩
  have F2 : FunD K "__init__" "BadToken.__init__" (defArgs s_BadToken___init__) (defBody s_BadToken___init__) (defScope s_BadToken___init__) [] [] A2 (PySem.W.fnOf "__init__" "BadToken.__init__" (defArgs s_BadToken___init__) (defBody s_BadToken___init__) (defScope s_BadToken___init__) .none kV2 dc2 pm2 an2 cd2 ct2) :=
    ⟨⟨oc2, od2, .none, kV2, dc2, pm2, an2, cd2, ct2, sl2, rfl, l2, c2, (.inl ⟨rfl, rfl⟩), .inl rfl⟩, k2⟩
  have F3 : FunD K "__init__" "Far.__init__" (defArgs s_Far___init__) (defBody s_Far___init__) (defScope s_Far___init__) [] [] A3 (PySem.W.fnOf "__init__" "Far.__init__" (defArgs s_Far___init__) (defBody s_Far___init__) (defScope s_Far___init__) .none kV3 dc3 pm3 an3 cd3 ct3) :=
    ⟨⟨oc3, od3, .none, kV3, dc3, pm3, an3, cd3, ct3, sl3, rfl, l3, c3, (.inl ⟨rfl, rfl⟩), .inl rfl⟩, k3⟩
  have F4 : FunD K "is_integer" "is_integer" (defArgs s_is_integer) (defBody s_is_integer) (defScope s_is_integer) [] [] A4 (PySem.W.fnOf "is_integer" "is_integer" (defArgs s_is_integer) (defBody s_is_integer) (defScope s_is_integer) .none kV4 dc4 pm4 an4 cd4 ct4) :=
    ⟨⟨oc4, od4, .none, kV4, dc4, pm4, an4, cd4, ct4, sl4, rfl, l4, c4, (.inl ⟨rfl, rfl⟩), .inl rfl⟩, k4⟩
  have F5 : FunD K "in_range" "in_range" (defArgs s_in_range) (defBody s_in_range) (defScope s_in_range) [] [] A5 (PySem.W.fnOf "in_range" "in_range" (defArgs s_in_range) (defBody s_in_range) (defScope s_in_range) .none kV5 dc5 pm5 an5 cd5 ct5) :=
    ⟨⟨oc5, od5, .none, kV5, dc5, pm5, an5, cd5, ct5, sl5, rfl, l5, c5, (.inl ⟨rfl, rfl⟩), .inl rfl⟩, k5⟩
  have F6 : FunD K "is_byte" "is_byte" (defArgs s_is_byte) (defBody s_is_byte) (defScope s_is_byte) [] [] A6 (PySem.W.fnOf "is_byte" "is_byte" (defArgs s_is_byte) (defBody s_is_byte) (defScope s_is_byte) .none kV6 dc6 pm6 an6 cd6 ct6) :=
    ⟨⟨oc6, od6, .none, kV6, dc6, pm6, an6, cd6, ct6, sl6, rfl, l6, c6, (.inl ⟨rfl, rfl⟩), .inl rfl⟩, k6⟩
  have F7 : FunD K "checked_data" "checked_data" (defArgs s_checked_data) (defBody s_checked_data) (defScope s_checked_data) [] [] A7 (PySem.W.fnOf "checked_data" "checked_data" (defArgs s_checked_data) (defBody s_checked_data) (defScope s_checked_data) .none kV7 dc7 pm7 an7 cd7 ct7) :=
    ⟨⟨oc7, od7, .none, kV7, dc7, pm7, an7, cd7, ct7, sl7, rfl, l7, c7, (.inl ⟨rfl, rfl⟩), .inl rfl⟩, k7⟩
  have F8 : FunD K "is_token" "is_token" (defArgs s_is_token) (defBody s_is_token) (defScope s_is_token) [] [] A8 (PySem.W.fnOf "is_token" "is_token" (defArgs s_is_token) (defBody s_is_token) (defScope s_is_token) .none kV8 dc8 pm8 an8 cd8 ct8) :=
    ⟨⟨oc8, od8, .none, kV8, dc8, pm8, an8, cd8, ct8, sl8, rfl, l8, c8, (.inl ⟨rfl, rfl⟩), .inl rfl⟩, k8⟩
  have F9 : FunD K "check_tokens" "check_tokens" (defArgs s_check_tokens) (defBody s_check_tokens) (defScope s_check_tokens) [] [] A9 (PySem.W.fnOf "check_tokens" "check_tokens" (defArgs s_check_tokens) (defBody s_check_tokens) (defScope s_check_tokens) .none kV9 dc9 pm9 an9 cd9 ct9) :=
    ⟨⟨oc9, od9, .none, kV9, dc9, pm9, an9, cd9, ct9, sl9, rfl, l9, c9, (.inl ⟨rfl, rfl⟩), .inl rfl⟩, k9⟩
  have F10 : FunD K "copy_into" "copy_into" (defArgs s_copy_into) (defBody s_copy_into) (defScope s_copy_into) [] [] A10 (PySem.W.fnOf "copy_into" "copy_into" (defArgs s_copy_into) (defBody s_copy_into) (defScope s_copy_into) .none kV10 dc10 pm10 an10 cd10 ct10) :=
    ⟨⟨oc10, od10, .none, kV10, dc10, pm10, an10, cd10, ct10, sl10, rfl, l10, c10, (.inl ⟨rfl, rfl⟩), .inl rfl⟩, k10⟩
  have F11 : FunD K "expand" "expand" (defArgs s_expand) (defBody s_expand) (defScope s_expand) [] [("before", .ref KT11_0)] A11 (PySem.W.fnOf "expand" "expand" (defArgs s_expand) (defBody s_expand) (defScope s_expand) .none (.ref KD11) dc11 pm11 an11 cd11 ct11) :=
    ⟨⟨oc11, od11, .none, (.ref KD11), dc11, pm11, an11, cd11, ct11, sl11, rfl, l11, c11, (.inl ⟨rfl, rfl⟩), .inr ⟨KD11, rfl, fun q hq => (List.mem_cons.mp hq).elim (fun e => by cases e; exact ⟨_, kx11_0, rfl⟩) fun hq => (List.not_mem_nil hq).elim⟩⟩, k11⟩
  have F12 : FunD K "same_length" "same_length" (defArgs s_same_length) (defBody s_same_length) (defScope s_same_length) [] [] A12 (PySem.W.fnOf "same_length" "same_length" (defArgs s_same_length) (defBody s_same_length) (defScope s_same_length) .none kV12 dc12 pm12 an12 cd12 ct12) :=
    ⟨⟨oc12, od12, .none, kV12, dc12, pm12, an12, cd12, ct12, sl12, rfl, l12, c12, (.inl ⟨rfl, rfl⟩), .inl rfl⟩, k12⟩
  have F13 : FunD K "__init__" "Matcher.__init__" (defArgs s_Matcher___init__) (defBody s_Matcher___init__) (defScope s_Matcher___init__) [] [] A13 (PySem.W.fnOf "__init__" "Matcher.__init__" (defArgs s_Matcher___init__) (defBody s_Matcher___init__) (defScope s_Matcher___init__) .none kV13 dc13 pm13 an13 cd13 ct13) :=
    ⟨⟨oc13, od13, .none, kV13, dc13, pm13, an13, cd13, ct13, sl13, rfl, l13, c13, (.inl ⟨rfl, rfl⟩), .inl rfl⟩, k13⟩
  have F14 : FunD K "learn" "Matcher.learn" (defArgs s_Matcher_learn) (defBody s_Matcher_learn) (defScope s_Matcher_learn) [] [] A14 (PySem.W.fnOf "learn" "Matcher.learn" (defArgs s_Matcher_learn) (defBody s_Matcher_learn) (defScope s_Matcher_learn) .none kV14 dc14 pm14 an14 cd14 ct14) :=
    ⟨⟨oc14, od14, .none, kV14, dc14, pm14, an14, cd14, ct14, sl14, rfl, l14, c14, (.inl ⟨rfl, rfl⟩), .inl rfl⟩, k14⟩
  have F15 : FunD K "longest" "Matcher.longest" (defArgs s_Matcher_longest) (defBody s_Matcher_longest) (defScope s_Matcher_longest) [] [] A15 (PySem.W.fnOf "longest" "Matcher.longest" (defArgs s_Matcher_longest) (defBody s_Matcher_longest) (defScope s_Matcher_longest) .none kV15 dc15 pm15 an15 cd15 ct15) :=
    ⟨⟨oc15, od15, .none, kV15, dc15, pm15, an15, cd15, ct15, sl15, rfl, l15, c15, (.inl ⟨rfl, rfl⟩), .inl rfl⟩, k15⟩
  have F16 : FunD K "greedy_tokens" "greedy_tokens" (defArgs s_greedy_tokens) (defBody s_greedy_tokens) (defScope s_greedy_tokens) [] [] A16 (PySem.W.fnOf "greedy_tokens" "greedy_tokens" (defArgs s_greedy_tokens) (defBody s_greedy_tokens) (defScope s_greedy_tokens) .none kV16 dc16 pm16 an16 cd16 ct16) :=
    ⟨⟨oc16, od16, .none, kV16, dc16, pm16, an16, cd16, ct16, sl16, rfl, l16, c16, (.inl ⟨rfl, rfl⟩), .inl rfl⟩, k16⟩
  have F17 : FunD K "tokens_behind" "tokens_behind" (defArgs s_tokens_behind) (defBody s_tokens_behind) (defScope s_tokens_behind) [] [] A17 (PySem.W.fnOf "tokens_behind" "tokens_behind" (defArgs s_tokens_behind) (defBody s_tokens_behind) (defScope s_tokens_behind) .none kV17 dc17 pm17 an17 cd17 ct17) :=
    ⟨⟨oc17, od17, .none, kV17, dc17, pm17, an17, cd17, ct17, sl17, rfl, l17, c17, (.inl ⟨rfl, rfl⟩), .inl rfl⟩, k17⟩
  have F18 : FunD K "greedy" "greedy" (defArgs s_greedy) (defBody s_greedy) (defScope s_greedy) [] [("before", .ref KT18_0), ("window", .int 32768)] A18 (PySem.W.fnOf "greedy" "greedy" (defArgs s_greedy) (defBody s_greedy) (defScope s_greedy) .none (.ref KD18) dc18 pm18 an18 cd18 ct18) :=
    ⟨⟨oc18, od18, .none, (.ref KD18), dc18, pm18, an18, cd18, ct18, sl18, rfl, l18, c18, (.inl ⟨rfl, rfl⟩), .inr ⟨KD18, rfl, fun q hq => (List.mem_cons.mp hq).elim (fun e => by cases e; exact ⟨_, kx18_0, rfl⟩) fun hq => (List.mem_cons.mp hq).elim (fun e => by cases e; exact ⟨_, kx18_1, ⟨_, rfl⟩⟩) fun hq => (List.not_mem_nil hq).elim⟩⟩, k18⟩
  have F19 : FunD K "_law_bag" "_law_bag" (defArgs s__law_bag) (defBody s__law_bag) (defScope s__law_bag) [] [] A19 (PySem.W.fnOf "_law_bag" "_law_bag" (defArgs s__law_bag) (defBody s__law_bag) (defScope s__law_bag) .none kV19 dc19 pm19 an19 cd19 ct19) :=
    ⟨⟨oc19, od19, .none, kV19, dc19, pm19, an19, cd19, ct19, sl19, rfl, l19, c19, (.inl ⟨rfl, rfl⟩), .inl rfl⟩, k19⟩
  have F20 : FunD K "_law_take" "_law_take" (defArgs s__law_take) (defBody s__law_take) (defScope s__law_take) [] [] A20 (PySem.W.fnOf "_law_take" "_law_take" (defArgs s__law_take) (defBody s__law_take) (defScope s__law_take) .none kV20 dc20 pm20 an20 cd20 ct20) :=
    ⟨⟨oc20, od20, .none, kV20, dc20, pm20, an20, cd20, ct20, sl20, rfl, l20, c20, (.inl ⟨rfl, rfl⟩), .inl rfl⟩, k20⟩
  have F21 : FunD K "_law_one" "_law_one" (defArgs s__law_one) (defBody s__law_one) (defScope s__law_one) [] [] A21 (PySem.W.fnOf "_law_one" "_law_one" (defArgs s__law_one) (defBody s__law_one) (defScope s__law_one) .none kV21 dc21 pm21 an21 cd21 ct21) :=
    ⟨⟨oc21, od21, .none, kV21, dc21, pm21, an21, cd21, ct21, sl21, rfl, l21, c21, (.inl ⟨rfl, rfl⟩), .inl rfl⟩, k21⟩
  have F22 : FunD K "_law_whole" "_law_whole" (defArgs s__law_whole) (defBody s__law_whole) (defScope s__law_whole) [] [] A22 (PySem.W.fnOf "_law_whole" "_law_whole" (defArgs s__law_whole) (defBody s__law_whole) (defScope s__law_whole) .none kV22 dc22 pm22 an22 cd22 ct22) :=
    ⟨⟨oc22, od22, .none, kV22, dc22, pm22, an22, cd22, ct22, sl22, rfl, l22, c22, (.inl ⟨rfl, rfl⟩), .inl rfl⟩, k22⟩
  have F23 : FunD K "_law_odd" "_law_odd" (defArgs s__law_odd) (defBody s__law_odd) (defScope s__law_odd) [] [] A23 (PySem.W.fnOf "_law_odd" "_law_odd" (defArgs s__law_odd) (defBody s__law_odd) (defScope s__law_odd) .none kV23 dc23 pm23 an23 cd23 ct23) :=
    ⟨⟨oc23, od23, .none, kV23, dc23, pm23, an23, cd23, ct23, sl23, rfl, l23, c23, (.inl ⟨rfl, rfl⟩), .inl rfl⟩, k23⟩
  have F24 : FunD K "_law_bent" "_law_bent" (defArgs s__law_bent) (defBody s__law_bent) (defScope s__law_bent) [] [] A24 (PySem.W.fnOf "_law_bent" "_law_bent" (defArgs s__law_bent) (defBody s__law_bent) (defScope s__law_bent) .none kV24 dc24 pm24 an24 cd24 ct24) :=
    ⟨⟨oc24, od24, .none, kV24, dc24, pm24, an24, cd24, ct24, sl24, rfl, l24, c24, (.inl ⟨rfl, rfl⟩), .inl rfl⟩, k24⟩
  have F25 : FunD K "_law_drawn_data" "_law_drawn_data" (defArgs s__law_drawn_data) (defBody s__law_drawn_data) (defScope s__law_drawn_data) [] [] A25 (PySem.W.fnOf "_law_drawn_data" "_law_drawn_data" (defArgs s__law_drawn_data) (defBody s__law_drawn_data) (defScope s__law_drawn_data) .none kV25 dc25 pm25 an25 cd25 ct25) :=
    ⟨⟨oc25, od25, .none, kV25, dc25, pm25, an25, cd25, ct25, sl25, rfl, l25, c25, (.inl ⟨rfl, rfl⟩), .inl rfl⟩, k25⟩
  have F26 : FunD K "_law_data_fault" "_law_data_fault" (defArgs s__law_data_fault) (defBody s__law_data_fault) (defScope s__law_data_fault) [] [] A26 (PySem.W.fnOf "_law_data_fault" "_law_data_fault" (defArgs s__law_data_fault) (defBody s__law_data_fault) (defScope s__law_data_fault) .none kV26 dc26 pm26 an26 cd26 ct26) :=
    ⟨⟨oc26, od26, .none, kV26, dc26, pm26, an26, cd26, ct26, sl26, rfl, l26, c26, (.inl ⟨rfl, rfl⟩), .inl rfl⟩, k26⟩
  have F27 : FunD K "_law_token" "_law_token" (defArgs s__law_token) (defBody s__law_token) (defScope s__law_token) [] [] A27 (PySem.W.fnOf "_law_token" "_law_token" (defArgs s__law_token) (defBody s__law_token) (defScope s__law_token) .none kV27 dc27 pm27 an27 cd27 ct27) :=
    ⟨⟨oc27, od27, .none, kV27, dc27, pm27, an27, cd27, ct27, sl27, rfl, l27, c27, (.inl ⟨rfl, rfl⟩), .inl rfl⟩, k27⟩
  have F28 : FunD K "_law_is_token" "_law_is_token" (defArgs s__law_is_token) (defBody s__law_is_token) (defScope s__law_is_token) [] [] A28 (PySem.W.fnOf "_law_is_token" "_law_is_token" (defArgs s__law_is_token) (defBody s__law_is_token) (defScope s__law_is_token) .none kV28 dc28 pm28 an28 cd28 ct28) :=
    ⟨⟨oc28, od28, .none, kV28, dc28, pm28, an28, cd28, ct28, sl28, rfl, l28, c28, (.inl ⟨rfl, rfl⟩), .inl rfl⟩, k28⟩
  have F29 : FunD K "_law_expanded" "_law_expanded" (defArgs s__law_expanded) (defBody s__law_expanded) (defScope s__law_expanded) [] [] A29 (PySem.W.fnOf "_law_expanded" "_law_expanded" (defArgs s__law_expanded) (defBody s__law_expanded) (defScope s__law_expanded) .none kV29 dc29 pm29 an29 cd29 ct29) :=
    ⟨⟨oc29, od29, .none, kV29, dc29, pm29, an29, cd29, ct29, sl29, rfl, l29, c29, (.inl ⟨rfl, rfl⟩), .inl rfl⟩, k29⟩
  have F30 : FunD K "_law_fault" "_law_fault" (defArgs s__law_fault) (defBody s__law_fault) (defScope s__law_fault) [] [] A30 (PySem.W.fnOf "_law_fault" "_law_fault" (defArgs s__law_fault) (defBody s__law_fault) (defScope s__law_fault) .none kV30 dc30 pm30 an30 cd30 ct30) :=
    ⟨⟨oc30, od30, .none, kV30, dc30, pm30, an30, cd30, ct30, sl30, rfl, l30, c30, (.inl ⟨rfl, rfl⟩), .inl rfl⟩, k30⟩
  have F31 : FunD K "_law_due" "_law_due" (defArgs s__law_due) (defBody s__law_due) (defScope s__law_due) [] [] A31 (PySem.W.fnOf "_law_due" "_law_due" (defArgs s__law_due) (defBody s__law_due) (defScope s__law_due) .none kV31 dc31 pm31 an31 cd31 ct31) :=
    ⟨⟨oc31, od31, .none, kV31, dc31, pm31, an31, cd31, ct31, sl31, rfl, l31, c31, (.inl ⟨rfl, rfl⟩), .inl rfl⟩, k31⟩
  have F32 : FunD K "_law_greedy_due" "_law_greedy_due" (defArgs s__law_greedy_due) (defBody s__law_greedy_due) (defScope s__law_greedy_due) [] [] A32 (PySem.W.fnOf "_law_greedy_due" "_law_greedy_due" (defArgs s__law_greedy_due) (defBody s__law_greedy_due) (defScope s__law_greedy_due) .none kV32 dc32 pm32 an32 cd32 ct32) :=
    ⟨⟨oc32, od32, .none, kV32, dc32, pm32, an32, cd32, ct32, sl32, rfl, l32, c32, (.inl ⟨rfl, rfl⟩), .inl rfl⟩, k32⟩
  have F33 : FunD K "law" "law" (defArgs s_law) (defBody s_law) (defScope s_law) [] [] fa (PySem.W.fnOf "law" "law" (defArgs s_law) (defBody s_law) (defScope s_law) .none kV33 dc33 pm33 an33 (.ref CL33) ct33) :=
    ⟨⟨oc33, od33, .none, kV33, dc33, pm33, an33, (.ref CL33), ct33, sl33, rfl, l33, c33, (.inl ⟨rfl, rfl⟩), .inl rfl⟩, k33⟩
  have T : Txt K mg ⟨A0, (PySem.W.fnOf "__init__" "BadData.__init__" (defArgs s_BadData___init__) (defBody s_BadData___init__) (defScope s_BadData___init__) .none kV0 dc0 pm0 an0 cd0 ct0),
      A1, (PySem.W.fnOf "__init__" "BadBits.__init__" (defArgs s_BadBits___init__) (defBody s_BadBits___init__) (defScope s_BadBits___init__) .none kV1 dc1 pm1 an1 cd1 ct1),
      A2, (PySem.W.fnOf "__init__" "BadToken.__init__" (defArgs s_BadToken___init__) (defBody s_BadToken___init__) (defScope s_BadToken___init__) .none kV2 dc2 pm2 an2 cd2 ct2),
      A3, (PySem.W.fnOf "__init__" "Far.__init__" (defArgs s_Far___init__) (defBody s_Far___init__) (defScope s_Far___init__) .none kV3 dc3 pm3 an3 cd3 ct3),
      A4, (PySem.W.fnOf "is_integer" "is_integer" (defArgs s_is_integer) (defBody s_is_integer) (defScope s_is_integer) .none kV4 dc4 pm4 an4 cd4 ct4),
      A5, (PySem.W.fnOf "in_range" "in_range" (defArgs s_in_range) (defBody s_in_range) (defScope s_in_range) .none kV5 dc5 pm5 an5 cd5 ct5),
      A6, (PySem.W.fnOf "is_byte" "is_byte" (defArgs s_is_byte) (defBody s_is_byte) (defScope s_is_byte) .none kV6 dc6 pm6 an6 cd6 ct6),
      A7, (PySem.W.fnOf "checked_data" "checked_data" (defArgs s_checked_data) (defBody s_checked_data) (defScope s_checked_data) .none kV7 dc7 pm7 an7 cd7 ct7),
      A8, (PySem.W.fnOf "is_token" "is_token" (defArgs s_is_token) (defBody s_is_token) (defScope s_is_token) .none kV8 dc8 pm8 an8 cd8 ct8),
      A9, (PySem.W.fnOf "check_tokens" "check_tokens" (defArgs s_check_tokens) (defBody s_check_tokens) (defScope s_check_tokens) .none kV9 dc9 pm9 an9 cd9 ct9),
      A10, (PySem.W.fnOf "copy_into" "copy_into" (defArgs s_copy_into) (defBody s_copy_into) (defScope s_copy_into) .none kV10 dc10 pm10 an10 cd10 ct10),
      A11, (PySem.W.fnOf "expand" "expand" (defArgs s_expand) (defBody s_expand) (defScope s_expand) .none (.ref KD11) dc11 pm11 an11 cd11 ct11),
      A12, (PySem.W.fnOf "same_length" "same_length" (defArgs s_same_length) (defBody s_same_length) (defScope s_same_length) .none kV12 dc12 pm12 an12 cd12 ct12),
      A13, (PySem.W.fnOf "__init__" "Matcher.__init__" (defArgs s_Matcher___init__) (defBody s_Matcher___init__) (defScope s_Matcher___init__) .none kV13 dc13 pm13 an13 cd13 ct13),
      A14, (PySem.W.fnOf "learn" "Matcher.learn" (defArgs s_Matcher_learn) (defBody s_Matcher_learn) (defScope s_Matcher_learn) .none kV14 dc14 pm14 an14 cd14 ct14),
      A15, (PySem.W.fnOf "longest" "Matcher.longest" (defArgs s_Matcher_longest) (defBody s_Matcher_longest) (defScope s_Matcher_longest) .none kV15 dc15 pm15 an15 cd15 ct15),
      A16, (PySem.W.fnOf "greedy_tokens" "greedy_tokens" (defArgs s_greedy_tokens) (defBody s_greedy_tokens) (defScope s_greedy_tokens) .none kV16 dc16 pm16 an16 cd16 ct16),
      A17, (PySem.W.fnOf "tokens_behind" "tokens_behind" (defArgs s_tokens_behind) (defBody s_tokens_behind) (defScope s_tokens_behind) .none kV17 dc17 pm17 an17 cd17 ct17),
      A18, (PySem.W.fnOf "greedy" "greedy" (defArgs s_greedy) (defBody s_greedy) (defScope s_greedy) .none (.ref KD18) dc18 pm18 an18 cd18 ct18),
      A19, (PySem.W.fnOf "_law_bag" "_law_bag" (defArgs s__law_bag) (defBody s__law_bag) (defScope s__law_bag) .none kV19 dc19 pm19 an19 cd19 ct19),
      A20, (PySem.W.fnOf "_law_take" "_law_take" (defArgs s__law_take) (defBody s__law_take) (defScope s__law_take) .none kV20 dc20 pm20 an20 cd20 ct20),
      A21, (PySem.W.fnOf "_law_one" "_law_one" (defArgs s__law_one) (defBody s__law_one) (defScope s__law_one) .none kV21 dc21 pm21 an21 cd21 ct21),
      A22, (PySem.W.fnOf "_law_whole" "_law_whole" (defArgs s__law_whole) (defBody s__law_whole) (defScope s__law_whole) .none kV22 dc22 pm22 an22 cd22 ct22),
      A23, (PySem.W.fnOf "_law_odd" "_law_odd" (defArgs s__law_odd) (defBody s__law_odd) (defScope s__law_odd) .none kV23 dc23 pm23 an23 cd23 ct23),
      A24, (PySem.W.fnOf "_law_bent" "_law_bent" (defArgs s__law_bent) (defBody s__law_bent) (defScope s__law_bent) .none kV24 dc24 pm24 an24 cd24 ct24),
      A25, (PySem.W.fnOf "_law_drawn_data" "_law_drawn_data" (defArgs s__law_drawn_data) (defBody s__law_drawn_data) (defScope s__law_drawn_data) .none kV25 dc25 pm25 an25 cd25 ct25),
      A26, (PySem.W.fnOf "_law_data_fault" "_law_data_fault" (defArgs s__law_data_fault) (defBody s__law_data_fault) (defScope s__law_data_fault) .none kV26 dc26 pm26 an26 cd26 ct26),
      A27, (PySem.W.fnOf "_law_token" "_law_token" (defArgs s__law_token) (defBody s__law_token) (defScope s__law_token) .none kV27 dc27 pm27 an27 cd27 ct27),
      A28, (PySem.W.fnOf "_law_is_token" "_law_is_token" (defArgs s__law_is_token) (defBody s__law_is_token) (defScope s__law_is_token) .none kV28 dc28 pm28 an28 cd28 ct28),
      A29, (PySem.W.fnOf "_law_expanded" "_law_expanded" (defArgs s__law_expanded) (defBody s__law_expanded) (defScope s__law_expanded) .none kV29 dc29 pm29 an29 cd29 ct29),
      A30, (PySem.W.fnOf "_law_fault" "_law_fault" (defArgs s__law_fault) (defBody s__law_fault) (defScope s__law_fault) .none kV30 dc30 pm30 an30 cd30 ct30),
      A31, (PySem.W.fnOf "_law_due" "_law_due" (defArgs s__law_due) (defBody s__law_due) (defScope s__law_due) .none kV31 dc31 pm31 an31 cd31 ct31),
      A32, (PySem.W.fnOf "_law_greedy_due" "_law_greedy_due" (defArgs s__law_greedy_due) (defBody s__law_greedy_due) (defScope s__law_greedy_due) .none kV32 dc32 pm32 an32 cd32 ct32),
      fa, (PySem.W.fnOf "law" "law" (defArgs s_law) (defBody s_law) (defScope s_law) .none kV33 dc33 pm33 an33 (.ref CL33) ct33),
      KT11_0,
      KT18_0,
      CBadData,
      CBadBits,
      CBadToken,
      CFar,
      CMatcher,
      CL33,
      PL33,
      tc0,
      tc1,
      tc2,
      tc3⟩ :=
   ⟨F0,
    F0.bindsN fun _ _ _ _ _ _ us hl => match us, hl with | [_, _], _ => rfl,
    F1,
    F1.bindsN fun _ _ _ _ _ _ us hl => match us, hl with | [_, _], _ => rfl,
    F2,
    F2.bindsN fun _ _ _ _ _ _ us hl => match us, hl with | [_, _], _ => rfl,
    F3,
    F3.bindsN fun _ _ _ _ _ _ us hl => match us, hl with | [_, _], _ => rfl,
    F4,
    F4.bindsN fun _ _ _ _ _ _ us hl => match us, hl with | [_], _ => rfl,
    PySem.W.mg_of X G a4,
    F5,
    F5.bindsN fun _ _ _ _ _ _ us hl => match us, hl with | [_, _, _], _ => rfl,
    PySem.W.mg_of X G a5,
    F6,
    F6.bindsN fun _ _ _ _ _ _ us hl => match us, hl with | [_], _ => rfl,
    PySem.W.mg_of X G a6,
    F7,
    F7.bindsN fun _ _ _ _ _ _ us hl => match us, hl with | [_], _ => rfl,
    PySem.W.mg_of X G a7,
    F8,
    F8.bindsN fun _ _ _ _ _ _ us hl => match us, hl with | [_], _ => rfl,
    PySem.W.mg_of X G a8,
    F9,
    F9.bindsN fun _ _ _ _ _ _ us hl => match us, hl with | [_], _ => rfl,
    PySem.W.mg_of X G a9,
    F10,
    F10.bindsN fun _ _ _ _ _ _ us hl => match us, hl with | [_, _], _ => rfl,
    PySem.W.mg_of X G a10,
    F11,
    fun H => .inr ⟨_, #[], kn11_0, kl11_0, rfl, rfl, Nat.zero_le _, .nil⟩,
    PySem.W.mg_of X G a11,
    F12,
    F12.bindsN fun _ _ _ _ _ _ us hl => match us, hl with | [_, _, _, _], _ => rfl,
    PySem.W.mg_of X G a12,
    F13,
    F13.bindsN fun _ _ _ _ _ _ us hl => match us, hl with | [_, _, _, _], _ => rfl,
    F14,
    F14.bindsN fun _ _ _ _ _ _ us hl => match us, hl with | [_, _], _ => rfl,
    F15,
    F15.bindsN fun _ _ _ _ _ _ us hl => match us, hl with | [_, _, _], _ => rfl,
    F16,
    PySem.W.mg_of X G a16,
    F17,
    F17.bindsN fun _ _ _ _ _ _ us hl => match us, hl with | [_, _, _, _], _ => rfl,
    PySem.W.mg_of X G a17,
    F18,
    fun H => .inr ⟨_, #[], kn18_0, kl18_0, rfl, rfl, Nat.zero_le _, .nil⟩,
    PySem.W.mg_of X G a18,
    F19,
    F19.bindsN fun _ _ _ _ _ _ us hl => match us, hl with | [_, _], _ => rfl,
    PySem.W.mg_of X G a19,
    F20,
    F20.bindsN fun _ _ _ _ _ _ us hl => match us, hl with | [_, _], _ => rfl,
    PySem.W.mg_of X G a20,
    F21,
    F21.bindsN fun _ _ _ _ _ _ us hl => match us, hl with | [_, _], _ => rfl,
    PySem.W.mg_of X G a21,
    F22,
    F22.bindsN fun _ _ _ _ _ _ us hl => match us, hl with | [_], _ => rfl,
    PySem.W.mg_of X G a22,
    F23,
    F23.bindsN fun _ _ _ _ _ _ us hl => match us, hl with | [_], _ => rfl,
    PySem.W.mg_of X G a23,
    F24,
    F24.bindsN fun _ _ _ _ _ _ us hl => match us, hl with | [_, _], _ => rfl,
    PySem.W.mg_of X G a24,
    F25,
    F25.bindsN fun _ _ _ _ _ _ us hl => match us, hl with | [_, _], _ => rfl,
    PySem.W.mg_of X G a25,
    F26,
    F26.bindsN fun _ _ _ _ _ _ us hl => match us, hl with | [_], _ => rfl,
    PySem.W.mg_of X G a26,
    F27,
    F27.bindsN fun _ _ _ _ _ _ us hl => match us, hl with | [_, _], _ => rfl,
    PySem.W.mg_of X G a27,
    F28,
    F28.bindsN fun _ _ _ _ _ _ us hl => match us, hl with | [_], _ => rfl,
    PySem.W.mg_of X G a28,
    F29,
    F29.bindsN fun _ _ _ _ _ _ us hl => match us, hl with | [_, _], _ => rfl,
    PySem.W.mg_of X G a29,
    F30,
    F30.bindsN fun _ _ _ _ _ _ us hl => match us, hl with | [_], _ => rfl,
    PySem.W.mg_of X G a30,
    F31,
    F31.bindsN fun _ _ _ _ _ _ us hl => match us, hl with | [_, _], _ => rfl,
    PySem.W.mg_of X G a31,
    F32,
    F32.bindsN fun _ _ _ _ _ _ us hl => match us, hl with | [_, _], _ => rfl,
    PySem.W.mg_of X G a32,
    F33,
    rfl,
    F33.bindsN fun _ _ _ _ _ _ us hl => match us, hl with | [_], _ => rfl,
    PySem.W.mg_of X G a33,
    F18.binds0 (ps := sP_greedy) 1 (by simp) rfl fun _ _ _ _ _ _ us ks hl hk => match us, ks, hl, hk with | [_], [_, _], _, _ => ⟨_, _, _, _, _, _, rfl, rfl, ⟨_, _, _, _, _, _, rfl, rfl, rfl⟩⟩,
    ⟨_, kbnN F16 (fun us ws => [us.getD 0 .none, us.getD 1 .none, us.getD 2 .none, ws.getD 0 .none, ws.getD 1 .none]) (fun r1 r3 => (.cons (valsGet r1 0) (.cons (valsGet r1 1) (.cons (valsGet r1 2) (.cons (valsGet r3 0) (.cons (valsGet r3 1) .nil)))))) fun _ _ _ _ _ _ us ws hl hw => match us, ws, hl, hw with | [_, _, _], [_, _], _, _ => rfl⟩,
    ⟨_, kbnK F11 (fun us ws => [us.getD 0 .none, ws.getD 0 .none]) (fun r1 r3 => (.cons (valsGet r1 0) (.cons (valsGet r3 0) .nil))) fun _ _ _ _ _ _ us ws hl hw => match us, ws, hl, hw with | [_], [_], _, _ => rfl⟩,
    kbnKM F18 [("window", .int 32768)] (by simp) (by simp) (fun us mv ws => [us.getD 0 .none, ws.getD 0 .none, mv.getD 0 .none]) (fun r1 r2 r3 => (.cons (valsGet r1 0) (.cons (valsGet r3 0) (.cons (valsGet r2 0) .nil)))) fun _ _ _ _ _ _ us mv ws hl hm hw => match us, mv, ws, hl, hm, hw with | [_], [_], [_], _, _, _ => ⟨_, _, _, _, _, _, rfl, rfl, rfl⟩,
    PySem.W.mg_of X G co0,
    PySem.W.mg_of X G co1,
    PySem.W.mg_of X G co2,
    PySem.W.mg_of X G co3,
    PySem.W.mg_none_of X G z_ValueError,
    PySem.W.mg_none_of X G z_LookupError,
    PySem.W.mg_none_of X G z_isinstance,
    PySem.W.mg_none_of X G z_int,
    PySem.W.mg_none_of X G z_bool,
    PySem.W.mg_none_of X G z_enumerate,
    PySem.W.mg_none_of X G z_list,
    PySem.W.mg_none_of X G z_len,
    PySem.W.mg_none_of X G z_tuple,
    PySem.W.mg_none_of X G z_range,
    PySem.W.mg_none_of X G z_min,
    PySem.W.mg_none_of X G z_abs,
    PySem.W.mg_none_of X G z_str,
    PySem.W.mg_none_of X G z_max,
    PySem.W.mg_none_of X G z_repr,
    ⟨PySem.W.mg_of X G xg_BadData, ⟨⟨nmBadData, qnBadData, NBadData, bsBadData, snBadData, subBadData, abBadData, colBadData, ddBadData, k0BadData, k1BadData, k2BadData, k3BadData, k5BadData, xl_BadData⟩, xsa_BadData, xe_BadData, xt_BadData, xk_BadData, bx_ValueError.fac, bx_ValueError.pass, bx_ValueError.hob⟩, ⟨xga_BadData, xgg_BadData, xe_BadData, xh_BadData⟩, ⟨xga_BadData, xgg_BadData, xe_BadData, xh_BadData, xca_BadData, ecn, ect, xcm_BadData⟩, xno_BadData, a0, u0, PySem.W.exm_ref xe_BadData xh_BadData xt_BadData xs_BadData, kvB_of bx_ValueError.kmt xv_BadData⟩,
    ⟨PySem.W.mg_of X G xg_BadBits, ⟨⟨nmBadBits, qnBadBits, NBadBits, bsBadBits, snBadBits, subBadBits, abBadBits, colBadBits, ddBadBits, k0BadBits, k1BadBits, k2BadBits, k3BadBits, k5BadBits, xl_BadBits⟩, xsa_BadBits, xe_BadBits, xt_BadBits, xk_BadBits, bx_ValueError.fac, bx_ValueError.pass, bx_ValueError.hob⟩, ⟨xga_BadBits, xgg_BadBits, xe_BadBits, xh_BadBits⟩, ⟨xga_BadBits, xgg_BadBits, xe_BadBits, xh_BadBits, xca_BadBits, ecn, ect, xcm_BadBits⟩, xno_BadBits, a1, u1, PySem.W.exm_ref xe_BadBits xh_BadBits xt_BadBits xs_BadBits, kvB_of bx_ValueError.kmt xv_BadBits⟩,
    ⟨PySem.W.mg_of X G xg_BadToken, ⟨⟨nmBadToken, qnBadToken, NBadToken, bsBadToken, snBadToken, subBadToken, abBadToken, colBadToken, ddBadToken, k0BadToken, k1BadToken, k2BadToken, k3BadToken, k5BadToken, xl_BadToken⟩, xsa_BadToken, xe_BadToken, xt_BadToken, xk_BadToken, bx_ValueError.fac, bx_ValueError.pass, bx_ValueError.hob⟩, ⟨xga_BadToken, xgg_BadToken, xe_BadToken, xh_BadToken⟩, ⟨xga_BadToken, xgg_BadToken, xe_BadToken, xh_BadToken, xca_BadToken, ecn, ect, xcm_BadToken⟩, xno_BadToken, a2, u2, PySem.W.exm_ref xe_BadToken xh_BadToken xt_BadToken xs_BadToken, kvB_of bx_ValueError.kmt xv_BadToken⟩,
    ⟨PySem.W.mg_of X G xg_Far, ⟨⟨nmFar, qnFar, NFar, bsFar, snFar, subFar, abFar, colFar, ddFar, k0Far, k1Far, k2Far, k3Far, k5Far, xl_Far⟩, xsa_Far, xe_Far, xt_Far, xk_Far, bx_LookupError.fac, bx_LookupError.pass, bx_LookupError.hob⟩, ⟨xga_Far, xgg_Far, xe_Far, xh_Far⟩, ⟨xga_Far, xgg_Far, xe_Far, xh_Far, xca_Far, ecn, ect, xcm_Far⟩, xno_Far, a3, u3, PySem.W.exm_ref xe_Far xh_Far xt_Far xs_Far, kvB_of bx_LookupError.kmt xv_Far⟩,
    PySem.W.exm_ref xe_BadToken xh_BadToken xt_BadToken xq_BadData_BadToken,
    PySem.W.exm_ref xe_BadToken xh_BadToken xt_BadToken xq_Far_BadToken,
    PySem.W.exm_ref xe_BadData xh_BadData xt_BadData xq_Far_BadData,
    xz_BadToken_BadData,
    xz_BadToken_BadBits,
    PySem.W.mg_of X G yg_Matcher,
    ⟨ypg_Matcher, yhd_Matcher, ypo_Matcher, ysa_Matcher⟩,
    yf_row_Matcher,
    yf_window_Matcher,
    yf_learned_Matcher,
    yf_places_Matcher,
    ⟨ymk_Matcher, a13, u13, ykc_Matcher⟩,
    ⟨a14, u14, k14⟩,
    ⟨a15, u15, k15⟩,
    evv_ValueError,
    evv_LookupError⟩
  have hcs : ∀ p ∈ [(CL33, PL33)], (∃ nm ∈ lamNames, PySem.W.tabIn K nm = some p) ∧ K.lookup p.2 = none := by
    intro p hp
    simp only [List.mem_cons, List.not_mem_nil, or_false] at hp
    rcases hp with rfl
    · exact ⟨⟨"law", List.mem_cons_self, tabIn_of a33 l33 tc33 tp33⟩, tn33⟩
  have nd : ((tabs_all ⟨A0, (PySem.W.fnOf "__init__" "BadData.__init__" (defArgs s_BadData___init__) (defBody s_BadData___init__) (defScope s_BadData___init__) .none kV0 dc0 pm0 an0 cd0 ct0),
      A1, (PySem.W.fnOf "__init__" "BadBits.__init__" (defArgs s_BadBits___init__) (defBody s_BadBits___init__) (defScope s_BadBits___init__) .none kV1 dc1 pm1 an1 cd1 ct1),
      A2, (PySem.W.fnOf "__init__" "BadToken.__init__" (defArgs s_BadToken___init__) (defBody s_BadToken___init__) (defScope s_BadToken___init__) .none kV2 dc2 pm2 an2 cd2 ct2),
      A3, (PySem.W.fnOf "__init__" "Far.__init__" (defArgs s_Far___init__) (defBody s_Far___init__) (defScope s_Far___init__) .none kV3 dc3 pm3 an3 cd3 ct3),
      A4, (PySem.W.fnOf "is_integer" "is_integer" (defArgs s_is_integer) (defBody s_is_integer) (defScope s_is_integer) .none kV4 dc4 pm4 an4 cd4 ct4),
      A5, (PySem.W.fnOf "in_range" "in_range" (defArgs s_in_range) (defBody s_in_range) (defScope s_in_range) .none kV5 dc5 pm5 an5 cd5 ct5),
      A6, (PySem.W.fnOf "is_byte" "is_byte" (defArgs s_is_byte) (defBody s_is_byte) (defScope s_is_byte) .none kV6 dc6 pm6 an6 cd6 ct6),
      A7, (PySem.W.fnOf "checked_data" "checked_data" (defArgs s_checked_data) (defBody s_checked_data) (defScope s_checked_data) .none kV7 dc7 pm7 an7 cd7 ct7),
      A8, (PySem.W.fnOf "is_token" "is_token" (defArgs s_is_token) (defBody s_is_token) (defScope s_is_token) .none kV8 dc8 pm8 an8 cd8 ct8),
      A9, (PySem.W.fnOf "check_tokens" "check_tokens" (defArgs s_check_tokens) (defBody s_check_tokens) (defScope s_check_tokens) .none kV9 dc9 pm9 an9 cd9 ct9),
      A10, (PySem.W.fnOf "copy_into" "copy_into" (defArgs s_copy_into) (defBody s_copy_into) (defScope s_copy_into) .none kV10 dc10 pm10 an10 cd10 ct10),
      A11, (PySem.W.fnOf "expand" "expand" (defArgs s_expand) (defBody s_expand) (defScope s_expand) .none (.ref KD11) dc11 pm11 an11 cd11 ct11),
      A12, (PySem.W.fnOf "same_length" "same_length" (defArgs s_same_length) (defBody s_same_length) (defScope s_same_length) .none kV12 dc12 pm12 an12 cd12 ct12),
      A13, (PySem.W.fnOf "__init__" "Matcher.__init__" (defArgs s_Matcher___init__) (defBody s_Matcher___init__) (defScope s_Matcher___init__) .none kV13 dc13 pm13 an13 cd13 ct13),
      A14, (PySem.W.fnOf "learn" "Matcher.learn" (defArgs s_Matcher_learn) (defBody s_Matcher_learn) (defScope s_Matcher_learn) .none kV14 dc14 pm14 an14 cd14 ct14),
      A15, (PySem.W.fnOf "longest" "Matcher.longest" (defArgs s_Matcher_longest) (defBody s_Matcher_longest) (defScope s_Matcher_longest) .none kV15 dc15 pm15 an15 cd15 ct15),
      A16, (PySem.W.fnOf "greedy_tokens" "greedy_tokens" (defArgs s_greedy_tokens) (defBody s_greedy_tokens) (defScope s_greedy_tokens) .none kV16 dc16 pm16 an16 cd16 ct16),
      A17, (PySem.W.fnOf "tokens_behind" "tokens_behind" (defArgs s_tokens_behind) (defBody s_tokens_behind) (defScope s_tokens_behind) .none kV17 dc17 pm17 an17 cd17 ct17),
      A18, (PySem.W.fnOf "greedy" "greedy" (defArgs s_greedy) (defBody s_greedy) (defScope s_greedy) .none (.ref KD18) dc18 pm18 an18 cd18 ct18),
      A19, (PySem.W.fnOf "_law_bag" "_law_bag" (defArgs s__law_bag) (defBody s__law_bag) (defScope s__law_bag) .none kV19 dc19 pm19 an19 cd19 ct19),
      A20, (PySem.W.fnOf "_law_take" "_law_take" (defArgs s__law_take) (defBody s__law_take) (defScope s__law_take) .none kV20 dc20 pm20 an20 cd20 ct20),
      A21, (PySem.W.fnOf "_law_one" "_law_one" (defArgs s__law_one) (defBody s__law_one) (defScope s__law_one) .none kV21 dc21 pm21 an21 cd21 ct21),
      A22, (PySem.W.fnOf "_law_whole" "_law_whole" (defArgs s__law_whole) (defBody s__law_whole) (defScope s__law_whole) .none kV22 dc22 pm22 an22 cd22 ct22),
      A23, (PySem.W.fnOf "_law_odd" "_law_odd" (defArgs s__law_odd) (defBody s__law_odd) (defScope s__law_odd) .none kV23 dc23 pm23 an23 cd23 ct23),
      A24, (PySem.W.fnOf "_law_bent" "_law_bent" (defArgs s__law_bent) (defBody s__law_bent) (defScope s__law_bent) .none kV24 dc24 pm24 an24 cd24 ct24),
      A25, (PySem.W.fnOf "_law_drawn_data" "_law_drawn_data" (defArgs s__law_drawn_data) (defBody s__law_drawn_data) (defScope s__law_drawn_data) .none kV25 dc25 pm25 an25 cd25 ct25),
      A26, (PySem.W.fnOf "_law_data_fault" "_law_data_fault" (defArgs s__law_data_fault) (defBody s__law_data_fault) (defScope s__law_data_fault) .none kV26 dc26 pm26 an26 cd26 ct26),
      A27, (PySem.W.fnOf "_law_token" "_law_token" (defArgs s__law_token) (defBody s__law_token) (defScope s__law_token) .none kV27 dc27 pm27 an27 cd27 ct27),
      A28, (PySem.W.fnOf "_law_is_token" "_law_is_token" (defArgs s__law_is_token) (defBody s__law_is_token) (defScope s__law_is_token) .none kV28 dc28 pm28 an28 cd28 ct28),
      A29, (PySem.W.fnOf "_law_expanded" "_law_expanded" (defArgs s__law_expanded) (defBody s__law_expanded) (defScope s__law_expanded) .none kV29 dc29 pm29 an29 cd29 ct29),
      A30, (PySem.W.fnOf "_law_fault" "_law_fault" (defArgs s__law_fault) (defBody s__law_fault) (defScope s__law_fault) .none kV30 dc30 pm30 an30 cd30 ct30),
      A31, (PySem.W.fnOf "_law_due" "_law_due" (defArgs s__law_due) (defBody s__law_due) (defScope s__law_due) .none kV31 dc31 pm31 an31 cd31 ct31),
      A32, (PySem.W.fnOf "_law_greedy_due" "_law_greedy_due" (defArgs s__law_greedy_due) (defBody s__law_greedy_due) (defScope s__law_greedy_due) .none kV32 dc32 pm32 an32 cd32 ct32),
      fa, (PySem.W.fnOf "law" "law" (defArgs s_law) (defBody s_law) (defScope s_law) .none kV33 dc33 pm33 an33 (.ref CL33) ct33),
      KT11_0,
      KT18_0,
      CBadData,
      CBadBits,
      CBadToken,
      CFar,
      CMatcher,
      CL33,
      PL33,
      tc0,
      tc1,
      tc2,
      tc3⟩).map (·.1)).Nodup := by
    show [PL33].Nodup
    simp []
  exact ⟨_, [(CL33, PL33)], _, fun s v => F33.bindsA (ps := ["_law_script"]) (fun _ _ _ _ _ _ us hl => match us, hl with | [_], _ => rfl) s [v] rfl, hcs,
    fun H a ns hl hH hS => ⟨a, ns, rfl, hS, hl, fun p hp => by
      simp only [tabs_all, List.mem_cons, List.not_mem_nil, or_false] at hp
      rcases hp with rfl
      · exact hH (CL33, PL33) (by simp), fun _ => rfl⟩, fun base _ _ hT => ok_law T (hT _ (List.mem_cons_self)) nd⟩
end Z
open PySem PySem.W PyProof.Rows
set_option maxRecDepth 100000 in
set_option maxHeartbeats 0 in
theorem PySem.Challenge.cw_deflatehall_k17_tokens_refused_holds : PySem.Challenge.rw_deflatehall_k17_tokens_refused.Holds := by
  w_on; o_law; k_head; (case hw => w_witness2)
  k_fill
  refine Z.walk_L (l := PySem.Challenge.rw_deflatehall_k17_tokens_refused) (n := 63) (k := 11) (x := "_law_script") (names := Z.lamNames) rfl (by decide) rfl ⟨rfl, by decide, by decide⟩ (by decide +kernel) (fun w h Y => PySem.W.km_in_of Y) ?F
  case F =>
    intro w mg fa h KX G hmg
    refine' Z.all_mk KX G hmg ?xg_BadData ?xl_BadData ?xsa_BadData ?xga_BadData ?xgg_BadData ?xno_BadData ?xk_BadData ?xe_BadData ?xt_BadData ?xh_BadData ?xs_BadData ?xca_BadData ?xv_BadData ?xcm_BadData ?a0 ?u0 ?l0 ?c0 ?k0 ?xg_BadBits ?xl_BadBits ?xsa_BadBits ?xga_BadBits ?xgg_BadBits ?xno_BadBits ?xk_BadBits ?xe_BadBits ?xt_BadBits ?xh_BadBits ?xs_BadBits ?xca_BadBits ?xv_BadBits ?xcm_BadBits ?a1 ?u1 ?l1 ?c1 ?k1 ?xg_BadToken ?xl_BadToken ?xsa_BadToken ?xga_BadToken ?xgg_BadToken ?xno_BadToken ?xk_BadToken ?xe_BadToken ?xt_BadToken ?xh_BadToken ?xs_BadToken ?xca_BadToken ?xv_BadToken ?xcm_BadToken ?a2 ?u2 ?l2 ?c2 ?k2 ?xg_Far ?xl_Far ?xsa_Far ?xga_Far ?xgg_Far ?xno_Far ?xk_Far ?xe_Far ?xt_Far ?xh_Far ?xs_Far ?xca_Far ?xv_Far ?xcm_Far ?a3 ?u3 ?l3 ?c3 ?k3 ?a4 ?l4 ?c4 ?k4 ?a5 ?l5 ?c5 ?k5 ?a6 ?l6 ?c6 ?k6 ?a7 ?l7 ?c7 ?k7 ?a8 ?l8 ?c8 ?k8 ?a9 ?l9 ?c9 ?k9 ?a10 ?l10 ?c10 ?k10 ?a11 ?l11 ?kx11_0 ?kl11_0 ?c11 ?k11 ?a12 ?l12 ?c12 ?k12 ?yg_Matcher ?ypg_Matcher ?yhd_Matcher ?ypo_Matcher ?ysa_Matcher ?ymk_Matcher ?ykc_Matcher ?yf_row_Matcher ?yf_window_Matcher ?yf_learned_Matcher ?yf_places_Matcher ?a13 ?u13 ?l13 ?c13 ?k13 ?a14 ?u14 ?l14 ?c14 ?k14 ?a15 ?u15 ?l15 ?c15 ?k15 ?a16 ?l16 ?c16 ?k16 ?a17 ?l17 ?c17 ?k17 ?a18 ?l18 ?kx18_0 ?kx18_1 ?kl18_0 ?c18 ?k18 ?a19 ?l19 ?c19 ?k19 ?a20 ?l20 ?c20 ?k20 ?a21 ?l21 ?c21 ?k21 ?a22 ?l22 ?c22 ?k22 ?a23 ?l23 ?c23 ?k23 ?a24 ?l24 ?c24 ?k24 ?a25 ?l25 ?c25 ?k25 ?a26 ?l26 ?c26 ?k26 ?a27 ?l27 ?c27 ?k27 ?a28 ?l28 ?c28 ?k28 ?a29 ?l29 ?c29 ?k29 ?a30 ?l30 ?c30 ?k30 ?a31 ?l31 ?c31 ?k31 ?a32 ?l32 ?c32 ?k32 ?a33 ?l33 ?c33 ?k33 ?tc33 ?tp33 ?tn33 ?co0 ?co1 ?co2 ?co3 ?z_ValueError ?z_LookupError ?z_isinstance ?z_int ?z_bool ?z_enumerate ?z_list ?z_len ?z_tuple ?z_range ?z_min ?z_abs ?z_str ?z_max ?z_repr ?ecn ?ect ?evv_ValueError ?evv_LookupError ?xq_BadData_BadToken ?xq_Far_BadToken ?xq_Far_BadData ?xz_BadToken_BadData ?xz_BadToken_BadBits
    (case xg_BadData => k_is)
    (case xl_BadData => k_is)
    (case xsa_BadData => k_is)
    (case xga_BadData => k_is)
    (case xgg_BadData => k_is)
    (case xno_BadData => k_is)
    (case xk_BadData => k_is)
    (case xe_BadData => k_is)
    (case xt_BadData => k_is)
    (case xh_BadData => k_is)
    (case xs_BadData => k_is)
    (case xca_BadData => k_is)
    (case xv_BadData => k_is)
    (case xcm_BadData => k_is)
    (case a0 => k_is)
    (case u0 => k_is)
    (case l0 => k_is)
    (case c0 => k_is)
    (case k0 => k_is)
    (case xg_BadBits => k_is)
    (case xl_BadBits => k_is)
    (case xsa_BadBits => k_is)
    (case xga_BadBits => k_is)
    (case xgg_BadBits => k_is)
    (case xno_BadBits => k_is)
    (case xk_BadBits => k_is)
    (case xe_BadBits => k_is)
    (case xt_BadBits => k_is)
    (case xh_BadBits => k_is)
    (case xs_BadBits => k_is)
    (case xca_BadBits => k_is)
    (case xv_BadBits => k_is)
    (case xcm_BadBits => k_is)
    (case a1 => k_is)
    (case u1 => k_is)
    (case l1 => k_is)
    (case c1 => k_is)
    (case k1 => k_is)
    (case xg_BadToken => k_is)
    (case xl_BadToken => k_is)
    (case xsa_BadToken => k_is)
    (case xga_BadToken => k_is)
    (case xgg_BadToken => k_is)
    (case xno_BadToken => k_is)
    (case xk_BadToken => k_is)
    (case xe_BadToken => k_is)
    (case xt_BadToken => k_is)
    (case xh_BadToken => k_is)
    (case xs_BadToken => k_is)
    (case xca_BadToken => k_is)
    (case xv_BadToken => k_is)
    (case xcm_BadToken => k_is)
    (case a2 => k_is)
    (case u2 => k_is)
    (case l2 => k_is)
    (case c2 => k_is)
    (case k2 => k_is)
    (case xg_Far => k_is)
    (case xl_Far => k_is)
    (case xsa_Far => k_is)
    (case xga_Far => k_is)
    (case xgg_Far => k_is)
    (case xno_Far => k_is)
    (case xk_Far => k_is)
    (case xe_Far => k_is)
    (case xt_Far => k_is)
    (case xh_Far => k_is)
    (case xs_Far => k_is)
    (case xca_Far => k_is)
    (case xv_Far => k_is)
    (case xcm_Far => k_is)
    (case a3 => k_is)
    (case u3 => k_is)
    (case l3 => k_is)
    (case c3 => k_is)
    (case k3 => k_is)
    (case a4 => k_is)
    (case l4 => k_is)
    (case c4 => k_is)
    (case k4 => k_is)
    (case a5 => k_is)
    (case l5 => k_is)
    (case c5 => k_is)
    (case k5 => k_is)
    (case a6 => k_is)
    (case l6 => k_is)
    (case c6 => k_is)
    (case k6 => k_is)
    (case a7 => k_is)
    (case l7 => k_is)
    (case c7 => k_is)
    (case k7 => k_is)
    (case a8 => k_is)
    (case l8 => k_is)
    (case c8 => k_is)
    (case k8 => k_is)
    (case a9 => k_is)
    (case l9 => k_is)
    (case c9 => k_is)
    (case k9 => k_is)
    (case a10 => k_is)
    (case l10 => k_is)
    (case c10 => k_is)
    (case k10 => k_is)
    (case a11 => k_is)
    (case l11 => k_is)
    (case kx11_0 => k_is)
    (case kl11_0 => k_is)
    (case c11 => k_is)
    (case k11 => k_is)
    (case a12 => k_is)
    (case l12 => k_is)
    (case c12 => k_is)
    (case k12 => k_is)
    (case yg_Matcher => k_is)
    (case ypg_Matcher => k_is)
    (case yhd_Matcher => k_is)
    (case ypo_Matcher => k_is)
    (case ysa_Matcher => k_is)
    (case ymk_Matcher => k_is)
    (case ykc_Matcher => k_is)
    (case yf_row_Matcher => k_is)
    (case yf_window_Matcher => k_is)
    (case yf_learned_Matcher => k_is)
    (case yf_places_Matcher => k_is)
    (case a13 => k_is)
    (case u13 => k_is)
    (case l13 => k_is)
    (case c13 => k_is)
    (case k13 => k_is)
    (case a14 => k_is)
    (case u14 => k_is)
    (case l14 => k_is)
    (case c14 => k_is)
    (case k14 => k_is)
    (case a15 => k_is)
    (case u15 => k_is)
    (case l15 => k_is)
    (case c15 => k_is)
    (case k15 => k_is)
    (case a16 => k_is)
    (case l16 => k_is)
    (case c16 => k_is)
    (case k16 => k_is)
    (case a17 => k_is)
    (case l17 => k_is)
    (case c17 => k_is)
    (case k17 => k_is)
    (case a18 => k_is)
    (case l18 => k_is)
    (case kx18_0 => k_is)
    (case kx18_1 => k_is)
    (case kl18_0 => k_is)
    (case c18 => k_is)
    (case k18 => k_is)
    (case a19 => k_is)
    (case l19 => k_is)
    (case c19 => k_is)
    (case k19 => k_is)
    (case a20 => k_is)
    (case l20 => k_is)
    (case c20 => k_is)
    (case k20 => k_is)
    (case a21 => k_is)
    (case l21 => k_is)
    (case c21 => k_is)
    (case k21 => k_is)
    (case a22 => k_is)
    (case l22 => k_is)
    (case c22 => k_is)
    (case k22 => k_is)
    (case a23 => k_is)
    (case l23 => k_is)
    (case c23 => k_is)
    (case k23 => k_is)
    (case a24 => k_is)
    (case l24 => k_is)
    (case c24 => k_is)
    (case k24 => k_is)
    (case a25 => k_is)
    (case l25 => k_is)
    (case c25 => k_is)
    (case k25 => k_is)
    (case a26 => k_is)
    (case l26 => k_is)
    (case c26 => k_is)
    (case k26 => k_is)
    (case a27 => k_is)
    (case l27 => k_is)
    (case c27 => k_is)
    (case k27 => k_is)
    (case a28 => k_is)
    (case l28 => k_is)
    (case c28 => k_is)
    (case k28 => k_is)
    (case a29 => k_is)
    (case l29 => k_is)
    (case c29 => k_is)
    (case k29 => k_is)
    (case a30 => k_is)
    (case l30 => k_is)
    (case c30 => k_is)
    (case k30 => k_is)
    (case a31 => k_is)
    (case l31 => k_is)
    (case c31 => k_is)
    (case k31 => k_is)
    (case a32 => k_is)
    (case l32 => k_is)
    (case c32 => k_is)
    (case k32 => k_is)
    (case a33 => k_is)
    (case l33 => k_is)
    (case c33 => k_is)
    (case k33 => k_is)
    (case tc33 => k_is)
    (case tp33 => first | exact rfl | k_is | kernel_rfl | decide +kernel)
    (case tn33 => first | k_is | kernel_rfl | rfl | decide +kernel)
    (case co0 => k_is)
    (case co1 => k_is)
    (case co2 => k_is)
    (case co3 => k_is)
    (case z_ValueError => k_is)
    (case z_LookupError => k_is)
    (case z_isinstance => k_is)
    (case z_int => k_is)
    (case z_bool => k_is)
    (case z_enumerate => k_is)
    (case z_list => k_is)
    (case z_len => k_is)
    (case z_tuple => k_is)
    (case z_range => k_is)
    (case z_min => k_is)
    (case z_abs => k_is)
    (case z_str => k_is)
    (case z_max => k_is)
    (case z_repr => k_is)
    (case ecn => k_is)
    (case ect => k_is)
    (case evv_ValueError => k_is)
    (case evv_LookupError => k_is)
    (case xq_BadData_BadToken => k_is)
    (case xq_Far_BadToken => k_is)
    (case xq_Far_BadData => k_is)
    (case xz_BadToken_BadData => first | k_is | kernel_rfl | rfl | decide +kernel)
    (case xz_BadToken_BadBits => first | k_is | kernel_rfl | rfl | decide +kernel)
