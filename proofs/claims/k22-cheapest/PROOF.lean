import PyProof.Rows.All
import Wide.All
import OpenK.AllK
import Wide.FinOn
import HandS.ForMost
import HandS.Defaults
import HandS.IsInst
import HandS.TupAny
import HandS.Codes
import HandS.Wide
import HandS.Walk
import HandS.More
import KE.GoesMore
import HandS.SetFor
import HandS.Strs
import HandS.ExcInit
import HandS.ExcField
import HandS.ExcIs
import HandS.WordsExc
import HandS.ExcOwn
import KE.KExcInit
import HandS.ClsMeth
import HandS.Star
import KE.KCallOwn
import KE.KFmtOwn
import OpenK.KMeth
import OpenK.KOps
import PyProof.InstEq
import HandS.SortRule
import HandS.Style
import HandS.Iter
import HandS.TupLen
import HandS.TupMul
import KE.KDictDisplayH
import HandS.Text
import PyProof.SliceStr2
import HandS.MakeKw
import HandS.Lambda
import HandS.EndTab
import KE.KNest
import HandS.EndBits
import HandS.FStr
import HandS.Steps
import HandS.Records
import PyProof.Rows.Range3
import KE.SortData
import PyProof.ListIndex
import HandS.SortKw
import HandS.CallLocal
import KE.KDictKeyed
import HandS.TupSets
import KE.DataMinKey
import PyProof.WalksMore
import HandS.DictComp
import HandS.Conv
import HandS.Flow
import PySem.Challenge.RW_deflatehall_k22_whole_no_tokens_are_chea
set_option Elab.async false
set_option linter.all false
set_option maxRecDepth 100000
set_option maxHeartbeats 4000000
/-! Ghost heaps over the hand layer: what stands for good (G), what may change (W). -/
namespace Z
open PySem PySem.Spec PyProof.Rows L2

/-- it is o -/
def Is (o : HO) : HO → Prop := fun x => x = o
/-- what may change: an address, and what holds of the object there -/
abbrev Wl := List (Addr × (HO → Prop))
structure Wd (G : Hp) (W : Wl) (H : Hp) : Prop where
  ex : Same G H
  own : ∀ p ∈ W, G p.1 = none ∧ ∃ o, H p.1 = some o ∧ p.2 o
  nd : (W.map (·.1)).Nodup

theorem same_upd {H : Hp} {p : Addr} {o : HO} (h : H p = none) : Same H (upd H p o) := fun a u e => by
  rw [upd_ne (ne_of_none e h)]
  exact e
section
variable {G G' H H' : Hp} {W W1 W2 : Wl} {a p : Addr} {o : HO} {P P' : HO → Prop}
theorem Wd.free (w : Wd G W H) (h : H p = none) : G p = none := w.ex.free h
theorem Wd.ext (w : Wd G W H) (e : Same H H') : Wd G W H' :=
  ⟨w.ex.trans e, fun q hq => ⟨(w.own q hq).1, let ⟨o, h1, h2⟩ := (w.own q hq).2; ⟨o, e _ _ h1, h2⟩⟩, w.nd⟩
theorem Wd.at (w : Wd G W H) (h : G a = some o) : H a = some o := w.ex _ _ h
theorem Wd.neOwn (w : Wd G W H) (hp : H p = none) {q : Addr × (HO → Prop)} (hq : q ∈ W) : q.1 ≠ p := by
  obtain ⟨_, o, h, _⟩ := w.own q hq
  exact ne_of_none h hp
/-- a new object that stands for good -/
theorem Wd.new (w : Wd G W H) (hp : H p = none) : Wd (upd G p o) W (upd H p o) := by
  refine ⟨fun b u e => ?_, fun q hq => ?_, w.nd⟩
  · by_cases hb : b = p
    · subst hb
      rw [upd_same] at e ⊢
      exact e
    · rw [upd_ne hb] at e ⊢
      exact w.ex _ _ e
  · have hn := w.neOwn hp hq
    rw [upd_ne hn, upd_ne hn]
    exact w.own q hq
/-- a new object that may change -/
theorem Wd.newM (w : Wd G W H) (hp : H p = none) (h : P o) : Wd G ((p, P) :: W) (upd H p o) := by
  refine ⟨w.ex.trans (same_upd hp), fun q hq => ?_, ?_⟩
  · rcases List.mem_cons.mp hq with rfl | hq
    · exact ⟨w.free hp, o, upd_same, h⟩
    · have hn := w.neOwn hp hq
      rw [upd_ne hn]
      exact w.own q hq
  · rw [List.map_cons, List.nodup_cons]
    refine ⟨fun hm => ?_, w.nd⟩
    obtain ⟨q, hq, e⟩ := List.mem_map.mp hm
    exact w.neOwn hp hq e
theorem mem_mid {α : Type} {A B : List α} {x : α} : x ∈ A ++ x :: B := List.mem_append_right _ List.mem_cons_self
/-- the object at a changes -/
theorem Wd.put (w : Wd G (W1 ++ (a, P) :: W2) H) (h : P' o) : Wd G (W1 ++ (a, P') :: W2) (upd H a o) := by
  have h0 := w.own (a, P) mem_mid
  have nd : ((W1 ++ (a, P) :: W2).map (·.1)).Nodup := w.nd
  rw [List.map_append, List.map_cons, List.nodup_append] at nd
  obtain ⟨n1, n2, n3⟩ := nd
  rw [List.nodup_cons] at n2
  refine ⟨fun b u e => ?_, fun q hq => ?_, ?_⟩
  · have hb : b ≠ a := ne_of_none e h0.1
    rw [upd_ne hb]
    exact w.ex _ _ e
  · rcases List.mem_append.mp hq with hq | hq
    · have hn : q.1 ≠ a := fun z => n3 _ (List.mem_map.mpr ⟨q, hq, z⟩) _ List.mem_cons_self rfl
      rw [upd_ne hn]
      exact w.own q (List.mem_append_left _ hq)
    · rcases List.mem_cons.mp hq with rfl | hq
      · exact ⟨h0.1, o, upd_same, h⟩
      · have hn : q.1 ≠ a := fun z => n2.1 (List.mem_map.mpr ⟨q, hq, z⟩)
        rw [upd_ne hn]
        exact w.own q (List.mem_append_right _ (List.mem_cons_of_mem _ hq))
  · rw [List.map_append, List.map_cons, List.nodup_append]
    exact ⟨n1, List.nodup_cons.mpr n2, n3⟩
/-- what holds there always is kept -/
theorem Wd.put' (w : Wd G W H) (hm : (a, P) ∈ W) (h : P o) : Wd G W (upd H a o) := by
  obtain ⟨A, B, rfl⟩ := List.append_of_mem hm
  exact w.put h
theorem Wd.putI (w : Wd G (W1 ++ (a, P) :: W2) H) : Wd G (W1 ++ (a, Is o) :: W2) (upd H a o) := w.put rfl
/-- the first one changes -/
theorem Wd.put1 (w : Wd G ((a, P) :: W) H) : Wd G ((a, Is o) :: W) (upd H a o) := Wd.putI (W1 := []) w
theorem Wd.get (w : Wd G W H) (hm : (a, P) ∈ W) : ∃ o, H a = some o ∧ P o := (w.own _ hm).2
theorem Wd.drop (w : Wd G (W1 ++ (a, P) :: W2) H) : Wd G (W1 ++ W2) H := by
  refine ⟨w.ex, fun q hq => w.own q ?_, ?_⟩
  · rcases List.mem_append.mp hq with hq | hq
    · exact List.mem_append_left _ hq
    · exact List.mem_append_right _ (List.mem_cons_of_mem _ hq)
  · have nd := w.nd
    rw [List.map_append, List.map_cons] at nd
    rw [List.map_append]
    exact nd.sublist (List.Sublist.append_left (List.sublist_cons_self _ _) _)
theorem Wd.drop1 (w : Wd G ((a, P) :: W) H) : Wd G W H := Wd.drop (W1 := []) w
/-- what does not change any more stands for good -/
theorem Wd.freeze (w : Wd G (W1 ++ (a, P) :: W2) H) : ∃ o, P o ∧ H a = some o ∧ Same G (upd G a o) ∧ Wd (upd G a o) (W1 ++ W2) H := by
  obtain ⟨g, o, h, ho⟩ := w.own (a, P) mem_mid
  have nd : ((W1 ++ (a, P) :: W2).map (·.1)).Nodup := w.nd
  rw [List.map_append, List.map_cons, List.nodup_append] at nd
  obtain ⟨n1, n2, n3⟩ := nd
  rw [List.nodup_cons] at n2
  refine ⟨o, ho, h, same_upd g, fun b u e => ?_, fun q hq => ?_, w.drop.nd⟩
  · by_cases hb : b = a
    · subst hb
      rw [upd_same] at e
      cases e
      exact h
    · rw [upd_ne hb] at e
      exact w.ex _ _ e
  · have hn : q.1 ≠ a := by
      rcases List.mem_append.mp hq with hq | hq
      · exact fun z => n3 _ (List.mem_map.mpr ⟨q, hq, z⟩) _ List.mem_cons_self rfl
      · exact fun z => n2.1 (List.mem_map.mpr ⟨q, hq, z⟩)
    rw [upd_ne hn]
    refine w.own q ?_
    rcases List.mem_append.mp hq with hq | hq
    · exact List.mem_append_left _ hq
    · exact List.mem_append_right _ (List.mem_cons_of_mem _ hq)
theorem Wd.freeze1 (w : Wd G ((a, P) :: W) H) : ∃ o, P o ∧ H a = some o ∧ Same G (upd G a o) ∧ Wd (upd G a o) W H := Wd.freeze (W1 := []) w
theorem Wd.imp (w : Wd G (W1 ++ (a, P) :: W2) H) (h : ∀ o, P o → P' o) : Wd G (W1 ++ (a, P') :: W2) H := by
  have h0 := w.own (a, P) mem_mid
  refine ⟨w.ex, fun q hq => ?_, ?_⟩
  · rcases List.mem_append.mp hq with hq | hq
    · exact w.own q (List.mem_append_left _ hq)
    · rcases List.mem_cons.mp hq with rfl | hq
      · obtain ⟨g, o, e, ho⟩ := h0
        exact ⟨g, o, e, h _ ho⟩
      · exact w.own q (List.mem_append_right _ (List.mem_cons_of_mem _ hq))
  · have nd := w.nd
    rw [List.map_append, List.map_cons] at nd ⊢
    exact nd
theorem Wd.perm {V' : Wl} (w : Wd G W H) (h : W.Perm V') : Wd G V' H :=
  ⟨w.ex, fun q hq => w.own q (h.mem_iff.mpr hq), (h.map _).nodup_iff.mp w.nd⟩
end

/-! ### data -/
section
variable {K : PySem.W.Frag} {G G' : Hp}
theorem seqT {a : Addr} {xs : List V} (e : Same G G') (h : SqT K G a xs) : SqT K G' a xs := by
  rcases h with (h | ⟨o, h⟩) | h
  · exact .inl (.inl (e _ _ h))
  · exact .inl (.inr ⟨o, e _ _ h⟩)
  · exact .inr h
mutual
theorem dmono (e : Same G G') : ∀ {d : PyData} {v : V}, Dp K G v d → Dp K G' v d
  | _, _, .non => .non
  | _, _, .bl b => .bl b
  | _, _, .int i => .int i
  | _, _, .str x => .str x
  | _, _, .lst h r => .lst (e.seq h) (dmonoAll e r)
  | _, _, .tup h r => .tup (seqT e h) (dmonoAll e r)
theorem dmonoAll (e : Same G G') : ∀ {ds : List PyData} {vs : List V}, DpAll K G vs ds → DpAll K G' vs ds
  | _, _, .nil => .nil
  | _, _, .cons h r => .cons (dmono e h) (dmonoAll e r)
end
end

/-! ### how arguments bind -/
theorem bAll {K : PySem.W.Frag} {fd : FuncData} {ps : List Str} (h : ∃ ds, Vals ([] : List V) ds ∧ Binds K fd ps ds) : Binds K fd ps [] := by
  obtain ⟨ds, r, b⟩ := h
  cases r
  exact b
theorem valsGet {vs : List V} {us : List Value} (r : Vals vs us) (i : Nat) : L2.RelV (vs.getD i .non) (us.getD i .none) := by
  induction r generalizing i with
  | nil => exact rfl
  | cons h t ih =>
    cases i with
    | zero => simpa using h
    | succ i => simpa using ih i
section
variable {K : PySem.W.Frag} {x qual : Str} {params : Arguments} {body : List Stmt} {scope : Scope} {dvs : List V} {f : Addr} {fd : FuncData} {ps ks : List Str} {n : Nat}
theorem kbnN (F : FunD K x qual params body scope [] [] f fd) (g : List Value → List Value → List Value) {gV : List V → List V → List V}
    (rel : ∀ {vs : List V} {us : List Value} {zs : List V} {ws : List Value}, Vals vs us → Vals zs ws → Vals (gV vs zs) (g us ws))
    (h : ∀ (kV doc pm : Value) (an : Option Addr) (cdv ct : Value) (us ws : List Value), us.length = n → ws.length = ks.length →
      bindArgs (PySem.W.fnOf x qual params body scope .none kV doc pm an cdv ct) ⟨us, ks.zip ws⟩ = pure (ps.zip (g us ws))) : KBn K fd ps n ks g gV := by
  obtain ⟨oc, od, dV, kV, doc, pm, an, cdv, ct, osl, rfl, lk, hcd, hD, hK⟩ := F.ex
  rcases hD with ⟨_, rfl⟩ | ⟨e, _⟩
  · exact ⟨fun s us ws _ l1 l2 => .of_eq (h kV doc pm an cdv ct us ws l1 l2), rel⟩
  · exact absurd rfl e
theorem kbnD (F : FunD K x qual params body scope dvs [] f fd) (hd : dvs ≠ []) (g : List Value → List Value → List Value → List Value) {gV : List V → List V → List V}
    (rel : ∀ {vs : List V} {us : List Value} {its : List Value} {zs : List V} {ws : List Value}, Vals vs us → Vals dvs its → Vals zs ws → Vals (gV vs zs) (g us its ws))
    (h : ∀ (T : Addr) (kV doc pm : Value) (an : Option Addr) (cdv ct : Value) (us its ws : List Value), us.length = n → its.length = dvs.length → ws.length = ks.length →
      ∃ k, bindArgs (PySem.W.fnOf x qual params body scope (.ref T) kV doc pm an cdv ct) ⟨us, ks.zip ws⟩ = seqItems? (.ref T) >>= k ∧ k (some its.toArray) = pure (ps.zip (g us its ws))) : ∃ g', KBn K fd ps n ks g' gV := by
  obtain ⟨oc, od, dV, kV, doc, pm, an, cdv, ct, osl, rfl, lk, hcd, hD, hK⟩ := F.ex
  rcases hD with ⟨e, _⟩ | ⟨_, T, o, its, m, rfl, lT, oT, rT⟩
  · exact absurd e hd
  · refine ⟨fun us ws => g us its ws, fun s us ws X l1 l2 => ?_, fun r1 r3 => rel r1 rT r3⟩
    obtain ⟨k, e1, e2⟩ := h T kV doc pm an cdv ct us its ws l1 rT.length.symm l2
    refine BindsTo.of_looks fun M => ?_
    rw [e1]
    exact looks_items X lT oT (.of_pure e2)
end
section
variable {X : Cx} {CX : CXT} {k n : Nat} {f : Addr} {fd : FuncData} {ps ks : List Str} {sp : Sp} {E : XK} {x : Str} {p pos : Pos} {kws : List Keyword} {tk : TA} {g : List Value → List Value → List Value} {gV : List V → List V → List V}
/-- f(k = v, ..): keywords alone -/
theorem pe_callN0 (F : FnOk X.prog X.w X.K X.mg X.base CX k f fd ps sp) (hr : Room k X.A) (hg : Gl X x) (hm : X.mg x = some (.ref f)) (hk : PySem.W.keepIn X.K (.ref f) = true) (hb : KBn X.K fd ps 0 ks g gV) (hx : Passes CX X E)
    (hkw : PK X kws tk) (hall : (backToKw pos (keywordEach kws X.env)).all (·.1.isSome) = true := by rfl) (hks : (backToKw pos (keywordEach kws X.env)).filterMap (·.1) = ks := by rfl)
    (hdb : (x == ("__debug__" : Str)) = false := by decide) (hpl : ((backTo pos (starEach [] X.env)).any (·.1) || (backToKw pos (keywordEach kws X.env)).any (·.1.isNone)) = false := by rfl) :
    PE X (.Call (.Name x p) [] kws pos) (tCallN 0 ks.length sp gV E tNil tk) := by
  refine ⟨fun pins s σ H Q I h => wpAny_Call_Name_kw (ld_glob I hg hm ?_ hdb)⟩
  refine PySem.W.callWith_KW0 (h₀ := X.base) I.ok.mod.kin hk hall (thn (hkw.run pos pins _ σ H _ (I.tok _) h) fun ws s2 ⟨zs, H2, I2, rz, l1, l2, q2⟩ => ⟨I2.kIn, ?_⟩) hpl
  rw [hks]
  exact run_fnN (us := []) (vs := []) F hr hb hx I2 .nil rz rfl l2 q2
end
section
variable {X : Cx}
def CPowW (i j : Int) : Prop := 0 ≤ j ∧ (Builtin.Int.intBits i : Int) * j ≤ 2 ^ 27
theorem op_powW : OpR X (binaryOp .Pow) (rI CPowW fun i j => .int (i ^ j.toNat)) := opI fun _ _ _ _ _ _ _ hc q => PyProof.Rows.pow_int hc.1 hc.2 q
end

/-! ### readings, step by step (what is asked, from the left) -/
section
variable {K : PySem.W.Frag} {σ : L2.St} {H : Hp} {Q : VK} {D : Ends} {i : Nat} {v x y : V} {ta tb te : TE} {t u : TS} {tt tu : TT} {QT : Bool → Hp → Prop} {QA : List V → Hp → Prop} {QS nx bk ct : L2.St → Hp → Prop} {rt : VK} {r : R2} {tr : TA} {xs : List V}
theorem st_var (h : σ[i]? = some (some v)) (q : Q v H) : tVar i σ H Q := ⟨v, h, q⟩
theorem st_c (q : Q v H) : tC v σ H Q := q
theorem st_op (h : ta σ H fun x H1 => tb σ H1 fun y H2 => r x y H2 Q) : tOp r ta tb σ H Q := h
theorem st_un {r : V → Hp → VK → Prop} (h : ta σ H fun x H1 => r x H1 Q) : tUn r ta σ H Q := h
theorem st_i0 {g : Int → Int → V} {a b : Int} (q : Q (g a b) H) : rI0 g (.int a) (.int b) H Q := ⟨a, b, rfl, rfl, q⟩
theorem st_i {C : Int → Int → Prop} {g : Int → Int → V} {a b : Int} (c : C a b) (q : Q (g a b) H) : rI C g (.int a) (.int b) H Q := ⟨a, b, rfl, rfl, c, q⟩
theorem st_u {g : Int → V} {a : Int} (q : Q (g a) H) : rU g (.int a) H Q := ⟨a, rfl, q⟩
theorem st_eq (h : scal x y = true) (q : Q (.bl (decide (x = y))) H) : rEq x y H Q := ⟨h, q⟩
theorem st_ne (h : scal x y = true) (q : Q (.bl (!decide (x = y))) H) : rNe x y H Q := ⟨h, q⟩
theorem st_test (h : te σ H fun x H1 => ∃ k, x = .bl k ∧ QT k H1) : tTest te σ H QT := h
theorem st_tB (h : te σ H fun x H1 => ∃ k, x = .bl k ∧ QT k H1) : tB te σ H QT := h
theorem st_bl {b : Bool} {P : Bool → Prop} (q : P b) : ∃ k, V.bl b = .bl k ∧ P k := ⟨b, rfl, q⟩
theorem st_not (h : tt σ H fun c H1 => QT (!c) H1) : tNot tt σ H QT := h
theorem st_and (h : tt σ H fun c H1 => if c = true then tu σ H1 QT else QT false H1) : tAnd tt tu σ H QT := h
theorem st_or (h : tt σ H fun c H1 => if c = true then QT true H1 else tu σ H1 QT) : tOr tt tu σ H QT := h
theorem st_andV (h : ta σ H fun x H1 => ∃ c, x = .bl c ∧ if c = true then tb σ H1 Q else Q (.bl false) H1) : tAndV ta tb σ H Q := h
theorem st_orV (h : ta σ H fun x H1 => ∃ c, x = .bl c ∧ if c = true then Q (.bl true) H1 else tb σ H1 Q) : tOrV ta tb σ H Q := h
theorem st_notV (h : ta σ H fun x H1 => ∃ c, x = .bl c ∧ Q (.bl (!c)) H1) : tNotV ta σ H Q := h
theorem st_ifE (h : tt σ H fun c H1 => if c = true then ta σ H1 Q else tb σ H1 Q) : tIf tt ta tb σ H Q := h
theorem st_nil (q : QA [] H) : tNil σ H QA := q
theorem st_cons (h : te σ H fun x H1 => tr σ H1 fun xs H2 => QA (x :: xs) H2) : tCons te tr σ H QA := h
theorem st_cb {r : List V → Hp → VK → Prop} (h : tr σ H fun vs H1 => r vs H1 Q) : tCB r tr σ H Q := h
theorem st_seq (h : t ⟨u ⟨nx, rt, bk, ct⟩, rt, bk, ct⟩ σ H) : tSeq t u ⟨nx, rt, bk, ct⟩ σ H := h
theorem st_next (q : nx σ H) : tNext ⟨nx, rt, bk, ct⟩ σ H := q
theorem st_brk (q : bk σ H) : tBreak ⟨nx, rt, bk, ct⟩ σ H := q
theorem st_cont (q : ct σ H) : tCont ⟨nx, rt, bk, ct⟩ σ H := q
theorem st_drop (h : te σ H fun _ H1 => nx σ H1) : tDrop te ⟨nx, rt, bk, ct⟩ σ H := h
theorem st_ret (h : te σ H rt) : tRet te ⟨nx, rt, bk, ct⟩ σ H := h
theorem st_retN (h : rt .non H) : tRetN ⟨nx, rt, bk, ct⟩ σ H := h
theorem st_if (h : tt σ H fun b H1 => if b = true then t ⟨nx, rt, bk, ct⟩ σ H1 else u ⟨nx, rt, bk, ct⟩ σ H1) : tIfS tt t u ⟨nx, rt, bk, ct⟩ σ H := h
theorem st_asg {g : TG} (h : te σ H fun x H1 => g x σ H1 nx) : tAsg te g ⟨nx, rt, bk, ct⟩ σ H := h
theorem st_gname (q : QS (σ.set i (some v)) H) : gName i v σ H QS := q
theorem st_par {j : Nat} (h : tr σ H fun vs H1 => ∃ v w, vs = [v, w] ∧ nx ((σ.set i (some v)).set j (some w)) H1) : tPar i j tr ⟨nx, rt, bk, ct⟩ σ H := h
theorem st_two {w : V} {P : V → V → Prop} (q : P v w) : ∃ v' w', [v, w] = [v', w'] ∧ P v' w' := ⟨v, w, rfl, q⟩
theorem st_call {sp : Sp} {dvs : List V} {E : XK} (h : tr σ H fun vs H1 => sp (vs ++ dvs) H1 Q E) : tCall sp dvs E tr σ H Q := h
theorem st_callN {n m : Nat} {sp : Sp} {gV : List V → List V → List V} {E : XK} {tk : TA} (h : tr σ H fun vs H1 => tk σ H1 fun zs H2 => vs.length = n ∧ zs.length = m ∧ sp (gV vs zs) H2 Q E) : tCallN n m sp gV E tr tk σ H Q := h
/-- a new list, a new tuple at a free place -/
def NewO (o : HO) (H : Hp) (Q : VK) : Prop := ∀ p, H p = none → Q (.ref p) (upd H p o)
theorem st_lst (h : tr σ H fun xs H1 => xs.length ≤ sizeLine ∧ NewO (.lst xs) H1 Q) : tLst tr σ H Q := h
theorem st_tup (h : tr σ H fun xs H1 => xs.length ≤ sizeLine ∧ NewO (.tup xs) H1 Q) : tTup tr σ H Q := h
theorem small {n : Nat} (h : n ≤ 1000000) : n ≤ sizeLine := Nat.le_trans h (by decide)
theorem small' {n : Nat} (h : n ≤ 1000000) : n < sizeLine := Nat.lt_of_le_of_lt h (by decide)
/-- it stands for good -/
theorem NewO.good {o : HO} {G : Hp} {W : Wl} (w : Wd G W H) (k : ∀ p G' H', Same G G' → Wd G' W H' → G' p = some o → Q (.ref p) H') : NewO o H Q := fun p hp =>
  k p (upd G p o) (upd H p o) (same_upd (w.free hp)) (w.new hp) upd_same
/-- it may change -/
theorem NewO.own {o : HO} {G : Hp} {W : Wl} (w : Wd G W H) (k : ∀ p H', Wd G ((p, Is o) :: W) H' → Q (.ref p) H') : NewO o H Q := fun p hp => k p (upd H p o) (w.newM hp rfl)
end

/-! ### a def that lets nothing out -/
section
variable {P : Program} {w : World} {K : PySem.W.Frag} {mg : Str → Option Value} {base : Heap} {x qual : Str} {params : Arguments} {body : List Stmt} {scope : Scope} {dvs : List V} {kws : List (Str × V)} {f : Addr} {fd : FuncData}
theorem okD {N ps : List Str} {k : Nat} {sp : Sp} (F : FunD K x qual params body scope dvs kws f fd) (S : FnScope N ps scope) (len : ∀ vs H Q E, sp vs H Q E → vs.length = ps.length)
    (hb : ∀ (cdv : Value) (A : Around) (outer : List Env) (s : Shared) (H : Hp) (vs : List V) (Q : VK) (E : XK), Room k (A.deeper (envOfC qual scope s.heap.objs.size f cdv)) → sp vs H Q E →
      ∃ t, PSs (cxOf CX0 P w K mg base N qual scope f cdv A outer s H E).nox body t ∧ t { nx := fun _ H' => Q .non H', rt := Q } (start N vs) H) : FnOk P w K mg base CX0 (k + 1) f fd ps sp :=
  F.ok S len fun cdv A outer s H vs Q E hr h => let ⟨t, a, q⟩ := hb cdv A outer s H vs Q E hr h; ⟨t, a.nox, q⟩
end
/-! ### loops -/
def LoopQ (J : It) (g : TG) (tb : TS) (nx : L2.St → Hp → Prop) (rt : VK) (σ : L2.St) (H : Hp) : Prop := ∃ W : Nat → Nat → L2.St → Hp → Prop, (∃ m, W 0 m σ H) ∧ ∀ i m σ H, W i m σ H →
  (J.stop i H ∧ nx σ H) ∨ (J.go i H ∧ ∃ N : L2.St → Hp → Prop, (∀ σ' H', N σ' H' → ∃ m', m' < m ∧ W (i + 1) m' σ' H') ∧ ∀ x H', J.yld i H x H' → g x σ H' fun σ2 H2 => tb ⟨N, rt, nx, N⟩ σ2 H2)
/-- what holds between two turns, over a G that grows -/
def Btw (I : Nat → L2.St → Hp → Wl → Prop) (G : Hp) (i : Nat) : L2.St → Hp → Prop := fun σ H => ∃ G' W, Same G G' ∧ Wd G' W H ∧ I i σ G' W
section
variable {K : PySem.W.Frag} {σ : L2.St} {H G : Hp} {W : Wl} {nx bk ct : L2.St → Hp → Prop} {rt : VK} {g : TG} {tb : TS} {a b : Addr} {xs ys : List V} {n : Nat}
theorem st_for {wi : TI} (h : wi σ H fun J H1 => LoopQ J g tb nx rt σ H1) : tFor wi g tb ⟨nx, rt, bk, ct⟩ σ H := h
theorem st_btw {I : Nat → L2.St → Hp → Wl → Prop} {G' : Hp} {i : Nat} (e : Same G G') (w : Wd G' W H) (h : I i σ G' W) : Btw I G i σ H := ⟨G', W, e, w, h⟩
theorem loop_go {J : It} {Gp : Hp → Prop} {Y : Nat → Hp → V → Hp → Prop} (wk : Walk J n Gp Y) (I : Nat → L2.St → Hp → Wl → Prop) (w : Wd G W H) (hG : ∀ G' W' H', Same G G' → Wd G' W' H' → Gp H') (h0 : I 0 σ G W)
    (hs : ∀ i x σ' G' W' H' H'', i < n → Same G G' → Wd G' W' H' → I i σ' G' W' → Y i H' x H'' → g x σ' H'' fun σ2 H2 => tb ⟨Btw I G (i + 1), rt, nx, Btw I G (i + 1)⟩ σ2 H2)
    (hd : ∀ σ' G' W' H', Same G G' → Wd G' W' H' → I n σ' G' W' → nx σ' H') : LoopQ J g tb nx rt σ H :=
  for_it (D := ⟨nx, rt, nx, nx⟩) wk (Btw I G) ⟨G, W, Same.refl _, w, h0⟩ (fun _ _ _ _ ⟨_, _, e, w', _⟩ => hG _ _ _ e w') (fun i x σ' H' H'' hi ⟨G', W', e, w', h⟩ y => hs i x σ' G' W' H' H'' hi e w' h y) fun σ' H' ⟨G', W', e, w', h⟩ => hd σ' G' W' H' e w' h
theorem seq_up (w : Wd G W H) (h : SqL K G a xs) : SqL K H a xs := w.ex.seq h
theorem tup_up (w : Wd G W H) (h : SqT K G a xs) : SqT K H a xs := seqT w.ex h
/-- for x in a list -/
theorem for_l (hx : SqL K G a xs) (I : Nat → L2.St → Hp → Wl → Prop) (w : Wd G W H) (h0 : I 0 σ G W)
    (hs : ∀ i x σ' G' W' H', xs[i]? = some x → Same G G' → Wd G' W' H' → I i σ' G' W' → g x σ' H' fun σ2 H2 => tb ⟨Btw I G (i + 1), rt, nx, Btw I G (i + 1)⟩ σ2 H2)
    (hd : ∀ σ' G' W' H', Same G G' → Wd G' W' H' → I xs.length σ' G' W' → nx σ' H') : ∃ a', V.ref a = .ref a' ∧ (∃ xs, SqL K H a' xs) ∧ LoopQ (Itl K a') g tb nx rt σ H :=
  ⟨a, rfl, ⟨xs, seq_up w hx⟩, loop_go walk_list I w (fun _ _ _ e w' => seq_up w' (e.seq hx)) h0 (fun i x σ' G' W' H' H'' _ e w' h y => by obtain ⟨rfl, y⟩ := y; exact hs i x σ' G' W' H'' y e w' h) hd⟩
/-- for x in a tuple -/
theorem for_t (hx : SqT K G a xs) (I : Nat → L2.St → Hp → Wl → Prop) (w : Wd G W H) (h0 : I 0 σ G W)
    (hs : ∀ i x σ' G' W' H', xs[i]? = some x → Same G G' → Wd G' W' H' → I i σ' G' W' → g x σ' H' fun σ2 H2 => tb ⟨Btw I G (i + 1), rt, nx, Btw I G (i + 1)⟩ σ2 H2)
    (hd : ∀ σ' G' W' H', Same G G' → Wd G' W' H' → I xs.length σ' G' W' → nx σ' H') : ∃ a', V.ref a = .ref a' ∧ (∃ xs, SqT K H a' xs) ∧ LoopQ (Itt K a') g tb nx rt σ H :=
  ⟨a, rfl, ⟨xs, tup_up w hx⟩, loop_go walk_tup I w (fun _ _ _ e w' => tup_up w' (seqT e hx)) h0 (fun i x σ' G' W' H' H'' _ e w' h y => by obtain ⟨rfl, y⟩ := y; exact hs i x σ' G' W' H'' y e w' h) hd⟩
/-- for i in range(n) -/
theorem for_r1 {z : Int} (hz : -(2 ^ 62) ≤ z ∧ z < 2 ^ 62) (I : Nat → L2.St → Hp → Wl → Prop) (w : Wd G W H) (h0 : I 0 σ G W)
    (hs : ∀ (i : Nat) σ' G' W' H', (i : Int) < z → Same G G' → Wd G' W' H' → I i σ' G' W' → g (.int (i : Int)) σ' H' fun σ2 H2 => tb ⟨Btw I G (i + 1), rt, nx, Btw I G (i + 1)⟩ σ2 H2)
    (hd : ∀ σ' G' W' H', Same G G' → Wd G' W' H' → I z.toNat σ' G' W' → nx σ' H') : ∃ j : Int, [V.int z] = [.int j] ∧ -(2 ^ 62) ≤ j ∧ j < 2 ^ 62 ∧ LoopQ (Itr 0 j.toNat) g tb nx rt σ H :=
  ⟨z, rfl, hz.1, hz.2, loop_go walk_range I w (fun _ _ _ _ _ => trivial) h0 (fun i x σ' G' W' H' H'' hi e w' h y => by
    obtain ⟨rfl, rfl⟩ := y
    have e0 : (0 : Int) + (i : Int) = (i : Int) := Int.zero_add _
    dsimp only
    rw [e0]
    exact hs i σ' G' W' H'' (by omega) e w' h) hd⟩
/-- for i in range(lo, hi) -/
theorem for_r2 {lo z : Int} (hz : -(2 ^ 62) ≤ lo ∧ lo < 2 ^ 62 ∧ -(2 ^ 62) ≤ z ∧ z < 2 ^ 62) (I : Nat → L2.St → Hp → Wl → Prop) (w : Wd G W H) (h0 : I 0 σ G W)
    (hs : ∀ (i : Nat) σ' G' W' H', lo + (i : Int) < z → Same G G' → Wd G' W' H' → I i σ' G' W' → g (.int (lo + (i : Int))) σ' H' fun σ2 H2 => tb ⟨Btw I G (i + 1), rt, nx, Btw I G (i + 1)⟩ σ2 H2)
    (hd : ∀ σ' G' W' H', Same G G' → Wd G' W' H' → I (z - lo).toNat σ' G' W' → nx σ' H') :
    ∃ i j : Int, [V.int lo, V.int z] = [.int i, .int j] ∧ (-(2 ^ 62) ≤ i ∧ i < 2 ^ 62 ∧ -(2 ^ 62) ≤ j ∧ j < 2 ^ 62) ∧ LoopQ (Itr i (j - i).toNat) g tb nx rt σ H :=
  ⟨lo, z, rfl, hz, loop_go walk_range I w (fun _ _ _ _ _ => trivial) h0 (fun i x σ' G' W' H' H'' hi e w' h y => by
    obtain ⟨rfl, rfl⟩ := y
    exact hs i σ' G' W' H'' (by omega) e w' h) hd⟩
/-- for i, x in enumerate(a list) -/
theorem for_enum (hx : SqL K G a xs) {i1 i2 : Nat} (I : Nat → L2.St → Hp → Wl → Prop) (w : Wd G W H) (h0 : I 0 σ G W)
    (hs : ∀ (i : Nat) x σ' G' G'' W' H', xs[i]? = some x → Same G G' → I i σ' G' W' → Same G' G'' → Wd G'' W' H' → tb ⟨Btw I G (i + 1), rt, nx, Btw I G (i + 1)⟩ ((σ'.set i1 (some (.int (i : Int)))).set i2 (some x)) H')
    (hd : ∀ σ' G' W' H', Same G G' → Wd G' W' H' → I xs.length σ' G' W' → nx σ' H') :
    ∃ a' ys, [V.ref a] = [.ref a'] ∧ SqL K H a' ys ∧ LoopQ (Ite K a') (gTup K 2 (gCons (gName i1) (gCons (gName i2) gNil))) tb nx rt σ H :=
  ⟨a, xs, rfl, seq_up w hx, loop_go walk_enum I w (fun _ _ _ e w' => seq_up w' (e.seq hx)) h0 (fun i x σ' G' W' H' H'' _ e w' h y => by
    obtain ⟨T, x1, x2, rfl, hn, rfl, e1, e2⟩ := y
    cases e1
    refine ⟨T, _, rfl, SqT.of upd_same, rfl, _, _, rfl, ?_⟩
    refine ⟨_, _, rfl, ?_⟩
    exact ⟨rfl, hs i x2 σ' G' _ W' _ e2 e h (same_upd (w'.free hn)) (w'.new hn)⟩) hd⟩
end

/-! ### comprehensions -/
def LcQ (J : It) (g : TG) (tt : TT) (te : TE) (vs : List Nat) (σ : L2.St) (H1 : Hp) (Q : VK) : Prop := ∀ D, H1 D = none → ∃ W : Nat → Nat → Hp → Prop, (∃ m, W 0 m (upd H1 D (.lst []))) ∧ ∀ i m H, W i m H →
  (J.stop i H ∧ Q (.ref D) H) ∨ (J.go i H ∧ ∃ Nx : Hp → Prop, (∀ H', Nx H' → ∃ m', m' < m ∧ W (i + 1) m' H') ∧ ∀ x H', J.yld i H x H' → g x (wipe σ vs) H' fun σ2 H2 => wipe σ2 vs = wipe σ vs ∧ tt σ2 H2 fun b H3 =>
    if b = true then te σ2 H3 fun y H4 => ∃ acc, H4 D = some (.lst acc) ∧ acc.length < sizeLine ∧ Nx (upd H4 D (.lst (acc ++ [y]))) else Nx H3)
/-- what holds between two turns: the new list at D holds acc -/
def LcB (I : Nat → List V → Hp → Prop) (G : Hp) (W : Wl) (D : Addr) (i : Nat) : Hp → Prop := fun H => ∃ G' acc, Same G G' ∧ Wd G' ((D, Is (.lst acc)) :: W) H ∧ I i acc G'
section
variable {K : PySem.W.Frag} {σ : L2.St} {H G : Hp} {W : Wl} {D : Addr} {g : TG} {tt : TT} {te : TE} {vs : List Nat} {Q : VK} {a b : Addr} {xs ys : List V} {n : Nat}
theorem st_lc {wi : TI} (h : wi σ H fun J H1 => LcQ J g tt te vs σ H1 Q) : tLc wi g tt te vs σ H Q := h
theorem st_yes {QT : Bool → Hp → Prop} (q : QT true H) : tYes σ H QT := q
/-- an element is put -/
theorem lc_put {I : Nat → List V → Hp → Prop} {G' : Hp} {i : Nat} {acc : List V} {y : V} (w : Wd G' ((D, Is (.lst acc)) :: W) H) (e : Same G G') (hl : acc.length < 1000000) (h : I i (acc ++ [y]) G') :
    ∃ acc, H D = some (.lst acc) ∧ acc.length < sizeLine ∧ LcB I G W D i (upd H D (.lst (acc ++ [y]))) := by
  obtain ⟨o, ho, rfl⟩ := w.get List.mem_cons_self
  exact ⟨acc, ho, small' (Nat.le_of_lt hl), G', acc ++ [y], e, Wd.put (W1 := []) w rfl, h⟩
theorem lc_skip {I : Nat → List V → Hp → Prop} {G' : Hp} {i : Nat} {acc : List V} (w : Wd G' ((D, Is (.lst acc)) :: W) H) (e : Same G G') (h : I i acc G') : LcB I G W D i H := ⟨G', acc, e, w, h⟩
theorem lc_go {J : It} {Gp : Hp → Prop} {Y : Nat → Hp → V → Hp → Prop} (wk : Walk J n Gp Y) (I : Nat → List V → Hp → Prop) (w : Wd G W H) (hG : ∀ G' W' H', Same G G' → Wd G' W' H' → Gp H') (h0 : I 0 [] G)
    (hs : ∀ i x D G' H' H'' acc, i < n → Same G G' → Wd G' ((D, Is (.lst acc)) :: W) H' → I i acc G' → Y i H' x H'' → g x (wipe σ vs) H'' fun σ2 H2 => wipe σ2 vs = wipe σ vs ∧ tt σ2 H2 fun b H3 =>
      if b = true then te σ2 H3 fun y H4 => ∃ acc, H4 D = some (.lst acc) ∧ acc.length < sizeLine ∧ LcB I G W D (i + 1) (upd H4 D (.lst (acc ++ [y]))) else LcB I G W D (i + 1) H3)
    (hd : ∀ D G' H' acc, Same G G' → Wd G' ((D, Is (.lst acc)) :: W) H' → I n acc G' → Q (.ref D) H') : LcQ J g tt te vs σ H Q := fun D hD =>
  lc_it wk (LcB I G W D) ⟨G, [], Same.refl _, w.newM hD rfl, h0⟩ (fun _ _ _ ⟨_, _, e, w', _⟩ => hG _ _ _ e w') (fun i x H' H'' hi ⟨G', acc, e, w', h⟩ y => hs i x D G' H' H'' acc hi e w' h y) fun H' ⟨G', acc, e, w', h⟩ => hd D G' H' acc e w' h
/-- [.. for i in range(z)], the variable at slot j -/
theorem lc_r1 {z : Int} {j : Nat} (hz : -(2 ^ 62) ≤ z ∧ z < 2 ^ 62) (I : Nat → List V → Hp → Prop) (w : Wd G W H) (h0 : I 0 [] G) (hw : ∀ x, wipe ((wipe σ vs).set j x) vs = wipe σ vs)
    (hs : ∀ (i : Nat) D G' H' acc, (i : Int) < z → Same G G' → Wd G' ((D, Is (.lst acc)) :: W) H' → I i acc G' → tt ((wipe σ vs).set j (some (.int (i : Int)))) H' fun b H3 =>
      if b = true then te ((wipe σ vs).set j (some (.int (i : Int)))) H3 fun y H4 => ∃ acc, H4 D = some (.lst acc) ∧ acc.length < sizeLine ∧ LcB I G W D (i + 1) (upd H4 D (.lst (acc ++ [y]))) else LcB I G W D (i + 1) H3)
    (hd : ∀ D G' H' acc, Same G G' → Wd G' ((D, Is (.lst acc)) :: W) H' → I z.toNat acc G' → Q (.ref D) H') : ∃ j' : Int, [V.int z] = [.int j'] ∧ -(2 ^ 62) ≤ j' ∧ j' < 2 ^ 62 ∧ LcQ (Itr 0 j'.toNat) (gName j) tt te vs σ H Q :=
  ⟨z, rfl, hz.1, hz.2, lc_go walk_range I w (fun _ _ _ _ _ => trivial) h0 (fun i x D G' H' H'' acc hi e w' h y => by
    obtain ⟨rfl, rfl⟩ := y
    have e0 : (0 : Int) + (i : Int) = (i : Int) := Int.zero_add _
    dsimp only
    rw [e0]
    exact ⟨hw _, hs i D G' H'' acc (by omega) e w' h⟩) hd⟩
/-- [.. for x in a list] -/
theorem lc_l {j : Nat} (hx : SqL K G a xs) (I : Nat → List V → Hp → Prop) (w : Wd G W H) (h0 : I 0 [] G) (hw : ∀ x, wipe ((wipe σ vs).set j x) vs = wipe σ vs)
    (hs : ∀ (i : Nat) x D G' H' acc, xs[i]? = some x → Same G G' → Wd G' ((D, Is (.lst acc)) :: W) H' → I i acc G' → tt ((wipe σ vs).set j (some x)) H' fun b H3 =>
      if b = true then te ((wipe σ vs).set j (some x)) H3 fun y H4 => ∃ acc, H4 D = some (.lst acc) ∧ acc.length < sizeLine ∧ LcB I G W D (i + 1) (upd H4 D (.lst (acc ++ [y]))) else LcB I G W D (i + 1) H3)
    (hd : ∀ D G' H' acc, Same G G' → Wd G' ((D, Is (.lst acc)) :: W) H' → I xs.length acc G' → Q (.ref D) H') : ∃ a', V.ref a = .ref a' ∧ (∃ xs, SqL K H a' xs) ∧ LcQ (Itl K a') (gName j) tt te vs σ H Q :=
  ⟨a, rfl, ⟨xs, seq_up w hx⟩, lc_go walk_list I w (fun _ _ _ e w' => seq_up w' (e.seq hx)) h0 (fun i x D G' H' H'' acc _ e w' h y => by
    obtain ⟨rfl, y⟩ := y
    exact ⟨hw _, hs i x D G' H'' acc y e w' h⟩) hd⟩
end

/-! ### kinds of values -/
inductive Knd (K : PySem.W.Frag) (H : Hp) : V → Prop
  | int (i : Int) : Knd K H (.int i)
  | bl (b : Bool) : Knd K H (.bl b)
  | non : Knd K H .non
  | str (x : Str) : Knd K H (.str x)
  | lst {a : Addr} {xs : List V} (h : SqL K H a xs) : Knd K H (.ref a)
  | tup {a : Addr} {xs : List V} (h : SqT K H a xs) : Knd K H (.ref a)
  | dct {a : Addr} {kvs : List (Key × V)} (h : H a = some (.dK kvs)) : Knd K H (.ref a)
def isInt : V → Bool
  | .int _ => true
  | _ => false
def inRange (lo hi : Int) : V → Bool
  | .int i => decide (lo ≤ i) && decide (i ≤ hi)
  | _ => false
section
variable {K : PySem.W.Frag} {H : Hp} {x : V}
theorem tyL {a : Addr} {xs : List V} (h : SqL K H a xs) : TyX K H (.ref a) (.type "list") := by
  rcases h with (h | ⟨o, h⟩) | ⟨o, _, _, h, hc, _⟩
  · exact .base (.lst h)
  · exact .base (.frz h)
  · exact .kList h hc
theorem tyT {a : Addr} {xs : List V} (h : SqT K H a xs) : TyX K H (.ref a) (.type "tuple") := by
  rcases h with (h | ⟨o, h⟩) | ⟨o, _, _, h, hc, _⟩
  · exact .base (.tup h)
  · exact .fTuple h
  · exact .kTuple h hc
theorem Knd.ty (h : Knd K H x) : ∃ n b1 b2, TyX K H x (.type n) ∧ kitB n "int" = some b1 ∧ kitB n "bool" = some b2 ∧ isInt x = (b1 && !b2) := by
  cases h with
  | int i => exact ⟨"int", true, false, .base (.int i), by decide +kernel, by decide +kernel, rfl⟩
  | bl b => exact ⟨"bool", true, true, .base (.bl b), by decide +kernel, by decide +kernel, rfl⟩
  | non => exact ⟨"NoneType", false, false, .base .non, by decide +kernel, by decide +kernel, rfl⟩
  | str s => exact ⟨"str", false, false, .base (.str s), by decide +kernel, by decide +kernel, rfl⟩
  | lst h => exact ⟨"list", false, false, tyL h, by decide +kernel, by decide +kernel, rfl⟩
  | tup h => exact ⟨"tuple", false, false, tyT h, by decide +kernel, by decide +kernel, rfl⟩
  | dct h => exact ⟨"dict", false, false, .base (.dK h), by decide +kernel, by decide +kernel, rfl⟩
/-- isinstance(x, (list, tuple)) -/
def isSeq (K : PySem.W.Frag) (H : Hp) (x : V) : Prop := ∃ a xs, x = .ref a ∧ (SqL K H a xs ∨ SqT K H a xs)
theorem kB {a b : String} {r : Bool} {cs : List Value} {q : Bool} (h : kitB a b = some r) (hr : r = false → PySem.W.kitAny K (.type a) cs = some q) (hb : r = true → q = true) : PySem.W.kitAny K (.type a) (.type b :: cs) = some q := kitAny_cons (kit_ty h) hr hb
theorem kitLT_l : PySem.W.kitAny K (.type "list") [.type "list", .type "tuple"] = some true := kB (r := true) (by decide +kernel) (fun h => nomatch h) (fun _ => rfl)
theorem kitLT_t : PySem.W.kitAny K (.type "tuple") [.type "list", .type "tuple"] = some true := kB (r := false) (by decide +kernel) (fun _ => kB (r := true) (by decide +kernel) (fun h => nomatch h) (fun _ => rfl)) (fun h => nomatch h)
theorem isiSeq {Q : VK} {a p : Addr} {xs : List V} (hp : H p = some (.tup [.ty "list", .ty "tuple"])) (h : SqL K H a xs ∨ SqT K H a xs) (q : Q (.bl true) H) : rIsiT K [.ref a, .ref p] H Q := by
  rcases h with h | h
  · exact ⟨_, p, _, _, _, true, rfl, hp, .cons (.ty _) (.cons (.ty _) .nil), tyL h, kitLT_l, q⟩
  · exact ⟨_, p, _, _, _, true, rfl, hp, .cons (.ty _) (.cons (.ty _) .nil), tyT h, kitLT_t, q⟩
end

section
variable {K : PySem.W.Frag} {σ : L2.St} {H : Hp} {ta : TA} {tl : TE} {R : It → Hp → Prop}
theorem st_iEnum (h : ta σ H fun vs H1 => ∃ a xs, vs = [.ref a] ∧ SqL K H1 a xs ∧ R (Ite K a) H1) : iEnum K ta σ H R := h
theorem st_iList (h : tl σ H fun x H1 => ∃ a, x = .ref a ∧ (∃ xs, SqL K H1 a xs) ∧ R (Itl K a) H1) : iList K tl σ H R := h
theorem st_iTup (h : tl σ H fun x H1 => ∃ a, x = .ref a ∧ (∃ xs, SqT K H1 a xs) ∧ R (Itt K a) H1) : iTup K tl σ H R := h
theorem st_iR1 (h : ta σ H fun vs H1 => ∃ j : Int, vs = [.int j] ∧ -(2 ^ 62) ≤ j ∧ j < 2 ^ 62 ∧ R (Itr 0 j.toNat) H1) : iRng1 ta σ H R := h
theorem st_iR2 (h : ta σ H fun vs H1 => ∃ i j : Int, vs = [.int i, .int j] ∧ (-(2 ^ 62) ≤ i ∧ i < 2 ^ 62 ∧ -(2 ^ 62) ≤ j ∧ j < 2 ^ 62) ∧ R (Itr i (j - i).toNat) H1) : iRng2 ta σ H R := h
end

theorem atUp {G G' : Hp} {a : Addr} {o : HO} (e : Same G G') (h : G a = some o) : G' a = some o := e _ _ h
theorem hUp {G H : Hp} {W : Wl} {a : Addr} {o : HO} (w : Wd G W H) (h : G a = some o) : H a = some o := w.ex _ _ h
theorem dUp {K : PySem.W.Frag} {G H : Hp} {W : Wl} {v : V} {d : PyData} (w : Wd G W H) (h : Dp K G v d) : Dp K H v d := dmono w.ex h
theorem getI {ns : List Int} {i : Nat} {x : V} (h : (ns.map V.int)[i]? = some x) : ∃ n, ns[i]? = some n ∧ x = V.int n ∧ n ∈ ns := by
  rw [List.getElem?_map] at h
  obtain ⟨n, hn, e⟩ := Option.map_eq_some_iff.mp h
  exact ⟨n, hn, e.symm, List.mem_of_getElem? hn⟩

section
variable {K : PySem.W.Frag} {σ : L2.St} {H : Hp} {Q : VK} {QS : L2.St → Hp → Prop} {to ti : TE} {v x : V} {xs : List V} {a : Addr}
theorem st_gsub {t : TSet} (h : to σ H fun o H1 => ti σ H1 fun i H2 => t o i v H2 fun H3 => QS σ H3) : gSub to ti t v σ H QS := h
/-- xs[i] -/
theorem st_ixL {i : Int} (h : SqL K H a xs) (hv : atI xs i = some v) (q : Q v H) : rIxL K (.ref a) (.int i) H Q := ⟨a, xs, i, v, rfl, rfl, h, hv, q⟩
theorem st_ixT {i : Int} (h : SqT K H a xs) (hv : atI xs i = some v) (q : Q v H) : rIxT K (.ref a) (.int i) H Q := ⟨a, xs, i, v, rfl, rfl, h, hv, q⟩
theorem st_setL {i : Int} {j : Nat} {Q : Hp → Prop} (h : H a = some (.lst xs)) (hj : ixN xs.length i = some j) (q : Q (upd H a (.lst (xs.set j v)))) : rSetL (.ref a) (.int i) v H Q := ⟨a, xs, i, j, rfl, rfl, h, hj, q⟩
end

section
variable {K : PySem.W.Frag} {σ : L2.St} {H : Hp} {Q : VK} {to te : TE} {t : TA} {T : String} {r : V → List V → Hp → VK → Prop} {xs : List V} {a : Addr}
theorem st_bm (h : to σ H fun x H1 => tyV K T x H1 ∧ t σ H1 fun xs H2 => r x xs H2 Q) : tBM K T r to t σ H Q := h
theorem st_bm0 (h : to σ H fun x H1 => tyV K T x H1 ∧ r x [] H1 Q) : tBM0 K T r to σ H Q := h
theorem tyL' (h : H a = some (.lst xs)) : tyV K "list" (.ref a) H := Or.inl ⟨rfl, _, SqL.of h⟩
theorem map_ins (ns : List Int) (i : Nat) (n : Int) : (ns.map V.int).take i ++ [V.int n] ++ (ns.map V.int).drop i = (ns.take i ++ [n] ++ ns.drop i).map V.int := by simp [List.map_take, List.map_drop]
theorem map_set' (ns : List Int) (i : Nat) (n : Int) : (ns.map V.int).set i (V.int n) = (ns.set i n).map V.int := by simp [List.map_set]
theorem atI_map {ns : List Int} {i : Int} (h0 : 0 ≤ i) (h1 : i < ns.length) : ∃ n, atI (ns.map V.int) i = some (V.int n) ∧ n ∈ ns ∧ ns[i.toNat]? = some n := by
  obtain ⟨n, hn⟩ : ∃ n, ns[i.toNat]? = some n := ⟨_, List.getElem?_eq_getElem (by omega)⟩
  refine ⟨n, ?_, List.mem_of_getElem? hn, hn⟩
  have e : i = (i.toNat : Int) := by omega
  rw [e]
  exact atI_nat (by rw [List.getElem?_map, hn]; rfl)
theorem ixN_of {n : Nat} {i : Int} (h0 : 0 ≤ i) (h1 : i < n) : ixN n i = some i.toNat := by
  unfold ixN
  rw [if_pos h0, if_pos h1]
end

theorem st_cut {t u : TS} {nx bk ct : L2.St → Hp → Prop} {rt : VK} {σ : L2.St} {H : Hp} (M : L2.St → Hp → Prop) (h : t ⟨M, rt, bk, ct⟩ σ H) (k : ∀ σ' H', M σ' H' → u ⟨nx, rt, bk, ct⟩ σ' H') : C8.tCut t u ⟨nx, rt, bk, ct⟩ σ H := ⟨M, h, k⟩
section
variable {K : PySem.W.Frag} {H : Hp}
def dI (ns : List Int) : PyData := .list (ns.map .int)
theorem dpInts : ∀ ns : List Int, DpAll K H (ns.map V.int) (ns.map PyData.int)
  | [] => .nil
  | n :: ns => .cons (.int n) (dpInts ns)
theorem dp_ints {a : Addr} {ns : List Int} (h : SqL K H a (ns.map V.int)) : Dp K H (.ref a) (dI ns) := .lst h (dpInts ns)
/-- data that may be compared: of a depth up to n -/
def Sh (n : Nat) (d : PyData) : Prop := d.canLay0 = true ∧ d.depth ≤ n
theorem sh_all {n : Nat} : ∀ {ds : List PyData}, (∀ d ∈ ds, Sh n d) → PyData.canLayAll0 ds = true ∧ PyData.depthAll ds ≤ n
  | [], _ => ⟨rfl, Nat.zero_le _⟩
  | d :: ds, h => by
    obtain ⟨a1, a2⟩ := h d List.mem_cons_self
    obtain ⟨b1, b2⟩ := sh_all (ds := ds) fun x hx => h x (List.mem_cons_of_mem _ hx)
    refine ⟨?_, ?_⟩
    · unfold PyData.canLayAll0
      rw [a1, b1]
      rfl
    · unfold PyData.depthAll
      exact Nat.max_le.mpr ⟨a2, b2⟩
theorem Sh.list {n : Nat} {ds : List PyData} (h : ∀ d ∈ ds, Sh n d) : Sh (n + 1) (.list ds) := by
  obtain ⟨a, b⟩ := sh_all h
  exact ⟨by unfold PyData.canLay0; exact a, by unfold PyData.depth; exact Nat.succ_le_succ b⟩
theorem Sh.tuple {n : Nat} {ds : List PyData} (h : ∀ d ∈ ds, Sh n d) : Sh (n + 1) (.tuple ds) := by
  obtain ⟨a, b⟩ := sh_all h
  exact ⟨by unfold PyData.canLay0; exact a, by unfold PyData.depth; exact Nat.succ_le_succ b⟩
theorem Sh.int {n : Nat} (i : Int) : Sh n (.int i) := ⟨by unfold PyData.canLay0; rfl, by unfold PyData.depth; exact Nat.zero_le _⟩
theorem Sh.bool {n : Nat} (i : Bool) : Sh n (.bool i) := ⟨by unfold PyData.canLay0; rfl, by unfold PyData.depth; exact Nat.zero_le _⟩
theorem Sh.none {n : Nat} : Sh n .none := ⟨by unfold PyData.canLay0; rfl, by unfold PyData.depth; exact Nat.zero_le _⟩
theorem Sh.ok {n : Nat} {d : PyData} (h : Sh n d) (hn : n ≤ 64) : SeqAt.shaped d = true := by
  unfold SeqAt.shaped
  rw [h.1, decide_eq_true (Nat.le_trans h.2 hn)]
  rfl
theorem sh_ints (ns : List Int) : Sh 1 (dI ns) := Sh.list fun d hd => by
  obtain ⟨n, _, rfl⟩ := List.mem_map.mp hd
  exact .int n
theorem eqvAll_map {α : Type} [DecidableEq α] (f : α → PyData) (h : ∀ x y, PyData.eqv (f x) (f y) = decide (x = y)) : ∀ xs ys : List α, PyData.eqvAll (xs.map f) (ys.map f) = decide (xs = ys)
  | [], [] => by simp [PyData.eqvAll]
  | [], _ :: _ => by simp [PyData.eqvAll]
  | _ :: _, [] => by simp [PyData.eqvAll]
  | x :: xs, y :: ys => by
    rw [List.map_cons, List.map_cons, PyData.eqvAll, h, eqvAll_map f h xs ys]
    by_cases e1 : x = y <;> by_cases e2 : xs = ys <;> simp [e1, e2]
theorem eqv_int (a b : Int) : PyData.eqv (.int a) (.int b) = decide (a = b) := by
  unfold PyData.eqv
  by_cases e : a = b <;> simp [e]
theorem eqv_dI (a b : List Int) : PyData.eqv (dI a) (dI b) = decide (a = b) := by
  unfold dI PyData.eqv
  exact eqvAll_map _ eqv_int a b
/-- xs == ys of data -/
theorem st_eqD {Q : VK} {x y : V} {d e : PyData} {b : Bool} (hx : Dp K H x d) (hy : Dp K H y e) (sx : SeqAt.shaped d = true) (sy : SeqAt.shaped e = true) (hb : PyData.eqv d e = b) (q : Q (.bl b) H) : rEqD K x y H Q := ⟨d, e, hx, hy, sx, sy, by rw [hb]; exact q⟩
theorem st_neD {Q : VK} {x y : V} {d e : PyData} {b : Bool} (hx : Dp K H x d) (hy : Dp K H y e) (sx : SeqAt.shaped d = true) (sy : SeqAt.shaped e = true) (hb : PyData.eqv d e = b) (q : Q (.bl (!b)) H) : rNeD K x y H Q := ⟨d, e, hx, hy, sx, sy, by rw [hb]; exact q⟩
/-- lists of ints -/
theorem st_eqI {Q : VK} {a b : Addr} {xs ys : List Int} (hx : SqL K H a (xs.map V.int)) (hy : SqL K H b (ys.map V.int)) (q : Q (.bl (decide (xs = ys))) H) : rEqD K (.ref a) (.ref b) H Q :=
  st_eqD (dp_ints hx) (dp_ints hy) ((sh_ints xs).ok (by decide)) ((sh_ints ys).ok (by decide)) (eqv_dI xs ys) q
theorem st_neI {Q : VK} {a b : Addr} {xs ys : List Int} (hx : SqL K H a (xs.map V.int)) (hy : SqL K H b (ys.map V.int)) (q : Q (.bl (!decide (xs = ys))) H) : rNeD K (.ref a) (.ref b) H Q :=
  st_neD (dp_ints hx) (dp_ints hy) ((sh_ints xs).ok (by decide)) ((sh_ints ys).ok (by decide)) (eqv_dI xs ys) q
end

theorem st_ifV {σ : L2.St} {H : Hp} {Q : VK} {tt : TT} {ta tb : TE} (v : V) (c : Bool) (ht : ∀ QT : Bool → Hp → Prop, QT c H → tt σ H QT) (h1 : c = true → ∀ Q : VK, Q v H → ta σ H Q) (h2 : c = false → ∀ Q : VK, Q v H → tb σ H Q) (q : Q v H) : tIf tt ta tb σ H Q :=
  ht _ (by
    cases c with
    | true => exact iteT (h1 rfl Q q)
    | false => exact iteF (h2 rfl Q q))
theorem ne_self (v : V) : (!decide (v = v)) = false := by rw [decide_eq_true rfl]; rfl
theorem eq_self' (v : V) : decide (v = v) = true := decide_eq_true rfl
end Z

/-! enumerate of a tuple -/
namespace PySem
open AutoSeq1 (wpAny_loadPart')
theorem zEnumNew (l : Addr) (its : Array Value) (n : Nat) (dd : Option Addr) (sl : Array (Option Value)) :
    Meets (Builtin.«enumerate.__new__» ⟨[.type "enumerate", .ref l], []⟩) (fun _ R s => s.heap.get? l = some { cls := .type "tuple", dict := dd, data := .seq its n, slots := sl } ∧
      R (.ok (.ret (.ref (s.heap.push { cls := .type "tuple_iterator", data := .fields #[.ref l, .int 0 0] }).objs.size)))
        { s with heap := (s.heap.push { cls := .type "tuple_iterator", data := .fields #[.ref l, .int 0 0] }).push { cls := .type "enumerate", data := .fields #[.none, .bool false, .ref s.heap.objs.size, rawInt 0, .none, .none] } }) :=
  .of_wp fun prog w A R s q => by
    obtain ⟨hp, g, d, tk, os⟩ := s
    obtain ⟨hl, hR⟩ := q
    have hsub := sub_enumerate
    have hT : Heap.IsTuple (Shared.heap ⟨hp, g, d, tk, os⟩) l its := ⟨_, hl, rfl, n, rfl⟩
    wp_walk using wpAny_loadPart' hl
    refine wpAny_stack_any fun st => wpAny_pure ?_
    split
    · rename_i c _ _ _ _ _
      cases (c == Value.type "enumerate") <;> (wp_walk using wpAny_loadPart' hl, wpAny_pyIter_tuple hT; exact ⟨_, rfl, hR⟩)
    · wp_walk using wpAny_loadPart' hl, wpAny_pyIter_tuple hT
      exact ⟨_, rfl, hR⟩
theorem zEnumCall {prog : Program} {w : World} {A : Around} {E : Value → Shared → Prop} {s : Shared} {l : Addr} {its : Array Value} {Q : Value → Shared → Prop} (hT : s.heap.IsTuple l its)
    (k : ∀ h', IsEnum h' (s.heap.objs.size + 1) s.heap.objs.size 0 .none → h'.IsTupleIter s.heap.objs.size l 0 → h'.objs.size = s.heap.objs.size + 2 → (∀ b o, s.heap.get? b = some o → h'.get? b = some o) →
      Q (.ref (s.heap.objs.size + 1)) { s with heap := h' }) : wpAny (model prog w) A (call (.type "enumerate") [.ref l]) Q E s := by
  obtain ⟨⟨c, dd, dt, sl⟩, hl, hc, n, hd⟩ := hT
  obtain rfl : c = .type "tuple" := hc
  obtain rfl : dt = .seq its n := hd
  refine callType_new F.called_enumerate (by decide) (F.typeCall_enumerate_1 _) (F.newCall_enumerate_1 _) (fun obj => F.args_object_init_2 obj _) F.entry_enumerate_new (zEnumNew l its n dd sl) ⟨hl, ?_⟩
  have hz : (s.heap.push { cls := .type "tuple_iterator", data := .fields #[.ref l, .int 0 0] }).objs.size = s.heap.objs.size + 1 := Heap.size_push ..
  show _ ∧ _
  rw [hz]
  have he : IsEnum ((s.heap.push { cls := .type "tuple_iterator", data := .fields #[.ref l, .int 0 0] }).push { cls := .type "enumerate", data := .fields #[.none, .bool false, .ref s.heap.objs.size, rawInt 0, .none, .none] })
      (s.heap.objs.size + 1) s.heap.objs.size 0 .none := hz ▸ Heap.get?_push_size _ rfl
  exact ⟨⟨_, he, rfl⟩, k _ he ⟨_, Heap.get?_push_of_some _ (Heap.get?_push_size _ rfl), rfl, rfl⟩ (by rw [Heap.size_push, hz]) fun b o x => Heap.get?_push_of_some _ (Heap.get?_push_of_some _ x)⟩
theorem zEnumEnd {prog : Program} {w : World} {A : Around} {E : Value → Shared → Prop} {s : Shared} {e it l : Addr} {i : Nat} {its : Array Value} {old : Value} {k : Int} {Q : Option Value → Shared → Prop} (hh : A.handled = none)
    (he : IsEnum s.heap e it k old) (hit : s.heap.IsTupleIter it l i) (hl : s.heap.IsTuple l its) (hx : its[i]? = none) (q : ∀ h', Heap.ExtBut it s.heap h' → Q none { s with heap := h' }) :
    wpAny (model prog w) A (pyNext (.ref e)) Q E s := by
  have ty : s.TypeIs (.ref e) "enumerate" := ⟨_, he, rfl⟩
  unfold pyNext
  refine wpAny_bind (wpAny_attempt (wpAny_callSpecial?_slot (name := Str.ofString "__next__") ty F.slot_enumerate_next (wpAny_call_entry F.slot_enumerate_next ty F.entry_enumerate_next ?_ (F.args_enumerate_next_1 _))))
  show wpAny _ _ (field (.ref e) 2 >>= _) _ _ _
  refine wpAny_bind (wpAny_field he rfl (x := .ref it) rfl (wpAny_bind (wpAny_nextOf_tuple_end hh hit hl hx fun h' x he' ⟨o, ho, hc⟩ => ?_)))
  exact wpAny_bind (wpAny_isInstance (T := "StopIteration") (b := true) ⟨o, ho, hc⟩ isSubtype_stop (wpAny_pure (q _ he')))
end PySem
namespace Z
open PySem PySem.Spec PyProof.Rows L2
def IteT (K : PySem.W.Frag) (a : Addr) : It :=
  ⟨fun i H => ∃ (xs : List V) (x : V), SqT K H a xs ∧ xs[i]? = some x, fun i H v H' => ∃ T x, v = .ref T ∧ H T = none ∧ H' = upd H T (.tup [.int (i : Nat), x]) ∧ ∀ xs, SqT K H a xs → xs[i]? = some x,
    fun i H => ∃ xs : List V, SqT K H a xs ∧ xs.length ≤ i⟩
theorem tup_ne {h : Heap} {a b : Addr} {its : Array Value} {o : Obj} {n : String} (p : IsTup h a its) (ho : h.get? b = some o) (hc : o.cls = .type n) (hn : n ≠ "tuple") : a ≠ b := fun z => by
  obtain ⟨o', e, c, _⟩ := p
  rw [z, ho] at e
  cases e
  rw [hc] at c
  exact hn (by injection c)
theorem turn_enumT {P : Program} {w : World} {K : PySem.W.Frag} {elts : List Expr} {kk : Nat} {tpos : Pos} (a e it : Addr) :
    Turn P w K (.Tuple elts kk tpos) (IteT K a) [e, it] e (fun i h => (∃ old, IsEnum h e it ((i : Nat) : Int) old) ∧ h.IsTupleIter it a i ∧ e ≠ it) where
  mem := List.mem_cons_self
  obj := fun i h st b hb => by
    obtain ⟨⟨old, he⟩, ⟨o, ho, hc, hd⟩, _⟩ := st
    rcases (show b = e ∨ b = it by simpa using hb) with z | z
    · exact z ▸ ⟨_, he, fun v q => nomatch q⟩
    · exact z ▸ ⟨o, ho, fun v q => by rw [hd] at q; cases q⟩
  keep := fun i h h' st k => let ⟨⟨old, he⟩, hi, hne⟩ := st; ⟨⟨old, k e List.mem_cons_self _ he⟩, hi.at fun o q => k it (by simp) o q, hne⟩
  item := by
    intro X hP hw hK hc i pins s σ H E I hf st hg
    cases hP; cases hw; cases hK
    obtain ⟨⟨old, he⟩, hit, hne⟩ := st
    obtain ⟨xs, x, hq, hx⟩ := hg
    obtain ⟨its, rv, p, hz⟩ := I.tuple hq
    obtain ⟨u, hu, ru⟩ := rv.get hx
    obtain ⟨oi, hoi, hci, _⟩ := id hit
    have nai : a ≠ it := tup_ne p hoi hci (by decide)
    have nae : a ≠ e := tup_ne p he rfl (by decide)
    have hel := Heap.lt_size he
    have hil := Heap.lt_size hoi
    have hlt : i < its.length := (List.getElem?_eq_some_iff.mp hu).1
    refine wpAny_pyNext_enum_itemD (Draws.tuple (A := X.A.in1) (I.ok.hd hc) it a nai its.toArray) he ⟨hit, p⟩ (by simpa using hlt) hne (by simp [hne, nae.symm]) fun v h' tk hv ho hst hT hsz hk => ?_
    obtain rfl : u = v := by
      have hv' : its[i]? = some v := by simpa using hv
      rw [hu] at hv'
      exact Option.some.inj hv'
    refine ⟨_, rfl, wpAny_letOwnedTupleGo_enum (s := { s with heap := h', toks := tk + 1 }) ho fun h'' he' sb => ?_⟩
    have hT2 := (sb.2 _ (Nat.ne_of_gt hel)).trans hT
    have new : ObjOk X.prog X.w (upd H s.heap.objs.size (.tup [.int (i : Nat), x])) h'' s.heap.objs.size (.tup [.int (i : Nat), x]) :=
      ⟨by show 2 ≤ sizeLine; decide, [.int i tk, u], .cons ⟨_, rfl⟩ (.cons ru .nil), ⟨_, hT2, rfl, _, rfl⟩⟩
    have I1 := I.turnedNew (t' := tk + 1) (ch := [e, it]) (fun b ob hb q => (sb.2 b (fun z => hb (by simp [z]))).trans (hk b ob (fun z => hb (by simp [z])) (fun z => hb (by simp [z])) q)) hf (Nat.le_refl _) new
    refine ⟨.ref s.heap.objs.size, _, I1, rfl, ⟨_, x, rfl, I.hok.fresh (Nat.le_refl _), rfl, fun ys hy => by rw [I.tuple_inj hy hq]; exact hx⟩, ⟨⟨u, ?_⟩, hst.1.at fun o q => (sb.2 it (Ne.symm hne)).trans q, hne⟩, fun b hb => ?_⟩
    · rw [show ((i + 1 : Nat) : Int) = (i : Int) + 1 by omega]
      exact he'
    · have hb' : b < s.heap.objs.size := by
        rcases (show b = e ∨ b = it by simpa using hb) with z | z
        · exact z ▸ hel
        · exact z ▸ hil
      rw [upd_ne (Nat.ne_of_lt hb')]
      exact (hf b hb).1
  done := by
    intro X hP hw hK hc i pins s σ H E I hf st hg
    cases hP; cases hw; cases hK
    obtain ⟨⟨old, he⟩, hit, hne⟩ := st
    obtain ⟨xs, hq, hx⟩ := hg
    obtain ⟨its, rv, p, hz⟩ := I.tuple hq
    obtain ⟨oi, hoi, hci, hdi⟩ := id hit
    have nai : a ≠ it := tup_ne p hoi hci (by decide)
    obtain ⟨f0, f1, f2, f3, f4, f5⟩ := hf it (by simp)
    have hl := rv.length
    exact zEnumEnd (I.ok.hd hc) he hit (show s.heap.IsTuple a its.toArray from p) (by simp; omega) fun h' eb => ⟨rfl, I.turned (t' := s.toks) (fun b o hb q => eb b o hb q) f0 f1 f3 f4 f5⟩
  self := fun A i s Q E st h => let ⟨⟨_, he⟩, _⟩ := st; wpAny_pyIter_enum he h

/-- enumerate of a list or of a tuple -/
def iEnumA (K : PySem.W.Frag) (ta : TA) : TI := fun σ H R => ta σ H fun vs H1 => ∃ a xs, vs = [.ref a] ∧ ((SqL K H1 a xs ∧ R (Ite K a) H1) ∨ (SqT K H1 a xs ∧ R (IteT K a) H1))
theorem pi_enumA {X : Cx} {e : Expr} {ta : TA} {p pos tpos : Pos} {elts : List Expr} {kk : Nat} (hg : Gl X "enumerate") (hm : X.mg "enumerate" = none) (ha : PA X [e] ta) (hs : starEach [e] X.env = [(false, eval e X.env)] := by rfl) :
    PI X (.Tuple elts kk tpos) (.Call (.Name "enumerate" p) [e] [] pos) (iEnumA X.K ta) := by
  refine ⟨fun pins s σ H R I h => Call_ (ld_blt I hg hm boot_enumerate (PyProof.Rows.callWith_type1 (thn (ha.run pos pins s σ H _ I h) fun us s1 ⟨vs, H1, I1, r1, a, xs, ex, hq⟩ => ?_) hs rfl))⟩
  subst ex
  cases r1 with
  | cons r rr =>
    cases rr
    cases r
    have fp : ∀ b ∈ [s1.heap.objs.size + 1, s1.heap.objs.size], FpOk X pins H1 b := fun b hb => by
      have hle : s1.heap.objs.size ≤ b := by
        rcases (show b = s1.heap.objs.size + 1 ∨ b = s1.heap.objs.size by simpa using hb) with z | z
        · exact z ▸ Nat.le_add_right _ _
        · exact z ▸ Nat.le_refl _
      exact I1.fpOk hle (I1.hok.fresh hle)
    rcases hq with ⟨hq, q⟩ | ⟨hq, q⟩
    · obtain ⟨its, rv, p', hz⟩ := I1.list hq
      refine call_enumerate_list p'.isList fun h' he hit hsz hk => wpAny_pyIter_enum he ?_
      exact ⟨s1.heap.objs.size + 1, _, _, _, H1, rfl, I1.kept (t' := s1.toks) hk, turn_enum a (s1.heap.objs.size + 1) s1.heap.objs.size, ⟨⟨.none, he⟩, hit, Nat.succ_ne_self _⟩, fp, q⟩
    · obtain ⟨its, rv, p', hz⟩ := I1.tuple hq
      refine zEnumCall (show s1.heap.IsTuple a its.toArray from p') fun h' he hit hsz hk => wpAny_pyIter_enum he ?_
      exact ⟨s1.heap.objs.size + 1, _, _, _, H1, rfl, I1.kept (t' := s1.toks) hk, turn_enumT a (s1.heap.objs.size + 1) s1.heap.objs.size, ⟨⟨.none, he⟩, hit, Nat.succ_ne_self _⟩, fp, q⟩
theorem walk_enumT {K : PySem.W.Frag} {a : Addr} {xs : List V} : Walk (IteT K a) xs.length (fun H => SqT K H a xs) (YPair (fun i => some (.int (i : Nat))) (fun i => xs[i]?)) :=
  ⟨fun i H hi g => ⟨xs, xs[i], g, by simp [hi]⟩, fun H g => ⟨xs, g, Nat.le_refl _⟩, fun i H x H' hi g y => by
    obtain ⟨T, z, e1, e2, e3, e4⟩ := y
    exact ⟨T, _, z, e1, e2, e3, rfl, e4 xs g⟩⟩
section
variable {K : PySem.W.Frag} {σ : L2.St} {H G : Hp} {W : Wl} {nx : L2.St → Hp → Prop} {rt : VK} {tb : TS} {a : Addr} {xs : List V} {ta : TA} {R : It → Hp → Prop}
theorem st_iEnumA (h : ta σ H fun vs H1 => ∃ a xs, vs = [.ref a] ∧ ((SqL K H1 a xs ∧ R (Ite K a) H1) ∨ (SqT K H1 a xs ∧ R (IteT K a) H1))) : iEnumA K ta σ H R := h
/-- for i, x in enumerate(a list or tuple) -/
theorem for_enumA (hx : SqL K G a xs ∨ SqT K G a xs) {i1 i2 : Nat} (I : Nat → L2.St → Hp → Wl → Prop) (w : Wd G W H) (h0 : I 0 σ G W)
    (hs : ∀ (i : Nat) x σ' G' G'' W' H', xs[i]? = some x → Same G G' → I i σ' G' W' → Same G' G'' → Wd G'' W' H' → tb ⟨Btw I G (i + 1), rt, nx, Btw I G (i + 1)⟩ ((σ'.set i1 (some (.int (i : Int)))).set i2 (some x)) H')
    (hd : ∀ σ' G' W' H', Same G G' → Wd G' W' H' → I xs.length σ' G' W' → nx σ' H') :
    ∃ a' ys, [V.ref a] = [.ref a'] ∧ ((SqL K H a' ys ∧ LoopQ (Ite K a') (gTup K 2 (gCons (gName i1) (gCons (gName i2) gNil))) tb nx rt σ H) ∨ (SqT K H a' ys ∧ LoopQ (IteT K a') (gTup K 2 (gCons (gName i1) (gCons (gName i2) gNil))) tb nx rt σ H)) := by
  have step : ∀ (i : Nat) (x : V) (σ' : L2.St) (G' : Hp) (W' : Wl) (H' H'' : Hp), i < xs.length → Same G G' → Wd G' W' H' → I i σ' G' W' → YPair (fun i => some (.int (i : Nat))) (fun i => xs[i]?) i H' x H'' →
      gTup K 2 (gCons (gName i1) (gCons (gName i2) gNil)) x σ' H'' fun σ2 H2 => tb ⟨Btw I G (i + 1), rt, nx, Btw I G (i + 1)⟩ σ2 H2 := fun i x σ' G' W' H' H'' _ e w' h y => by
    obtain ⟨T, x1, x2, rfl, hn, rfl, e1, e2⟩ := y
    cases e1
    refine ⟨T, _, rfl, SqT.of upd_same, rfl, _, _, rfl, ?_⟩
    refine ⟨_, _, rfl, ?_⟩
    exact ⟨rfl, hs i x2 σ' G' _ W' _ e2 e h (same_upd (w'.free hn)) (w'.new hn)⟩
  rcases hx with hx | hx
  · exact ⟨a, xs, rfl, .inl ⟨seq_up w hx, loop_go walk_enum I w (fun _ _ _ e w' => seq_up w' (e.seq hx)) h0 step hd⟩⟩
  · exact ⟨a, xs, rfl, .inr ⟨tup_up w hx, loop_go walk_enumT I w (fun _ _ _ e w' => tup_up w' (seqT e hx)) h0 step hd⟩⟩
end

/-! ### a list or a tuple -/
def iSeqA (K : PySem.W.Frag) (tl : TE) : TI := fun σ H R => iList K tl σ H R ∨ iTup K tl σ H R
theorem pi_seqA {X : Cx} {tg l : Expr} {tl : TE} (h : PE X l tl) : PI X tg l (iSeqA X.K tl) := ⟨fun pins s σ H R I q => q.elim (fun q => (pi_list h).run pins s σ H R I q) fun q => (pi_tup h).run pins s σ H R I q⟩
section
variable {K : PySem.W.Frag} {σ : L2.St} {H G : Hp} {W : Wl} {nx : L2.St → Hp → Prop} {rt : VK} {g : TG} {tb : TS} {a : Addr} {xs : List V} {tl : TE} {tt : TT} {te : TE} {vs : List Nat} {Q : VK} {j : Nat}
theorem for_seq (ht : ∀ Q : VK, Q (.ref a) H → tl σ H Q) (hx : SqL K G a xs ∨ SqT K G a xs) (I : Nat → L2.St → Hp → Wl → Prop) (w : Wd G W H) (h0 : I 0 σ G W)
    (hs : ∀ i x σ' G' W' H', xs[i]? = some x → Same G G' → Wd G' W' H' → I i σ' G' W' → g x σ' H' fun σ2 H2 => tb ⟨Btw I G (i + 1), rt, nx, Btw I G (i + 1)⟩ σ2 H2)
    (hd : ∀ σ' G' W' H', Same G G' → Wd G' W' H' → I xs.length σ' G' W' → nx σ' H') : iSeqA K tl σ H fun J H1 => LoopQ J g tb nx rt σ H1 := by
  rcases hx with hx | hx
  · exact .inl (st_iList (ht _ (for_l hx I w h0 hs hd)))
  · exact .inr (st_iTup (ht _ (for_t hx I w h0 hs hd)))
theorem lc_t (hx : SqT K G a xs) (I : Nat → List V → Hp → Prop) (w : Wd G W H) (h0 : I 0 [] G) (hw : ∀ x, wipe ((wipe σ vs).set j x) vs = wipe σ vs)
    (hs : ∀ (i : Nat) x D G' H' acc, xs[i]? = some x → Same G G' → Wd G' ((D, Is (.lst acc)) :: W) H' → I i acc G' → tt ((wipe σ vs).set j (some x)) H' fun b H3 =>
      if b = true then te ((wipe σ vs).set j (some x)) H3 fun y H4 => ∃ acc, H4 D = some (.lst acc) ∧ acc.length < sizeLine ∧ LcB I G W D (i + 1) (upd H4 D (.lst (acc ++ [y]))) else LcB I G W D (i + 1) H3)
    (hd : ∀ D G' H' acc, Same G G' → Wd G' ((D, Is (.lst acc)) :: W) H' → I xs.length acc G' → Q (.ref D) H') : ∃ a', V.ref a = .ref a' ∧ (∃ xs, SqT K H a' xs) ∧ LcQ (Itt K a') (gName j) tt te vs σ H Q :=
  ⟨a, rfl, ⟨xs, tup_up w hx⟩, lc_go walk_tup I w (fun _ _ _ e w' => tup_up w' (seqT e hx)) h0 (fun i x D G' H' H'' acc _ e w' h y => by
    obtain ⟨rfl, y⟩ := y
    exact ⟨hw _, hs i x D G' H'' acc y e w' h⟩) hd⟩
theorem lc_seq (ht : ∀ Q : VK, Q (.ref a) H → tl σ H Q) (hx : SqL K G a xs ∨ SqT K G a xs) (I : Nat → List V → Hp → Prop) (w : Wd G W H) (h0 : I 0 [] G) (hw : ∀ x, wipe ((wipe σ vs).set j x) vs = wipe σ vs)
    (hs : ∀ (i : Nat) x D G' H' acc, xs[i]? = some x → Same G G' → Wd G' ((D, Is (.lst acc)) :: W) H' → I i acc G' → tt ((wipe σ vs).set j (some x)) H' fun b H3 =>
      if b = true then te ((wipe σ vs).set j (some x)) H3 fun y H4 => ∃ acc, H4 D = some (.lst acc) ∧ acc.length < sizeLine ∧ LcB I G W D (i + 1) (upd H4 D (.lst (acc ++ [y]))) else LcB I G W D (i + 1) H3)
    (hd : ∀ D G' H' acc, Same G G' → Wd G' ((D, Is (.lst acc)) :: W) H' → I xs.length acc G' → Q (.ref D) H') : iSeqA K tl σ H fun J H1 => LcQ J (gName j) tt te vs σ H1 Q := by
  rcases hx with hx | hx
  · exact .inl (st_iList (ht _ (lc_l hx I w h0 hw hs hd)))
  · exact .inr (st_iTup (ht _ (lc_t hx I w h0 hw hs hd)))
end
end Z

/-! defs that ask what guards stand around them (repr of data) -/
namespace Z
open PySem PySem.Spec PyProof.Rows L2
/-- a promise kept where no guard stands around -/
structure FnG (P : Program) (w : World) (K : PySem.W.Frag) (mg : Str → Option Value) (base : Heap) (k : Nat) (f : Addr) (fd : FuncData) (ps : List Str) (sp : Sp) : Prop where
  len : ∀ vs H Q E, sp vs H Q E → vs.length = ps.length
  run : ∀ (A : Around) (outer : List Env) (s : Shared) (H : Hp) (args : Args) (us : List Value) (vs : List V) (Q : VK) (E : XK), Room k A → A.guards = some [] → Env0 P w K mg base A outer s H → BindsTo s fd args (ps.zip us) → Vals vs us → sp vs H Q E →
    codeAny (model P w) A (.call (.ref f) args) (CR CX0 outer P w H s Q E) s
theorem FnG.of {P : Program} {w : World} {K : PySem.W.Frag} {mg : Str → Option Value} {base : Heap} {k : Nat} {f : Addr} {fd : FuncData} {ps : List Str} {sp : Sp} (F : FnOk P w K mg base CX0 k f fd ps sp) : FnG P w K mg base k f fd ps sp :=
  ⟨F.len, fun A outer s H args us vs Q E hr _ e0 hb r h => F.run A outer s H args us vs Q E hr e0 hb r h⟩
section
variable {P : Program} {w : World} {K : PySem.W.Frag} {mg : Str → Option Value} {base : Heap} {x qual : Str} {params : Arguments} {body : List Stmt} {scope : Scope} {dvs : List V} {kws : List (Str × V)} {f : Addr} {fd : FuncData}
theorem okG {N ps : List Str} {k : Nat} {sp : Sp} (F : FunD K x qual params body scope dvs kws f fd) (S : FnScope N ps scope) (len : ∀ vs H Q E, sp vs H Q E → vs.length = ps.length)
    (hbody : ∀ (cdv : Value) (A : Around) (outer : List Env) (s : Shared) (H : Hp) (vs : List V) (Q : VK) (E : XK), A.guards = some [] → Room k (A.deeper (envOfC qual scope s.heap.objs.size f cdv)) → sp vs H Q E →
      ∃ t, PSs (cxOf CX0 P w K mg base N qual scope f cdv A outer s H E).nox body t ∧ t { nx := fun _ H' => Q .non H', rt := Q } (start N vs) H) : FnG P w K mg base (k + 1) f fd ps sp := by
  obtain ⟨oc, od, dV, kV, doc, pm, an, cdv, ct, osl, rfl, lk, hcd, _, _⟩ := F.ex
  refine ⟨len, fun A outer s H args us vs Q E hr hgd e0 hb r hsp => ?_⟩
  have KX : K.In s.heap := e0.mod.kin.keeps fun b o e => (e0.bs b o e).1
  have kd : ∀ y ∈ ps.zip us, scope.names.lookup y.1 = some .local ∨ (scope.names.lookup y.1 = some .cell ∧ ((cellsFrom (s.heap.objs.size + 1) scope.names []).lookup y.1).isSome = true) := fun y hy =>
    (S.par y.1 (List.of_mem_zip (a := y.1) (b := y.2) hy).1).imp (fun q => q) fun q => ⟨q, PySem.W.cellsFrom_some _ _ _ (.inl q)⟩
  refine codeAny_call_function hr.depth (KX _ _ lk) rfl S.co S.gen rfl (PySem.W.codeRec_of KX hcd) (hb _ _ _ _ (wpAny_newFunctionEnv_cells S.kind kd fun env he s1 y => ?_))
  cases he
  obtain ⟨t, ht, hq⟩ := hbody cdv A outer s H vs Q E hgd (hr.deeper _) hsp
  refine ⟨(e0.mod.nolimit.keeps fun b o e => (e0.bs b o e).1).keeps y.toInCall.keep, codeAny_func (wpAny_mono (ht.nox.run [] s1 (start N vs) H _ (inv_start S hr.hd e0 (len _ _ _ _ hsp) r y) hq) (fun fl s' hs => ?_) fun e s' hs => hs)⟩
  cases fl with
  | ret u => exact let ⟨v, _, H', J, rv, q⟩ := hs; ⟨v, H', J.os, J.bare, J.base, J.hok, rv, q⟩
  | next => exact let ⟨_, H', J, q⟩ := hs; ⟨.non, H', J.os, J.bare, J.base, J.hok, rfl, q⟩
  | brk => exact let ⟨_, _, _, q⟩ := hs; False.elim q
  | cont => exact let ⟨_, _, _, q⟩ := hs; False.elim q
end
section
variable {X : Cx} {k n : Nat} {f : Addr} {fd : FuncData} {ps ks : List Str} {ds : List Value} {dvs : List V} {sp : Sp} {E : XK} {x : Str} {p pos : Pos} {e : Expr} {es : List Expr} {kws : List Keyword} {t tk : TA} {g : List Value → List Value → List Value} {gV : List V → List V → List V}
theorem run_fnG {pins : List (Addr × Obj)} {σ : L2.St} {H : Hp} {s : Shared} {Q : VK} {us : List Value} {vs : List V} (F : FnG X.prog X.w X.K X.mg X.base k f fd ps sp) (hr : Room k X.A) (hgd : X.A.guards = some []) (hb : Binds X.K fd ps ds) (hd : Vals dvs ds)
    (I : Inv X pins σ H s) (r : Vals vs us) (h : sp (vs ++ dvs) H Q E) : wpAny (model X.prog X.w) X.A (call (.ref f) us) (EP X pins σ Q) X.xe s := by
  have r2 := r.append hd
  refine wpAny_call (codeAny_mono (F.run X.A X.stack s H ⟨us, []⟩ _ _ Q E hr hgd I.env0 (hb s us I.kIn (r2.length.symm.trans (F.len _ _ _ _ h))) r2 h) fun r s' hq => ?_)
  cases r with
  | error e => exact False.elim hq
  | ok fl => cases fl with
    | ret u => exact I.after hq
    | _ => exact False.elim hq
theorem pe_callG (F : FnG X.prog X.w X.K X.mg X.base k f fd ps sp) (hr : Room k X.A) (hgd : X.A.guards = some []) (hg : Gl X x) (hm : X.mg x = some (.ref f)) (hk : PySem.W.keepIn X.K (.ref f) = true) (hb : Binds X.K fd ps ds) (hd : Vals dvs ds)
    (ha : PA X (e :: es) t) (hdb : (x == ("__debug__" : Str)) = false := by decide) (he : starEach (e :: es) X.env = (false, eval e X.env) :: starEach es X.env := by rfl) (hpl : (backTo pos (starEach es X.env)).any (·.1) = false := by rfl) :
    PE X (.Call (.Name x p) (e :: es) [] pos) (tCall sp dvs E0 t) :=
  ⟨fun pins s σ H Q I h => wpAny_Call_Name_kw (ld_glob I hg hm (PySem.W.callWith_K (h₀ := X.base) I.ok.mod.kin hk (thn (ha.run pos pins _ σ H _ (I.tok _) h) fun us s1 ⟨vs, H1, I1, r, q⟩ => ⟨I1.kIn, run_fnG (E := E0) F hr hgd hb hd I1 r q⟩) he hpl) hdb)⟩
/-- repr of data -/
def rRepr (K : PySem.W.Frag) : List V → Hp → VK → Prop := fun xs H Q => ∃ x d, xs = [x] ∧ Dp K H x d ∧ d.showable = true ∧ d.canLay0 = true ∧ d.depth ≤ 60 ∧ d.shown.length ≤ sizeLine ∧ Q (.str d.shown) H
theorem call_reprD (hgd : X.A.guards = some []) (hu : X.A.units + 64 < cLine) : CallR X (.builtin "repr") (rRepr X.K) := by
  intro pins s σ H xs us Q I r h
  obtain ⟨x, d, rfl, hd, hs, hc, hp, hz, q⟩ := h
  obtain ⟨u, rfl, rx⟩ := vals1 r
  obtain ⟨as, rd⟩ := Dp.reads I d x u hd rx
  cases hd with
  | non =>
    cases rx
    exact PySem.P.repr_of_none ⟨.str _, H, I.tok _, ⟨_, rfl⟩, q⟩
  | bl b =>
    cases rx
    refine PySem.P.repr_of_bool ⟨.str _, H, I.tok _, ⟨_, rfl⟩, ?_⟩
    simpa [PyData.shown] using q
  | int i =>
    obtain ⟨t, rfl⟩ := rx
    refine PySem.P.repr_of_int (by simpa [PyData.showable] using hs) ⟨.str _, H, I.tok _, ⟨_, rfl⟩, ?_⟩
    simpa [PyData.shown] using q
  | str z =>
    obtain ⟨t, rfl⟩ := rx
    refine PySem.P.repr_of_str ⟨.str _, H, I.tok _, ⟨_, rfl⟩, ?_⟩ (by simpa [PyData.shown] using hz)
    simpa [PyData.shown] using q
  | lst _ _ =>
    cases rx
    exact repr_of_reads' rd hs (PyData.noDict_hsm (PyData.hasDict_of_canLay _ hc)) hgd (by omega) (fun _ _ e => e) (fun h' u tk hk => ⟨.str _, H, I.kept (t' := tk) hk, ⟨_, rfl⟩, q⟩) hz
  | tup _ _ =>
    cases rx
    exact repr_of_reads' rd hs (PyData.noDict_hsm (PyData.hasDict_of_canLay _ hc)) hgd (by omega) (fun _ _ e => e) (fun h' u tk hk => ⟨.str _, H, I.kept (t' := tk) hk, ⟨_, rfl⟩, q⟩) hz
end

/-! ### lists of ints put together -/
section
variable {K : PySem.W.Frag} {G H : Hp} {W : Wl} {Q : VK} {a b : Addr}
/-- a list of ints that stands whole -/
def HL (G : Hp) (a : Addr) (ns : List Int) : Prop := G a = some (.lst (ns.map V.int))
theorem HL.seq {ns : List Int} (h : HL G a ns) : SqL K G a (ns.map V.int) := SqL.of h
theorem HL.up {G' : Hp} {ns : List Int} (h : HL G a ns) (e : Same G G') : HL G' a ns := e _ _ h
theorem st_catI {xs ys : List Int} (ha : H a = some (.lst (xs.map V.int))) (hb : H b = some (.lst (ys.map V.int))) (hz : xs.length + ys.length ≤ 1000000) (w : Wd G W H) (k : ∀ p G' H', Same G G' → Wd G' W H' → HL G' p (xs ++ ys) → Q (.ref p) H') : rCat (.ref a) (.ref b) H Q := by
  refine ⟨a, b, _, _, rfl, rfl, ha, hb, small (by rw [List.length_map, List.length_map]; exact hz), fun p hp => ?_⟩
  rw [← List.map_append]
  exact k p _ _ (same_upd (w.free hp)) (w.new hp) upd_same
theorem st_catV {xs ys : List V} (ha : H a = some (.lst xs)) (hb : H b = some (.lst ys)) (hz : xs.length + ys.length ≤ 1000000) (w : Wd G W H) (k : ∀ p G' H', Same G G' → Wd G' W H' → G' p = some (.lst (xs ++ ys)) → Q (.ref p) H') : rCat (.ref a) (.ref b) H Q :=
  ⟨a, b, _, _, rfl, rfl, ha, hb, small hz, fun p hp => k p _ _ (same_upd (w.free hp)) (w.new hp) upd_same⟩
theorem flat_rep {α : Type} (n : Nat) (x : α) : (List.replicate n [x]).flatten = List.replicate n x := by
  induction n with
  | zero => rfl
  | succ n ih => rw [List.replicate_succ, List.flatten_cons, ih]; rfl
theorem st_repI {x k : Int} (ha : H a = some (.lst [.int x])) (h0 : 0 ≤ k) (h1 : k ≤ 1000000) (w : Wd G W H) (q : ∀ p G' H', Same G G' → Wd G' W H' → HL G' p (List.replicate k.toNat x) → Q (.ref p) H') : rRep (.ref a) (.int k) H Q := by
  refine ⟨a, k, _, rfl, rfl, ha, by omega, by omega, small (by simp; omega), fun p hp => ?_⟩
  rw [flat_rep]
  exact q p _ _ (same_upd (w.free hp)) (w.new hp) (by unfold HL; rw [upd_same, List.map_replicate])
theorem st_repI2 {xs : List Int} {k : Int} (ha : H a = some (.lst (xs.map V.int))) (h0 : 0 ≤ k) (h1 : xs.length * k.toNat ≤ 1000000) (h2 : k ≤ 1000000) (w : Wd G W H) (q : ∀ p G' H', Same G G' → Wd G' W H' → HL G' p (List.replicate k.toNat xs).flatten → Q (.ref p) H') : rRep (.ref a) (.int k) H Q := by
  refine ⟨a, k, _, rfl, rfl, ha, by omega, by omega, small (by rw [List.length_map]; exact h1), fun p hp => ?_⟩
  exact q p _ _ (same_upd (w.free hp)) (w.new hp) (by unfold HL; rw [upd_same, List.map_flatten, List.map_replicate])
theorem iteBT {c : Bool} {a b : Prop} (h : c = true) (q : a) : if c = true then a else b := by rw [if_pos h]; exact q
theorem iteBF {c : Bool} {a b : Prop} (h : c = false) (q : b) : if c = true then a else b := by rw [h]; exact L2.iteF q
theorem iteNT {a b : Prop} (h : a) : if (!false) = true then a else b := L2.iteT h
theorem iteNF {a b : Prop} (h : b) : if (!true) = true then a else b := L2.iteF h
theorem mem_two {v x y : V} {P : V → Prop} (h : v ∈ [x, y]) (h1 : P x) (h2 : P y) : P v := by
  rcases List.mem_cons.mp h with rfl | h
  · exact h1
  · rcases List.mem_cons.mp h with rfl | h
    · exact h2
    · exact nomatch h
end
section
variable {K : PySem.W.Frag} {H : Hp}
def dT (ns : List Int) : PyData := .tuple (ns.map .int)
theorem dp_tints {a : Addr} {ns : List Int} (h : SqT K H a (ns.map V.int)) : Dp K H (.ref a) (dT ns) := .tup h (dpInts ns)
theorem sh_tints (ns : List Int) : Sh 1 (dT ns) := Sh.tuple fun d hd => by
  obtain ⟨n, _, rfl⟩ := List.mem_map.mp hd
  exact .int n
theorem eqv_dT (a b : List Int) : PyData.eqv (dT a) (dT b) = decide (a = b) := by
  unfold dT PyData.eqv
  exact eqvAll_map _ eqv_int a b
/-- tuples of ints -/
theorem st_eqT {Q : VK} {a b : Addr} (xs ys : List Int) (hx : SqT K H a (xs.map V.int)) (hy : SqT K H b (ys.map V.int)) (q : Q (.bl (decide (xs = ys))) H) : rEqD K (.ref a) (.ref b) H Q :=
  st_eqD (dp_tints hx) (dp_tints hy) ((sh_tints xs).ok (by decide)) ((sh_tints ys).ok (by decide)) (eqv_dT xs ys) q
theorem st_neT {Q : VK} {a b : Addr} (xs ys : List Int) (hx : SqT K H a (xs.map V.int)) (hy : SqT K H b (ys.map V.int)) (q : Q (.bl (!decide (xs = ys))) H) : rNeD K (.ref a) (.ref b) H Q :=
  st_neD (dp_tints hx) (dp_tints hy) ((sh_tints xs).ok (by decide)) ((sh_tints ys).ok (by decide)) (eqv_dT xs ys) q
end
/-- all of a list -/
def AllP {α : Type} (P : α → Prop) : List α → Prop
  | [] => True
  | x :: xs => P x ∧ AllP P xs
theorem AllP.app {α : Type} {P : α → Prop} : ∀ {xs ys : List α}, AllP P xs → AllP P ys → AllP P (xs ++ ys)
  | [], _, _, h => h
  | _ :: _, _, h, h2 => ⟨h.1, AllP.app h.2 h2⟩
theorem AllP.of {α : Type} {P : α → Prop} : ∀ {xs : List α}, AllP P xs → ∀ x ∈ xs, P x
  | _ :: _, h, _, hx => by
    rcases List.mem_cons.mp hx with rfl | hx
    · exact h.1
    · exact AllP.of h.2 _ hx
/-! ### comprehensions whose elements change what may change -/
section
variable {K : PySem.W.Frag} {σ : L2.St} {H G : Hp} {D : Addr} {g : TG} {tt : TT} {te : TE} {vs : List Nat} {Q : VK} {a b : Addr} {xs ys : List V} {n : Nat}
theorem lc_goW {J : It} {Gp : Hp → Prop} {Y : Nat → Hp → V → Hp → Prop} (wk : Walk J n Gp Y) (Wf : Nat → Wl) (I : Nat → List V → Hp → Prop) (w : Wd G (Wf 0) H) (hG : ∀ G' W' H', Same G G' → Wd G' W' H' → Gp H') (h0 : I 0 [] G)
    (hs : ∀ i x D G' H' H'' acc, i < n → Same G G' → Wd G' ((D, Is (.lst acc)) :: Wf i) H' → I i acc G' → Y i H' x H'' → g x (wipe σ vs) H'' fun σ2 H2 => wipe σ2 vs = wipe σ vs ∧ tt σ2 H2 fun b H3 =>
      if b = true then te σ2 H3 fun y H4 => ∃ acc, H4 D = some (.lst acc) ∧ acc.length < sizeLine ∧ LcB I G (Wf (i + 1)) D (i + 1) (upd H4 D (.lst (acc ++ [y]))) else LcB I G (Wf (i + 1)) D (i + 1) H3)
    (hd : ∀ D G' H' acc, Same G G' → Wd G' ((D, Is (.lst acc)) :: Wf n) H' → I n acc G' → Q (.ref D) H') : LcQ J g tt te vs σ H Q := fun D hD =>
  lc_it wk (fun i => LcB I G (Wf i) D i) ⟨G, [], Same.refl _, w.newM hD rfl, h0⟩ (fun _ _ _ ⟨_, _, e, w', _⟩ => hG _ _ _ e w') (fun i x H' H'' hi ⟨G', acc, e, w', h⟩ y => hs i x D G' H' H'' acc hi e w' h y) fun H' ⟨G', acc, e, w', h⟩ => hd D G' H' acc e w' h
theorem lc_r1W {z : Int} {j : Nat} (hz : -(2 ^ 62) ≤ z ∧ z < 2 ^ 62) (Wf : Nat → Wl) (I : Nat → List V → Hp → Prop) (w : Wd G (Wf 0) H) (h0 : I 0 [] G) (hw : ∀ x, wipe ((wipe σ vs).set j x) vs = wipe σ vs)
    (hs : ∀ (i : Nat) D G' H' acc, (i : Int) < z → Same G G' → Wd G' ((D, Is (.lst acc)) :: Wf i) H' → I i acc G' → tt ((wipe σ vs).set j (some (.int (i : Int)))) H' fun b H3 =>
      if b = true then te ((wipe σ vs).set j (some (.int (i : Int)))) H3 fun y H4 => ∃ acc, H4 D = some (.lst acc) ∧ acc.length < sizeLine ∧ LcB I G (Wf (i + 1)) D (i + 1) (upd H4 D (.lst (acc ++ [y]))) else LcB I G (Wf (i + 1)) D (i + 1) H3)
    (hd : ∀ D G' H' acc, Same G G' → Wd G' ((D, Is (.lst acc)) :: Wf z.toNat) H' → I z.toNat acc G' → Q (.ref D) H') : ∃ j' : Int, [V.int z] = [.int j'] ∧ -(2 ^ 62) ≤ j' ∧ j' < 2 ^ 62 ∧ LcQ (Itr 0 j'.toNat) (gName j) tt te vs σ H Q :=
  ⟨z, rfl, hz.1, hz.2, lc_goW walk_range Wf I w (fun _ _ _ _ _ => trivial) h0 (fun i x D G' H' H'' acc hi e w' h y => by
    obtain ⟨rfl, rfl⟩ := y
    have e0 : (0 : Int) + (i : Int) = (i : Int) := Int.zero_add _
    dsimp only
    rw [e0]
    exact ⟨hw _, hs i D G' H'' acc (by omega) e w' h⟩) hd⟩
end
section
variable {K : PySem.W.Frag} {σ : L2.St} {H G : Hp} {W : Wl} {Q : VK} {a b : Addr} {xs ys : List V}
theorem st_chain {r r' : R2} {ta tb tc : TE} (h : ta σ H fun x H1 => tb σ H1 fun y H2 => r x y H2 fun z H3 => ∃ k, z = .bl k ∧ (if k = true then tc σ H3 fun w' H4 => r' y w' H4 Q else Q (.bl false) H3)) : tChain r r' ta tb tc σ H Q := h
theorem st_gtup {n : Nat} {t : TGs} {QS : L2.St → Hp → Prop} (hx : SqT K H a xs) (hl : xs.length = n) (h : t xs σ H QS) : gTup K n t (.ref a) σ H QS := ⟨a, xs, rfl, hx, hl, h⟩
theorem st_gcons {v : V} {r : List V} {t : TG} {u : TGs} {QS : L2.St → Hp → Prop} (h : t v σ H fun σ' H' => u r σ' H' QS) : gCons t u (v :: r) σ H QS := ⟨v, r, rfl, h⟩
theorem st_gnil {QS : L2.St → Hp → Prop} (h : QS σ H) : gNil [] σ H QS := ⟨rfl, h⟩
theorem Wd.is1 {o : HO} (w : Wd G ((a, Is o) :: W) H) : H a = some o := by
  obtain ⟨o', h, rfl⟩ := w.get List.mem_cons_self
  exact h
theorem st_appL {y : V} (h : H a = some (.lst xs)) (hl : xs.length < 1000000) (q : Q .non (upd H a (.lst (xs ++ [y])))) : rAppend (.ref a) [y] H Q := ⟨a, xs, y, rfl, rfl, h, small' (Nat.le_of_lt hl), q⟩
theorem st_sl {r : V → Option Int → Option Int → Hp → VK → Prop} {te : TE} {tl th : TO} (h : te σ H fun x H1 => tl σ H1 fun l H2 => th σ H2 fun u H3 => r x l u H3 Q) : tSl r te tl th σ H Q := h
theorem st_noPart {Q : Option Int → Hp → Prop} (q : Q none H) : tNoPart σ H Q := q
theorem st_part {Q : Option Int → Hp → Prop} {t : TE} (h : t σ H fun x H1 => ∃ i, x = .int i ∧ Q (some i) H1) : tPart t σ H Q := h
theorem cut_lo {xs : List V} {i : Int} (h0 : 0 ≤ i) (h1 : i ≤ xs.length) : cutV xs none (some i) = xs.take i.toNat := by
  unfold cutV
  simp only [HT.sIx, if_neg (show ¬ i < 0 by omega)]
  rw [List.drop_zero, Nat.sub_zero, Nat.min_eq_left (by omega)]
theorem cut_hi {xs : List V} {i : Int} (h0 : 0 ≤ i) (h1 : i ≤ xs.length) : cutV xs (some i) none = xs.drop i.toNat := by
  unfold cutV
  simp only [HT.sIx, if_neg (show ¬ i < 0 by omega)]
  rw [Nat.min_eq_left (by omega), List.take_of_length_le]
  rw [List.length_drop]
  omega
theorem st_slL {lo hi : Option Int} (h : SqL K H a xs) (w : Wd G W H) (q : ∀ p G' H', Same G G' → Wd G' W H' → G' p = some (.lst (cutV xs lo hi)) → Q (.ref p) H') : rSlL K (.ref a) lo hi H Q := ⟨a, xs, rfl, h, NewO.good w q⟩
theorem dw_ok {i j : Int} (h0 : 0 < j) (h1 : j < 2 ^ 250) : CDivW i j := by
  have h2 : j.natAbs.log2 < 250 := (Nat.log2_lt (by omega)).mpr (by omega)
  exact ⟨h0, by omega⟩
theorem pw_ok {i j : Int} (h0 : 0 ≤ i) (h1 : i < 2 ^ 100) (h2 : 0 ≤ j) (h3 : j ≤ 1000) : CPowW i j := by
  refine ⟨h2, ?_⟩
  have h4 : Builtin.Int.intBits i ≤ 100 := PyProof.Rows.intBits_le (by omega)
  have h5 : (Builtin.Int.intBits i : Int) ≤ 100 := by omega
  have h6 := Int.mul_le_mul h5 h3 h2 (by decide)
  omega
end
/-! ### the law itself -/
section
variable {P : Program} {w : World} {K : PySem.W.Frag} {mg mb : Str → Option Value} {k : Nat} {fa a : Addr} {fd : FuncData} {x : Str} {sp : Sp} {s₁ : Shared} {vs : List Value} {ns : List Int}
/-- the heap behind the top without what H tells -/
theorem hid_ns {h : Heap} {H : Hp} {b : Addr} {m : Str → Option Value} {va : Array Value} (hA : ∀ b, H b ≠ none → b = a) (ha : h.get? a = some { cls := .type "list", data := .seq va }) (n : h.Ns b m) : (hidT h H).Ns b m := by
  obtain ⟨o, es, ep, e, d, r⟩ := n
  refine ⟨o, es, ep, hidT_get e ?_, d, r⟩
  cases q : H b with
  | none => rfl
  | some u =>
    rw [hA b (by rw [q]; exact fun z => nomatch z), ha] at e
    have e2 := Option.some.inj e
    rw [← e2] at d
    exact nomatch d
theorem law_core (KX : K.In s₁.heap) (hns : s₁.heap.Ns mainGlobals mg) (hb : s₁.heap.Ns builtinsNs mb) (hbb : ∀ x : Str, x ≠ "__name__" → mb x = bootBuiltins x) (hlim : s₁.heap.NoLimit) (hg : s₁.gens = #[])
    (ha : s₁.heap.get? a = some { cls := .type "list", data := .seq vs.toArray }) (hr : Room k callerA) (F : ∀ base : Heap, K.In base → base.Ns mainGlobals mg → FnG P w K mg base k fa fd [x] sp) (hbind : ∀ (s : Shared) (u : Value), BindsTo s fd ⟨[u], []⟩ [(x, u)])
    {H : Hp} (hO : Only H) (hsp : sp [.ref a] H (fun v _ => v = .bl true) fun _ _ _ => False) (hok : HOk P w H s₁.heap) (hA : ∀ b, H b ≠ none → b = a) (hK : H a ≠ none → K.lookup a = none) :
    codeAny (model P w) callerA (.call (.ref fa) ⟨[.ref a], []⟩) (fun r s' => r = .ok (.ret (.bool true)) ∧ OldK s₁.heap s'.heap ∧ s'.os = s₁.os ∧ AllBare s'.gens) s₁ := by
  have hKb : K.In (hidT s₁.heap H) := fun b o e => hidT_get (KX b o e) (by
    cases q : H b with
    | none => rfl
    | some u =>
      have n : H b ≠ none := by rw [q]; exact fun z => nomatch z
      have eb := hA b n
      rw [eb] at n e
      rw [hK n] at e
      exact nomatch e)
  have M : Mod K mg (hidT s₁.heap H) := ⟨hKb, hid_ns hA ha hns, ⟨mb, hid_ns hA ha hb, hbb⟩, let ⟨mc, h1, h2⟩ := hlim; ⟨mc, hid_ns hA ha h1, h2⟩⟩
  have e0 : Env0 P w K mg (hidT s₁.heap H) callerA [] s₁ H := ⟨rfl, M, fun b o e => of_hidT e, Nat.le_of_eq (hidT_size _ _), trivial, fun b z => (List.not_mem_nil z).elim, hok, .of_eq hg⟩
  refine codeAny_mono ((F _ hKb (hid_ns hA ha hns)).run callerA [] s₁ H ⟨[.ref a], []⟩ [.ref a] [.ref a] _ _ hr rfl e0 (hbind s₁ (.ref a)) (.cons rfl .nil) hsp) fun r s' h => ?_
  cases r with
  | error e => exact False.elim h
  | ok fl => cases fl with
    | ret u =>
      obtain ⟨v, H', os, bare, un, hok', r', q⟩ := h
      cases (show v = .bl true from q)
      cases (show u = Value.bool true from r')
      refine ⟨rfl, OldK.of_keep fun b o e => ?_, os, bare⟩
      cases z : H b with
      | none => exact un.keep b o e z (List.not_mem_nil) (List.not_mem_nil)
      | some u =>
        rcases hO b with y | ⟨ob, xs, y⟩
        · rw [z] at y
          cases y
        · have e1 := (hok b _ y).1
          have e2 := (hok' b _ (un.frzs b ob _ y)).1
          rw [e] at e1
          cases e1
          exact e2
    | _ => exact False.elim h
theorem law_callG (KX : K.In s₁.heap) (hns : s₁.heap.Ns mainGlobals mg) (hb : s₁.heap.Ns builtinsNs mb) (hbb : ∀ x : Str, x ≠ "__name__" → mb x = bootBuiltins x) (hlim : s₁.heap.NoLimit) (hg : s₁.gens = #[])
    (ha : s₁.heap.get? a = some { cls := .type "list", data := .seq vs.toArray }) (hi : IntsAre vs ns) (hl : ns.length ≤ sizeLine) (hr : Room k callerA) (F : ∀ base : Heap, K.In base → base.Ns mainGlobals mg → FnG P w K mg base k fa fd [x] sp)
    (hbind : ∀ (s : Shared) (u : Value), BindsTo s fd ⟨[u], []⟩ [(x, u)]) (hsp : ∀ H : Hp, Only H → SqL K H a (ns.map V.int) → sp [.ref a] H (fun v _ => v = .bl true) fun _ _ _ => False) :
    codeAny (model P w) callerA (.call (.ref fa) ⟨[.ref a], []⟩) (fun r s' => r = .ok (.ret (.bool true)) ∧ OldK s₁.heap s'.heap ∧ s'.os = s₁.os ∧ AllBare s'.gens) s₁ := by
  have rv := vals_ints hi
  cases hk : K.lookup a with
  | some o =>
    have e := KX a o hk
    rw [ha] at e
    cases e
    have hO : Only fun _ => none := fun _ => .inl rfl
    exact law_core KX hns hb hbb hlim hg ha hr F hbind hO (hsp _ hO (.inr ⟨_, vs.toArray, _, hk, rfl, rfl, rfl, by rw [List.size_toArray, hi.length]; exact hl, by simpa using rv⟩)) (fun b u z => nomatch z) (fun b z => (z rfl).elim) fun z => (z rfl).elim
  | none =>
    have hO : Only fun b => if b = a then some (.frz { cls := .type "list", data := .seq vs.toArray } (.lst (ns.map V.int))) else none := fun b => by
      by_cases z : b = a
      · exact .inr ⟨_, _, if_pos z⟩
      · exact .inl (if_neg z)
    refine law_core KX hns hb hbb hlim hg ha hr F hbind hO (hsp _ hO (.inl (.inr ⟨_, if_pos rfl⟩))) (fun b u z => ?_) (fun b z => ?_) fun _ => hk
    · by_cases y : b = a
      · have z2 := (if_pos y).symm.trans z
        cases z2
        cases y
        exact ⟨ha, by rw [List.length_map]; exact hl, vs, _, rv, ha⟩
      · exact nomatch (if_neg y).symm.trans z
    · exact Decidable.byContradiction fun y => z (if_neg y)
end
theorem walk_G {l : PySem.W.OpenLaw} {n k : Nat} {q : Program} {loose : List Str} {XP : (Str → Option Value) → Heap → Prop} {YP : World → Heap → Prop} {d : DefRec} {K : Params → PySem.W.Frag} {sp : World → Sp} {x : Str} (hn : l.most = some n) (hn2 : n ≤ sizeLine) (hdf : d.params.defaults = [])
    (hr : Room k callerA) (hY : ∀ (w : World) (h : Heap), YP w h → (K w.params).In h)
    (F : ∀ (w : World) (mg : Str → Option Value) (fa : Addr) (h : Heap), (K w.params).In h → h.Ns mainGlobals mg → mg d.name = some (.ref fa) →
      ∃ fd : FuncData, (∀ (s : Shared) (u : Value), BindsTo s fd ⟨[u], []⟩ [(x, u)]) ∧ ∀ base : Heap, (K w.params).In base → base.Ns mainGlobals mg → FnG l.prog w (K w.params) mg base k fa fd [x] (sp w))
    (hsp : ∀ (w : World) (H : Hp) (a : Addr) (ns : List Int), ns.length ≤ n → Only H → SqL (K w.params) H a (ns.map V.int) → sp w [.ref a] H (fun v _ => v = .bl true) fun _ _ _ => False) :
    PySem.W.WalkO q loose XP YP l.row.toRowW d [] (fun f vs => PySem.call f vs) := by
  refine Att.attach_call hn hdf fun w s₀ s₁ mg mb fa o pm cd doc a vs ns G Y ho hd hcd hmg hobj hints hlen hg => ?_
  obtain ⟨fd, hb, hF⟩ := F w mg fa _ (hY w _ Y) G.T.g hmg
  exact law_callG (hY w _ Y) G.T.g G.T.b G.T.builtins G.T.nolimit hg hobj hints (Nat.le_trans hlen hn2) hr hF hb fun H hO hS => hsp w H a ns hlen hO hS
end Z

/-! data of a small size: kinds, repr, places in lists -/
namespace Z
open PySem PySem.Spec PyProof.Rows L2
/-- data whose repr may be asked: n deep -/
def Od (n : Nat) (d : PyData) : Prop := (d.canLay0 && d.showable && d.intsShort 60) = true ∧ d.depth ≤ n ∧ d.weight ≤ 200 * 10 ^ n
instance (n : Nat) (d : PyData) : Decidable (Od n d) := by unfold Od; infer_instance
theorem Od.mono {m n : Nat} {d : PyData} (h : Od m d) (e : m ≤ n) : Od n d := ⟨h.1, Nat.le_trans h.2.1 e, Nat.le_trans h.2.2 (Nat.mul_le_mul_left _ (Nat.pow_le_pow_right (by decide) e))⟩
theorem od_all {n : Nat} : ∀ {ds : List PyData}, (∀ d ∈ ds, Od n d) → (PyData.canLayAll0 ds && PyData.showableAll ds && PyData.intsShortAll 60 ds) = true ∧ PyData.depthAll ds ≤ n ∧ PyData.weightAll ds ≤ ds.length * (200 * 10 ^ n + 1)
  | [], _ => ⟨rfl, Nat.zero_le _, Nat.zero_le _⟩
  | d :: ds, h => by
    obtain ⟨a1, a2, a3⟩ := h d List.mem_cons_self
    obtain ⟨b1, b2, b3⟩ := od_all (ds := ds) fun x hx => h x (List.mem_cons_of_mem _ hx)
    simp only [Bool.and_eq_true] at a1 b1
    refine ⟨?_, ?_, ?_⟩
    · unfold PyData.canLayAll0 PyData.showableAll PyData.intsShortAll
      rw [a1.1.1, a1.1.2, a1.2, b1.1.1, b1.1.2, b1.2]
      rfl
    · unfold PyData.depthAll
      exact Nat.max_le.mpr ⟨a2, b2⟩
    · unfold PyData.weightAll
      rw [List.length_cons, Nat.add_mul]
      omega
theorem od_weight {n k : Nat} (h : k ≤ 9) : k * (200 * 10 ^ n + 1) ≤ 200 * 10 ^ (n + 1) := by
  have h1 : 1 ≤ 10 ^ n := Nat.pow_pos (by decide)
  have h2 : k * (200 * 10 ^ n + 1) ≤ 9 * (200 * 10 ^ n + 1) := Nat.mul_le_mul_right _ h
  rw [Nat.pow_succ]
  omega
theorem Od.list {n : Nat} {ds : List PyData} (h : ∀ d ∈ ds, Od n d) (hl : ds.length ≤ 9) : Od (n + 1) (.list ds) := by
  obtain ⟨a, b, c⟩ := od_all h
  refine ⟨?_, ?_, ?_⟩
  · unfold PyData.canLay0 PyData.showable PyData.intsShort
    exact a
  · unfold PyData.depth
    exact Nat.succ_le_succ b
  · unfold PyData.weight
    exact Nat.le_trans c (od_weight hl)
theorem Od.tuple {n : Nat} {ds : List PyData} (h : ∀ d ∈ ds, Od n d) (hl : ds.length ≤ 9) : Od (n + 1) (.tuple ds) := by
  obtain ⟨a, b, c⟩ := od_all h
  refine ⟨?_, ?_, ?_⟩
  · unfold PyData.canLay0 PyData.showable PyData.intsShort
    exact a
  · unfold PyData.depth
    exact Nat.succ_le_succ b
  · unfold PyData.weight
    exact Nat.le_trans c (od_weight hl)
/-- a longer list, its elements light -/
theorem weightAll_le {w0 : Nat} : ∀ {ds : List PyData}, (∀ d ∈ ds, d.weight ≤ w0) → PyData.weightAll ds ≤ ds.length * (w0 + 1)
  | [], _ => Nat.zero_le _
  | d :: ds, h => by
    have h1 := h d List.mem_cons_self
    have h2 := weightAll_le (ds := ds) fun x hx => h x (List.mem_cons_of_mem _ hx)
    unfold PyData.weightAll
    rw [List.length_cons, Nat.add_mul]
    omega
theorem Od.listW {n w0 : Nat} {ds : List PyData} (h : ∀ d ∈ ds, Od n d) (hw : ∀ d ∈ ds, d.weight ≤ w0) (hl : ds.length * (w0 + 1) ≤ 200 * 10 ^ (n + 1)) : Od (n + 1) (.list ds) ∧ (PyData.list ds).weight ≤ ds.length * (w0 + 1) := by
  obtain ⟨a, b, c⟩ := od_all h
  refine ⟨⟨?_, ?_, ?_⟩, ?_⟩
  · unfold PyData.canLay0 PyData.showable PyData.intsShort
    exact a
  · unfold PyData.depth
    exact Nat.succ_le_succ b
  · unfold PyData.weight
    exact Nat.le_trans (weightAll_le hw) hl
  · unfold PyData.weight
    exact weightAll_le hw
theorem log_lt {i : Int} {k : Nat} (h : i.natAbs < 2 ^ k) (h0 : 0 < k) : i.natAbs.log2 < k := by
  by_cases e : i.natAbs = 0
  · rw [e]
    exact h0
  · exact (Nat.log2_lt e).mpr h
theorem short13 {i : Int} (h : -999999999999 < i ∧ i < 999999999999) : (PyData.shown (.int i)).length ≤ 13 := by
  have h2 := intsShort_of_noneOrIn (lo := -999999999999) (hi := 999999999999) (by decide) (by decide) (.int i) (by simp [noneOrIn, h])
  unfold PyData.intsShort at h2
  exact of_decide_eq_true h2
theorem Od.int {n : Nat} {i : Int} (h : -999999999999 < i ∧ i < 999999999999) : Od n (.int i) := by
  have hl : i.natAbs.log2 < 64 := log_lt (by omega) (by decide)
  refine ⟨?_, ?_, ?_⟩
  · unfold PyData.canLay0 PyData.showable PyData.intsShort
    rw [decide_eq_true (show i.natAbs.log2 < 1920 by omega), decide_eq_true (Nat.le_trans (short13 h) (by decide))]
    rfl
  · unfold PyData.depth
    exact Nat.zero_le _
  · have h1 : 1 ≤ 10 ^ n := Nat.pow_pos (by decide)
    unfold PyData.weight
    split <;> omega
theorem Od.bool {n : Nat} (b : Bool) : Od n (.bool b) := (show Od 0 (.bool b) by cases b <;> decide).mono (Nat.zero_le _)
theorem strOk_of (s : String) : PyData.strOk (Str.ofString s) = true := by
  rw [Str.ofString_eq_toList]
  unfold PyData.strOk
  rw [List.all_toArray, List.all_eq_true]
  intro n hn
  obtain ⟨c, _, rfl⟩ := List.mem_map.mp hn
  refine decide_eq_true ?_
  rcases c.valid with h | h
  · exact Nat.lt_trans (show c.toNat < 55296 from h) (by decide)
  · exact h.2
theorem Od.strInt {n : Nat} {i : Int} (h : -999999999999 < i ∧ i < 999999999999) : Od n (.str (toString i)) := by
  have h2 : ((toString i : Str)).length ≤ 13 := by
    have := short13 h
    unfold PyData.shown at this
    exact this
  refine ⟨?_, ?_, ?_⟩
  · unfold PyData.canLay0 PyData.showable PyData.intsShort
    rw [strOk_of]
    rfl
  · unfold PyData.depth
    exact Nat.zero_le _
  · have h1 : 1 ≤ 10 ^ n := Nat.pow_pos (by decide)
    unfold PyData.weight
    have h3 : (toString i : Str).cps.size = (toString i : Str).length := rfl
    omega
theorem Od.rep {n : Nat} {d : PyData} (h : Od n d) (hn : n ≤ 3) : d.showable = true ∧ d.canLay0 = true ∧ d.depth ≤ 60 ∧ d.shown.length ≤ sizeLine := by
  obtain ⟨a, b, c⟩ := h
  simp only [Bool.and_eq_true] at a
  refine ⟨a.1.2, a.1.1, by omega, ?_⟩
  have h1 := PyData.shown_le 60 (by decide) d (PyData.leavesShort_of_canLay0 60 d a.1.1 a.2)
  have h2 : 10 ^ n ≤ 10 ^ 3 := Nat.pow_le_pow_right (by decide) hn
  have h3 : sizeLine = 16777216 := by decide
  omega
section
variable {X : Cx} {K : PySem.W.Frag} {G H : Hp} {x : V} {d : PyData} {Q : VK}
theorem st_repr {n : Nat} (h : Dp K H x d) (o : Od n d) (hn : n ≤ 3) (q : Q (.str d.shown) H) : rRepr K [x] H Q := let ⟨h1, h2, h3, h4⟩ := o.rep hn; ⟨x, d, rfl, h, h1, h2, h3, h4, q⟩
def nm : PyData → String
  | .none => "NoneType"
  | .bool _ => "bool"
  | .int _ => "int"
  | .str _ => "str"
  | .list _ => "list"
  | .tuple _ => "tuple"
  | .dict _ => "dict"
theorem dp_ty (h : Dp K H x d) : TyX K H x (.type (nm d)) := by
  cases h with
  | non => exact .base .non
  | bl b => exact .base (.bl b)
  | int i => exact .base (.int i)
  | str s => exact .base (.str s)
  | lst h _ => exact tyL h
  | tup h _ => exact tyT h
theorem dp_knd (h : Dp K H x d) : Knd K H x := by
  cases h with
  | non => exact .non
  | bl b => exact .bl b
  | int i => exact .int i
  | str s => exact .str s
  | lst h _ => exact .lst h
  | tup h _ => exact .tup h
def isTup : PyData → Bool
  | .tuple _ => true
  | _ => false
def isLst : PyData → Bool
  | .list _ => true
  | _ => false
def isI : PyData → Bool
  | .int _ => true
  | _ => false
def inR (lo hi : Int) : PyData → Bool
  | .int i => decide (lo ≤ i) && decide (i ≤ hi)
  | _ => false
theorem isInt_d (h : Dp K H x d) : isInt x = isI d := by cases h <;> rfl
theorem inRange_d {lo hi : Int} (h : Dp K H x d) : inRange lo hi x = inR lo hi d := by cases h <;> rfl
theorem isiD {T : String} {b : Bool} (h : Dp K H x d) (e : kitB (nm d) T = some b) (q : Q (.bl b) H) : rIsi K [x, .ty T] H Q := ⟨_, _, _, _, b, rfl, .ty _, dp_ty h, kit_ty e, q⟩
theorem kit_tup : kitB (nm d) "tuple" = some (isTup d) := by
  cases d with
  | none => exact (show kitB "NoneType" "tuple" = some false by decide +kernel)
  | bool b => exact (show kitB "bool" "tuple" = some false by decide +kernel)
  | int b => exact (show kitB "int" "tuple" = some false by decide +kernel)
  | str b => exact (show kitB "str" "tuple" = some false by decide +kernel)
  | list b => exact (show kitB "list" "tuple" = some false by decide +kernel)
  | tuple b => exact (show kitB "tuple" "tuple" = some true by decide +kernel)
  | dict b => exact (show kitB "dict" "tuple" = some false by decide +kernel)
theorem kit_lst : kitB (nm d) "list" = some (isLst d) := by
  cases d with
  | none => exact (show kitB "NoneType" "list" = some false by decide +kernel)
  | bool b => exact (show kitB "bool" "list" = some false by decide +kernel)
  | int b => exact (show kitB "int" "list" = some false by decide +kernel)
  | str b => exact (show kitB "str" "list" = some false by decide +kernel)
  | list b => exact (show kitB "list" "list" = some true by decide +kernel)
  | tuple b => exact (show kitB "tuple" "list" = some false by decide +kernel)
  | dict b => exact (show kitB "dict" "list" = some false by decide +kernel)
theorem isiLT {p : Addr} (hp : H p = some (.tup [.ty "list", .ty "tuple"])) (h : Dp K H x d) (q : Q (.bl (isLst d || isTup d)) H) : rIsiT K [x, .ref p] H Q := by
  refine ⟨_, p, _, _, _, isLst d || isTup d, rfl, hp, .cons (.ty _) (.cons (.ty _) .nil), dp_ty h, ?_, q⟩
  refine kB (r := isLst d) kit_lst (fun e => ?_) (fun e => by rw [e]; rfl)
  refine kB (r := isTup d) kit_tup (fun e2 => ?_) (fun e2 => by rw [e, e2]; rfl)
  rw [e, e2]
  rfl
end
section
variable {K : PySem.W.Frag} {G G' H : Hp} {W : Wl} {Q : VK} {v : V} {xs : List V} {n : Nat}
def SomeN (n : Nat) (K : PySem.W.Frag) (G : Hp) (v : V) : Prop := ∃ d, Dp K G v d ∧ Od n d
theorem SomeN.up (e : Same G G') (h : SomeN n K G v) : SomeN n K G' v := let ⟨d, h1, h2⟩ := h; ⟨d, dmono e h1, h2⟩
theorem SomeN.mono {m : Nat} (h : SomeN n K G v) (e : n ≤ m) : SomeN m K G v := let ⟨d, h1, h2⟩ := h; ⟨d, h1, h2.mono e⟩
theorem AllP.mk {α : Type} {P : α → Prop} : ∀ {xs : List α}, (∀ x ∈ xs, P x) → AllP P xs
  | [], _ => trivial
  | x :: _, h => ⟨h x List.mem_cons_self, AllP.mk fun y hy => h y (List.mem_cons_of_mem _ hy)⟩
theorem allN {n : Nat} : ∀ {xs : List V}, AllP (SomeN n K G) xs → ∃ ds, DpAll K G xs ds ∧ (∀ d ∈ ds, Od n d) ∧ ds.length = xs.length
  | [], _ => ⟨[], .nil, (fun _ h => nomatch h), rfl⟩
  | x :: xs, h => by
    obtain ⟨d, h1, h2⟩ := h.1
    obtain ⟨ds, h3, h4, h5⟩ := allN h.2
    refine ⟨d :: ds, .cons h1 h3, fun y hy => ?_, by rw [List.length_cons, List.length_cons, h5]⟩
    rcases List.mem_cons.mp hy with rfl | hy
    · exact h2
    · exact h4 y hy
theorem SomeN.lst {a : Addr} (hs : SqL K G a xs) (h : AllP (SomeN n K G) xs) (hl : xs.length ≤ 9) : SomeN (n + 1) K G (.ref a) := by
  obtain ⟨ds, h1, h2, h3⟩ := allN h
  exact ⟨.list ds, .lst hs h1, Od.list h2 (by omega)⟩
theorem SomeN.tup {a : Addr} (hs : SqT K G a xs) (h : AllP (SomeN n K G) xs) (hl : xs.length ≤ 9) : SomeN (n + 1) K G (.ref a) := by
  obtain ⟨ds, h1, h2, h3⟩ := allN h
  exact ⟨.tuple ds, .tup hs h1, Od.tuple h2 (by omega)⟩
theorem AllP.up (e : Same G G') (h : AllP (SomeN n K G) xs) : AllP (SomeN n K G') xs := AllP.mk fun x hx => (AllP.of h x hx).up e
theorem at_some {i : Int} (h0 : 0 ≤ i) (h1 : i < xs.length) : ∃ v, atI xs i = some v ∧ v ∈ xs := by
  obtain ⟨v, hv⟩ : ∃ v, xs[i.toNat]? = some v := ⟨_, List.getElem?_eq_getElem (by omega)⟩
  exact ⟨v, by rw [show i = (i.toNat : Int) by omega]; exact atI_nat hv, List.mem_of_getElem? hv⟩
end
end Z

/-! sets of ints out of lists, sorted; while; lists or tuples by index -/
namespace Z
open PySem PySem.Spec PyProof.Rows L2
/-- an empty set -/
def sObj (w : World) : Obj := { cls := .type "set", dict := none, data := .set #[] 0 (.fresh 0 0 (!w.params.followText "set-order")) }
section
variable {P : Program} {w : World} {A : Around} {E : Value → Shared → Prop} {s : Shared} {p0 : Addr} {its : Array Value} {Q : Value → Shared → Prop}
theorem set_of_list (zs : List Int) (h0 : A.handled = none) (hL : s.heap.IsList p0 its) (hI : IntsAre its.toList zs) (hB : zs.length + 1 < scanBound)
    (k : ∀ (h2 : Heap) (tk c : Nat), SetR w h2 s.heap.objs.size (fun j => decide (j ∈ zs)) c → c ≤ zs.length → (∀ b o, s.heap.get? b = some o → h2.get? b = some o) → Q (.ref s.heap.objs.size) { s with heap := h2, toks := tk }) :
    wpAny (model P w) A (call (.type "set") [.ref p0]) Q E s := by
  have hz : its.size = zs.length := by
    have q := IntsAre.length hI
    rwa [Array.length_toList] at q
  obtain ⟨c1, tl1, mr⟩ := PySem.F.called_set.mro
  have f1 := PySem.F.called_set.made
  have f2 := PySem.F.called_set.sub
  refine wpAny_call (codeAny_of_tree (show wpAny _ _ (callAny (.type "set") _) _ _ _ from wpAny_pure ⟨Code.quiet_builtin _ (by decide +kernel), codeAny_builtin PySem.F.entry_type_call ?_⟩))
  rw [Around.under_plain (weight_type_call_type "set" [.ref p0] []) rfl]
  have f3 := PySem.F.called_set.notType
  have f4 := PySem.F.called_set.canCreate
  have f5 := PySem.F.typeCall_set_1 (.ref p0)
  repeat (any_goals (first | assumption | wp_step))
  refine codeAny_mono (code_set_led1 (.ref p0) (E := E) (Q₁ := fun x t => x = .ref s.heap.objs.size ∧ t = { s with heap := s.heap.push (sObj w) }) ⟨rfl, rfl⟩) fun r t hr => ?_
  match r, hr with
  | .error _, hr => exact hr
  | .ok (.ret x), hr =>
    obtain ⟨rfl, rfl⟩ := hr
    have gS : (s.heap.push (sObj w)).get? s.heap.objs.size = some (sObj w) := Heap.get?_push_size _ rfl
    have tS : Shared.TypeIs { s with heap := s.heap.push (sObj w) } (.ref s.heap.objs.size) "set" := ⟨_, gS, rfl⟩
    have f6 := PySem.F.called_set.init.lookup
    have f7 := PySem.F.called_set.init.bind (.ref s.heap.objs.size)
    repeat (any_goals (first | assumption | wp_step))
    refine codeAny_mono (codeAny_call_builtin (R := wants (fun r t => r = .none ∧ ∃ h2 tk c, t = { s with heap := h2, toks := tk } ∧ SetR w h2 s.heap.objs.size (fun j => decide (j ∈ zs)) c ∧ c ≤ zs.length ∧
      ∀ b o, s.heap.get? b = some o → h2.get? b = some o) E) PySem.F.called_set.init.plain PySem.F.entry_set_init (check_set_init_1 tS ?_)) fun r t hr => ?_
    · obtain ⟨⟨oc, od, odt, osl⟩, e1, e2, nl, e3⟩ := hL
      simp only at e2 e3
      subst e2
      subst e3
      have g1 : (s.heap.push (sObj w)).get? p0 = some { cls := .type "list", dict := od, data := .seq its nl, slots := osl } := Heap.get?_push_of_some _ e1
      have f8 := PySem.F.sub_list_set
      have f9 := PySem.F.sub_list_frozenset
      have fA : (Value.type "list" == Value.type "dict") = false := by decide
      have iL : (s.heap.push (sObj w)).IsList p0 its := ⟨_, g1, rfl, nl, rfl⟩
      unfold Builtin.«set.__init__» noKeywords Builtin.Frozenset.updateFrom
      generalize hPI : pyIter = PI
      wp_walk
      subst hPI
      refine wpAny_pyIter_list iL ?_
      refine wpAny_bind (wpAny_runValue ?_)
      have lt0 : p0 < s.heap.objs.size := Heap.lt_size e1
      have h3 : A.in1.in1.in1.handled = none := by simp [h0]
      have sz1 : (s.heap.push (sObj w)).objs.size = s.heap.objs.size + 1 := Heap.size_push ..
      have ne1 : p0 ≠ (s.heap.push (sObj w)).objs.size := by rw [sz1]; exact Nat.ne_of_lt (Nat.lt_succ_of_lt lt0)
      have nf : s.heap.objs.size ∉ [(s.heap.push (sObj w)).objs.size, p0] := by
        rw [sz1]
        simp only [List.mem_cons, List.not_mem_nil, or_false, not_or]
        exact ⟨Nat.ne_of_lt (Nat.lt_succ_self _), Nat.ne_of_gt lt0⟩
      have hv : ∀ (i : Nat) (v : Value), its[i]? = some v → ∃ k t, zs[i]? = some k ∧ v = .int k t := fun i v hv => by
        have hi : i < zs.length := by rw [← hz]; exact (Array.getElem?_eq_some_iff.mp hv).1
        obtain ⟨t, e⟩ := PyProof.Rows.IntsAre.int_at hI i v (by rw [Array.getElem?_toList]; exact hv)
        refine ⟨zs[i], t, List.getElem?_eq_getElem hi, ?_⟩
        rw [e, List.getD_eq_getElem?_getD, List.getElem?_eq_getElem hi] <;> rfl
      refine set_update_ints ((Walks.list h3 _ p0 ne1 its).toS) s.heap.objs.size nf zs hz hB hv (its.size - 0) 0 _ (by omega) (Nat.zero_le _) ⟨⟨_, Heap.get?_push_size _ rfl, rfl, rfl⟩, iL.push _⟩ ?_ ?_
      · exact ⟨0, Nat.le_refl 0, setR_new_at (Heap.get?_push_of_some _ gS)⟩
      · intro t c hm hc hS
        obtain ⟨h2, g2, d2, tk, os2⟩ := t
        have x1 : g2 = s.gens := hm.gens
        have x2 : d2 = s.drawn := hm.drawn
        have x3 : os2 = s.os := hm.os
        subst x1
        subst x2
        subst x3
        refine show wpAny _ _ _ _ _ _ from wpAny_pure (show wpAny _ _ (ret Value.none) _ _ _ from wpAny_pure ⟨rfl, h2, tk, c, rfl, hS, by omega, fun b o e => ?_⟩)
        have y0 : b < s.heap.objs.size := Heap.lt_size e
        refine hm.heap b o ?_ (Heap.get?_push_of_some _ (Heap.get?_push_of_some _ e))
        simp only [List.mem_cons, List.not_mem_nil, or_false, not_or]
        refine ⟨Nat.ne_of_lt y0, ?_⟩
        rw [sz1]
        exact Nat.ne_of_lt (Nat.lt_succ_of_lt y0)
    · match r, hr with
      | .error _, hr => exact hr
      | .ok (.ret x), hr =>
        obtain ⟨rfl, h2, tk, c, rfl, hS, hc, hk⟩ := hr
        repeat (any_goals (first | assumption | wp_step))
        exact k _ _ _ hS hc hk
      | .ok .next, hr => exact hr.elim
      | .ok .brk, hr => exact hr.elim
      | .ok .cont, hr => exact hr.elim
  | .ok .next, hr => exact hr.elim
  | .ok .brk, hr => exact hr.elim
  | .ok .cont, hr => exact hr.elim
end
section
variable {X : Cx} {K : PySem.W.Frag} {H G : Hp} {W : Wl} {Q : VK} {a : Addr}
/-- set(xs), xs a list of ints -/
def rSetL (K : PySem.W.Frag) (w : World) : List V → Hp → VK → Prop := fun vs H Q => ∃ (l : Addr) (ns : List Int), vs = [.ref l] ∧ SqL K H l (ns.map V.int) ∧ ns.length ≤ 1000 ∧
  ∀ p n, H p = none → n ≤ ns.length → Q (.ref p) (upd H p (SetO w p (fun j => decide (j ∈ ns)) n))
theorem cr_setL (hc : X.calm = true) : CallR X (.type "set") (rSetL X.K X.w) := by
  intro pins s σ H vs us Q I r h
  obtain ⟨l, ns, rfl, hl, hk, q⟩ := h
  rw [Vals.ref1 r]
  obtain ⟨its, rv, pl, hz⟩ := I.list hl
  refine set_of_list (P := X.prog) (w := X.w) ns (I.ok.hd hc) pl.isList (by simpa using ints_of_vals rv) (by unfold scanBound; omega) fun h2 tk c R hcn k => ?_
  exact ⟨.ref s.heap.objs.size, upd H s.heap.objs.size (SetO X.w s.heap.objs.size (fun j => decide (j ∈ ns)) c), I.laid (t' := tk) k (Nat.le_refl _) (setO_new R), rfl, q _ c (I.hok.fresh (Nat.le_refl _)) hcn⟩
theorem st_setOf {w0 : World} {ns : List Int} (ha : SqL K H a (ns.map V.int)) (hl : ns.length ≤ 1000) (w : Wd G W H) (k : ∀ p n G' H', Same G G' → Wd G' W H' → n ≤ ns.length → H' p = some (SetO w0 p (fun j => decide (j ∈ ns)) n) → Q (.ref p) H') : rSetL K w0 [.ref a] H Q :=
  ⟨a, ns, rfl, ha, hl, fun p n hp hn => k p n _ _ (same_upd (w.free hp)) (w.new hp) hn upd_same⟩
theorem st_sortedSet {w0 : World} {S : Int → Bool} {n : Nat} (ha : H a = some (SetO w0 a S n)) (hn : n < 64) (w : Wd G W H)
    (k : ∀ p ns G' H', Same G G' → Wd G' W H' → HL G' p ns → ns.Pairwise (· < ·) → (∀ j : Int, j ∈ ns ↔ S j = true) → ns.length = n → Q (.ref p) H') : rSortedSet w0 [.ref a] H Q :=
  ⟨a, S, n, rfl, ha, hn, fun ns p h1 h2 h3 hp => k p ns _ _ (same_upd (w.free hp)) (w.new hp) upd_same h1 h2 h3⟩
/-- a list or a tuple by index -/
def rIxA (K : PySem.W.Frag) : R2 := fun x y H Q => ∃ p xs i v, x = .ref p ∧ y = .int i ∧ (SqL K H p xs ∨ SqT K H p xs) ∧ atI xs i = some v ∧ Q v H
theorem ix_seqA : IxR X (rIxA X.K) := by
  intro value slice pins s σ H x y v u Q I rx ry h hs
  obtain ⟨p, xs, i, z, rfl, rfl, hq | hq, he, q⟩ := h
  · exact ix_list value slice pins s σ H (.ref p) (.int i) v u Q I rx ry ⟨p, xs, i, z, rfl, rfl, hq, he, q⟩ hs
  · exact ix_tup value slice pins s σ H (.ref p) (.int i) v u Q I rx ry ⟨p, xs, i, z, rfl, rfl, hq, he, q⟩ hs
theorem st_ixA {xs : List V} {i : Int} {v : V} (h : SqL K H a xs ∨ SqT K H a xs) (e : atI xs i = some v) (q : Q v H) : rIxA K (.ref a) (.int i) H Q := ⟨a, xs, i, v, rfl, rfl, h, e, q⟩
end
/-! while -/
section
variable {c : TT} {tb : TS} {nx bk ct : L2.St → Hp → Prop} {rt : VK} {σ : L2.St} {H G : Hp} {W : Wl} {I : Nat → L2.St → Hp → Wl → Prop} {m : Nat}
def Wbt (I : Nat → L2.St → Hp → Wl → Prop) (G : Hp) (m : Nat) : L2.St → Hp → Prop := fun σ H => ∃ m2 G' W, m2 < m ∧ Same G G' ∧ Wd G' W H ∧ I m2 σ G' W
theorem st_wbt {m2 : Nat} {G' : Hp} (h : m2 < m) (e : Same G G') (w : Wd G' W H) (q : I m2 σ G' W) : Wbt I G m σ H := ⟨m2, G', W, h, e, w, q⟩
theorem wt_go (h : tb ⟨Wbt I G m, rt, nx, Wbt I G m⟩ σ H) : ∃ N : L2.St → Hp → Prop, (∀ σ' H', N σ' H' → ∃ m', m' < m ∧ ∃ G' W', Same G G' ∧ Wd G' W' H' ∧ I m' σ' G' W') ∧ tb ⟨N, rt, nx, N⟩ σ H :=
  ⟨Wbt I G m, fun _ _ ⟨m2, G', W', h1, h2, h3, h4⟩ => ⟨m2, h1, G', W', h2, h3, h4⟩, h⟩
theorem while_m (I : Nat → L2.St → Hp → Wl → Prop) (m : Nat) (w : Wd G W H) (h0 : I m σ G W)
    (hs : ∀ m σ' G' W' H', Same G G' → Wd G' W' H' → I m σ' G' W' → c σ' H' fun b H1 => if b = true then ∃ N : L2.St → Hp → Prop, (∀ σ' H', N σ' H' → ∃ m', m' < m ∧ ∃ G' W', Same G G' ∧ Wd G' W' H' ∧ I m' σ' G' W') ∧ tb ⟨N, rt, nx, N⟩ σ' H1 else nx σ' H1) :
    tWhile c tb ⟨nx, rt, bk, ct⟩ σ H := ⟨fun m σ H => ∃ G' W', Same G G' ∧ Wd G' W' H ∧ I m σ G' W', ⟨m, G, W, Same.refl _, w, h0⟩, fun m σ' H' ⟨G', W', e, w', h⟩ => hs m σ' G' W' H' e w' h⟩
end
/-! methods of lists -/
section
variable {K : PySem.W.Frag} {H : Hp} {Q : VK} {a : Addr}
theorem first_at {ns : List Int} {m : Int} (h : m ∈ ns) : ∃ j : Nat, j < ns.length ∧ ns[j]? = some m ∧ ∀ i : Nat, i < j → ns[i]? ≠ some m := by
  induction ns with
  | nil => exact nomatch h
  | cons x xs ih =>
    by_cases e : x = m
    · exact ⟨0, Nat.succ_pos _, by rw [e]; rfl, fun i hi => absurd hi (Nat.not_lt_zero i)⟩
    · obtain ⟨j, h1, h2, h3⟩ := ih ((List.mem_cons.mp h).resolve_left fun z => e z.symm)
      refine ⟨j + 1, Nat.succ_lt_succ h1, h2, fun i hi => ?_⟩
      cases i with
      | zero => exact fun z => e (Option.some.inj z)
      | succ i => exact h3 i (Nat.lt_of_succ_lt_succ hi)
theorem flat_ints : ∀ ns : List Int, (ns.map V.int).all flatV = true
  | [] => rfl
  | _ :: ns => flat_ints ns
/-- xs.index(m), m in xs -/
theorem st_indexI {ns : List Int} {m : Int} (ha : SqL K H a (ns.map V.int)) (hm : m ∈ ns) (q : ∀ j : Nat, j < ns.length → ns[j]? = some m → Q (.int (j : Int)) H) : rIndex K (.ref a) [.int m] H Q := by
  obtain ⟨j, h1, h2, h3⟩ := first_at hm
  refine ⟨a, _, _, j, .int m, rfl, rfl, ha, rfl, flat_ints ns, by rw [List.getElem?_map, h2]; rfl, by simp [eqV], fun i z hi hz => ?_, q j h1 h2⟩
  rw [List.getElem?_map] at hz
  cases e : ns[i]? with
  | none => rw [e] at hz; exact nomatch hz
  | some k =>
    rw [e] at hz
    cases hz
    have := h3 i hi
    rw [e] at this
    have hne : k ≠ m := fun z => this (by rw [z])
    simp [eqV, hne]
end
end Z

/-! own exceptions with a field, over ghost heaps -/
namespace Z
open PySem PySem.Spec PyProof.Rows L2
section
variable {P : Program} {w : World} {K : PySem.W.Frag} {mg : Str → Option Value} {base : Heap} {x qual : Str} {params : Arguments} {body : List Stmt} {scope : Scope} {dvs : List V} {kws : List (Str × V)} {f : Addr} {fd : FuncData}
/-- the rule for a def that may raise -/
theorem okX {N ps : List Str} {k : Nat} {sp : Sp} (F : FunD K x qual params body scope dvs kws f fd) (S : FnScope N ps scope) (len : ∀ vs H Q E, sp vs H Q E → vs.length = ps.length)
    (hb : ∀ (cdv : Value) (A : Around) (outer : List Env) (s : Shared) (H : Hp) (vs : List V) (Q : VK) (E : XK), Room k (A.deeper (envOfC qual scope s.heap.objs.size f cdv)) → sp vs H Q E →
      ∃ t, PSs (cxOf (L2.CX P w) P w K mg base N qual scope f cdv A outer s H E) body t ∧ t { nx := fun _ H' => Q .non H', rt := Q } (start N vs) H) : FnOk P w K mg base (L2.CX P w) (k + 1) f fd ps sp :=
  F.ok S len hb
end
section
variable {X : Cx} {CX : CXT} {k : Nat} {f : Addr} {fd : FuncData} {ps : List Str} {ds : List Value} {dvs : List V} {sp : Sp} {E : L2.St → XK} {x : Str} {p pos : Pos} {e : Expr} {es : List Expr} {t : TA}
/-- a call whose exceptions go where the try says; defaults filled in -/
def tCallSD (sp : Sp) (dvs : List V) (E : L2.St → XK) (t : TA) : TE := fun σ H Q => t σ H fun vs H1 => sp (vs ++ dvs) H1 Q (E σ)
theorem pe_callSD (F : FnOk X.prog X.w X.K X.mg X.base CX k f fd ps sp) (hr : Room k X.A) (hg : Gl X x) (hm : X.mg x = some (.ref f)) (hk : PySem.W.keepIn X.K (.ref f) = true) (hb : Binds X.K fd ps ds) (hd : Vals dvs ds) (hx : ∀ σ, PassesAt CX X σ (E σ))
    (ha : PA X (e :: es) t) (hdb : (x == ("__debug__" : Str)) = false := by decide) (he : starEach (e :: es) X.env = (false, eval e X.env) :: starEach es X.env := by rfl) (hpl : (backTo pos (starEach es X.env)).any (·.1) = false := by rfl) :
    PE X (.Call (.Name x p) (e :: es) [] pos) (tCallSD sp dvs E t) := by
  refine ⟨fun pins s σ H Q I h => wpAny_Call_Name_kw (ld_glob I hg hm (PySem.W.callWith_K (h₀ := X.base) I.ok.mod.kin hk (thn (ha.run pos pins s σ H _ I h) fun us s1 ⟨vs, H1, I1, r, q⟩ => ⟨I1.kIn, ?_⟩) he hpl) hdb)⟩
  have r2 := r.append hd
  refine wpAny_call (codeAny_mono (F.run X.A X.stack s1 H1 ⟨us, []⟩ _ _ Q (E σ) hr I1.env0 (hb s1 us I1.kIn (r2.length.symm.trans (F.len _ _ _ _ q))) r2 q) fun r s' hq => ?_)
  cases r with
  | error e => exact hx σ pins H1 s1 e s' I1 hq
  | ok fl => cases fl with
    | ret u => exact I1.after hq
    | _ => exact False.elim hq
theorem st_callSD {σ : L2.St} {H : Hp} {Q : VK} (h : t σ H fun vs H1 => sp (vs ++ dvs) H1 Q (E σ)) : tCallSD sp dvs E t σ H Q := h
end
theorem passX0 {X : Cx} : Passes (L2.CX X.prog X.w) X E0 := fun _ _ _ _ _ _ _ h => by
  obtain ⟨_, _, _, _, _, _, _, _, _, _, _, _, z⟩ := h
  exact z.elim
/-- an own exception class x at C, its __init__ at fI, its one field n -/
structure ExT (K : PySem.W.Frag) (mg : Str → Option Value) (x n : Str) (C fI : Addr) : Prop where
  gC : mg x = some (.ref C)
  oex : OexC K C
  xf : XfC K C
  xc : ExcC K C
  no : PySem.W.findIn K (.ref C) n = some none
  iC : PySem.W.findIn K (.ref C) "__init__" = some (some (.ref fI))
  tI : PySem.W.typeIn K (.ref fI) = some (.type "function")
  te : PySem.W.exmOne K (.ref C) (.ref C) = some true
  kv : PySem.W.kitOne K (.ref C) (.type "ValueError") = some true
theorem kv_of {K : PySem.W.Frag} {C : Addr} (h : PySem.W.subIn K (.ref C) (.type "ValueError") = some true) : PySem.W.kitOne K (.ref C) (.type "ValueError") = some true := by
  unfold PySem.W.kitOne
  rw [show ((Value.ref C) == (Value.type "ValueError")) = false from rfl]
  show PySem.W.kitCls K (.ref C) (.type "ValueError") = some true
  unfold PySem.W.kitCls
  show (if PySem.W.kitMeta "ValueError" = true then _ else none) = some true
  rw [if_pos (by decide +kernel)]
  exact h
/-- what its __init__ does -/
def sp_init (K : PySem.W.Frag) (C : Addr) (n : Str) : Sp := fun vs H Q _ => ∃ (a : Addr) (v : V), vs = [.ref a, v] ∧ H a = some (exo a C none) ∧ ∀ d, H d = none → d ≠ a → Q .non (upd (upd H d (exd d [(n, v)])) a (exo a C (some d)))
section
variable {K : PySem.W.Frag} {mg : Str → Option Value} {σ : L2.St} {H G : Hp} {W : Wl} {C : Addr} {n : Str} {v : V}
theorem st_mkO {dvs : List V} {ta : TA} {Q : XK} {sp : Sp} (h : ta σ H fun vs H1 => vs.length ≤ 1000 ∧ ∀ a, H1 a = none → sp (.ref a :: (vs ++ dvs)) (upd H1 a (exo a C none))
  (fun v H2 => v = .non ∧ ∃ (d : Addr) (fs : List (Str × V)), H2 a = some (exo a C (some d)) ∧ H2 d = some (exd d fs) ∧ H1 d = none ∧ Q (.ref C) (some d) (upd (del H2 a) d (.xd fs))) (fun _ _ _ => False)) : tMkO C sp dvs ta σ H Q := h
theorem mk_done {Q : XK} (w : Wd G W H) (k : ∀ d G' H', Same G G' → Wd G' W H' → G' d = some (.xd [(n, v)]) → Q (.ref C) (some d) H') (a : Addr) (ha : H a = none) :
    sp_init K C n [.ref a, v] (upd H a (exo a C none)) (fun v H2 => v = .non ∧ ∃ (d : Addr) (fs : List (Str × V)), H2 a = some (exo a C (some d)) ∧ H2 d = some (exd d fs) ∧ H d = none ∧ Q (.ref C) (some d) (upd (del H2 a) d (.xd fs))) (fun _ _ _ => False) := by
  refine ⟨a, v, rfl, upd_same, fun d hd hda => ⟨rfl, d, [(n, v)], upd_same, ?_, ?_, ?_⟩⟩
  · rw [upd_ne hda, upd_same]
  · rw [upd_ne hda] at hd
    exact hd
  · rw [upd_ne hda] at hd
    have e : upd (del (upd (upd (upd H a (exo a C none)) d (exd d [(n, v)])) a (exo a C (some d))) a) d (.xd [(n, v)]) = upd H d (.xd [(n, v)]) := by
      funext b
      by_cases hb : b = d
      · rw [hb, upd_same, upd_same]
      · rw [upd_ne hb, upd_ne hb]
        by_cases hb2 : b = a
        · rw [hb2, del_same, ha]
        · rw [del_ne hb2, upd_ne hb2, upd_ne hb, upd_ne hb2]
    rw [e]
    exact k d _ _ (same_upd (w.free hd)) (w.new hd) upd_same
theorem st_ost {f : Str} {to te : TE} {D : Ends} (h : te σ H fun y H1 => to σ H1 fun x H2 => ∃ a C : Addr, x = .ref a ∧ OexC K C ∧ PySem.W.findIn K (.ref C) f = some none ∧
    ((H2 a = some (exo a C none) ∧ ∀ dx, H2 dx = none → dx ≠ a → D.nx σ (upd (upd H2 dx (exd dx [(f, y)])) a (exo a C (some dx)))) ∨ ∃ (dx : Addr) (fs : List (Str × V)), H2 a = some (exo a C (some dx)) ∧ H2 dx = some (exd dx fs) ∧ fs.length ≤ 900 ∧ D.nx σ (upd H2 dx (exd dx ((f, y) :: fs))))) : tOst K f to te D σ H := h
theorem st_dnew {Q : VK} (h : NewO (.dK []) H Q) : tDNewK σ H Q := h
theorem st_vei {ta : TA} {Q : VK} (h : ta σ H fun vs H1 => ∃ (a C : Addr) (ws : List V), vs = .ref a :: ws ∧ ws.length ≤ 1000 ∧ OexC K C ∧ H1 a = some (exo a C none) ∧ Q .non H1) : tVeI K ta σ H Q := h
theorem st_xf {a : Addr} {cls : Value} {d : Option Addr} {f : Str} {te : TE} {Q : VK} (h : te σ H fun x H1 => x = .ref a ∧ cls = .ref C ∧ ∃ (dd : Addr) (fs : List (Str × V)) (v : V), d = some dd ∧ H1 dd = some (.xd fs) ∧ fs.lookup f = some v ∧ Q v H1) : tXf a cls d C f te σ H Q := h
end
end Z
namespace PySem.W
open PySem PySem.Spec PySem.Calls PyProof.Rows
section
variable {prog : Program} {w : World} {A : Around} {E : Value → Shared → Prop} {s : Shared} {K : Frag} {x D : Addr} {ox od : Obj}
theorem z_found {C : Addr} {name : Str} {a g : Value} (hc : (clsIn K C).isSome = true) (ha : findIn K (.ref C) name = some (some a)) (hg : specialIn K a "__get__" = some (some g)) (ht : takesIn K a = some true) (o : Option Obj) : findObj K C o name = some (.bind g a) := by
  obtain ⟨cd, hcd⟩ := Option.isSome_iff_exists.mp hc
  unfold findObj
  rw [hcd, Option.bind_some, ha, Option.bind_some]
  simp [hg, ht]
theorem z_classE {Q : Option Value → Shared → Prop} (C : L2.ExcC K D) (X : K.In s.heap) (I : InstAt s.heap x ox D (some od)) (h : Q (some (.ref D)) { s with toks := s.toks + 1 }) : wpAny (model prog w) A (getAttr? (.ref x) "__class__") Q E s := by
  have hf : findObj K D (some od) "__class__" = some (.bind (.builtin "getset_descriptor.__get__") (.builtin "object.__class__")) :=
    z_found (by obtain ⟨cd, hc, _⟩ := any_some C.hd; rw [hc]; rfl) C.ha C.hn C.ht (some od)
  obtain ⟨hp, g, d, t, os⟩ := s
  have l0 := I.type (M := model prog w)
  have l1 := looks_findIn (M := model prog w) X C.hg
  have l2 := looks_findIn (M := model prog w) X C.hk
  have l3 := looks_find (M := model prog w) X I hf
  have ls : Looks (model prog w) hp (isInstance (.ref x) (.type "BaseException")) true := l0.andThen (looks_subIn X C.hs)
  have z2 : (Value.builtin "BaseException.__getattribute__" == Value.builtin "object.__getattribute__") = false := by decide +kernel
  have z1 : (onTheHeap (Value.ref D) && Value.builtin "BaseException.__getattribute__" == Value.builtin "object.__getattribute__") = false := by rw [z2]; rfl
  unfold getAttr? getAttrBy? getAttrBy
  refine wpAny_bind (wpAny_mkText (wpAny_bind (wpAny_attempt (wpAny_holding (wpAny_bind (l0.at (wpAny_bind (l1.at ?_))))))))
  show wpAny _ _ (if (onTheHeap (Value.ref D) && Value.builtin "BaseException.__getattribute__" == Value.builtin "object.__getattribute__") = true then _ else _) _ _ _
  rw [z1, if_neg Bool.false_ne_true]
  unfold getAttrByItsOwn hookBefore
  refine wpAny_bind ?_
  rw [if_pos (show onTheHeap (Value.ref D) = true from rfl)]
  refine l2.at (wpAny_bind (wpAny_attempt (wpAny_holding ?_)))
  unfold callGetattribute
  rw [show (false && onTheHeap (Value.builtin "BaseException.__getattribute__")) = false from rfl, if_neg Bool.false_ne_true]
  unfold boundAndCalled
  rw [PySem.F.excAttr_ValueError.ga.bind (.ref x)]
  refine wpAny_bind (wpAny_pure ?_)
  refine wpAny_call (pos := [.ref x, .str "__class__" t]) (codeAny_call_builtin PySem.F.excAttr_ValueError.ga.plain PySem.F.entry_bexc_ga (@check_slot (model prog w) _ _ ⟨hp, g, d, t + 1, os⟩ "BaseException.__getattribute__" "BaseException" "__getattribute__" (.ref x) [.str "__class__" t] [] _ (by decide +kernel) (by decide +kernel) ls (PySem.F.args_bexc_ga (.ref x) (.str "__class__" t)) ?_))
  unfold Builtin.«object.__getattribute__»
  refine wpAny_bind (wpAny_of_eq (a := ((Value.ref x : Value), [Value.str "__class__" t])) (by first | rfl | (simp only [slotArgs]; rfl)) (wpAny_bind (wpAny_pure (wpAny_bind (l0.at (wpAny_bind (l3.at ?_)))))))
  show wpAny _ _ (holding [Value.builtin "object.__class__"] (call (.builtin "getset_descriptor.__get__") [.builtin "object.__class__", .ref x, .ref D]) >>= ret) _ _ _
  refine wpAny_bind (wpAny_holding (wpAny_call (class_get (s := ⟨hp, g, d, t + 1, os⟩) (ox := ox) (od := some od) X I C.hm (wpAny_pure ?_))))
  show wpAny _ _ (handedOut (.ref D)) _ _ _
  rw [handedOut_of (v := .ref D) rfl]
  first
    | exact wpAny_pure (wpAny_pure h)
    | exact wpAny_pure h
    | exact wpAny_pure (wpAny_bind (wpAny_pure (wpAny_pure h)))
theorem z_kit (C : L2.ExcC K D) : KitX K (.ref x) (.ref D) (fun h => ∃ od, InstAt h x ox D (some od)) where
  ty := fun _ _ _ ⟨_, I⟩ => I.type
  it := fun _ _ X _ => by
    obtain ⟨cd, hc, _⟩ := any_some C.hd
    unfold clsIn at hc
    split at hc
    · rename_i ho
      intro A' Q' E' s' k q
      unfold isType loadHead
      exact wpAny_bind (wpAny_loadPart (k _ _ (X _ _ ho)) (wpAny_pure q))
    · cases hc
  ne := fun h tp dd its n sl X htp => by
    obtain ⟨cd, hc, _⟩ := any_some C.hd
    refine Bool.eq_false_iff.mpr fun q => ?_
    obtain rfl : D = tp := Value.ref.inj (beq_iff_eq.mp q)
    unfold clsIn at hc
    split at hc
    · rename_i ho
      exact nomatch (X _ _ ho).symm.trans htp
    · cases hc
  ca := fun X ⟨_, I⟩ k => z_classE C X I k
end
end PySem.W
namespace Z
open PySem PySem.Spec PyProof.Rows L2
/-- isinstance(e, c), e the exception that the suite holds, with its dict -/
def rIsEd (K : PySem.W.Frag) (D a : Addr) (cls : Value) (d : Option Addr) : List V → Hp → VK → Prop := fun xs H Q => ∃ (c : V) (cv : Value) (b : Bool) (dd : Addr) (fs : List (Str × V)), xs = [.ref a, c] ∧ cls = .ref D ∧ d = some dd ∧ H dd = some (.xd fs) ∧ (∀ u, RelV c u → u = cv) ∧ PySem.W.kitOne K (.ref D) cv = some b ∧ Q (.bl b) H
theorem call_isEd {X : Cx} {a D : Addr} {oe : Obj} {cls : Value} {d : Option Addr} {pn : List (Addr × Obj)} (C : ExcC X.K D) (hz : Zc cls d oe) (hf : ∃ vs, oe.data = .fields vs) : CallR (X.suite a ((a, oe) :: pn)) (.builtin "isinstance") (rIsEd X.K D a cls d) := by
  intro pins s σ H xs us Q I r h
  obtain ⟨c, cv, b, dd, fs, rfl, rfl, rfl, ea, hcv, e, q⟩ := h
  obtain ⟨u1, u2, rfl, r1, r2⟩ := vals2 r
  cases r1
  obtain rfl := hcv _ r2
  obtain ⟨hget, _⟩ := I.pin (a, oe) (List.mem_append.mpr (.inl List.mem_cons_self))
  obtain ⟨vs, hv⟩ := hf
  obtain ⟨mA, hns, _⟩ : ObjOk _ _ _ _ dd (.xd fs) := I.hok dd _ ea
  obtain ⟨od, ho, _⟩ := lookIn_ns hns
  have J : PySem.W.InstAt s.heap a oe D (some od) := ⟨hget, hz.1, by unfold PySem.W.notCls; rw [hv] <;> rfl, by rw [hz.2]; exact ho⟩
  exact PySem.W.kia_one (PySem.W.z_kit C) I.kIn ⟨_, J⟩ e (fun z => nomatch z) fun tk => ⟨.bl b, H, I.kept (t' := tk) fun _ _ z => z, rfl, q⟩
end Z

/-! own exceptions over any base, with one field -/
namespace PySem
namespace ZEX
open PySem.W PySem.Calls PyProof.Rows PySem.HandSPX
open Builtin Builtin.ObjectAttr
section
variable {prog : Program} {w : World} {A : Around} {E : Value → Shared → Prop} {R : Result → Shared → Prop} {hp : Heap} {g : Array GenState} {d : Drawn} {t : Nat} {os : OsState}
theorem z_osa {K : W.Frag} {name : Str} {tk : Tok} {v : Value} {x C : Addr} {fv : Array Value} {cd : ClassData} {bmB : List Value} (pass : ∀ self, refuseLoop self "__setattr__" bmB = pure ()) (hob0 : bmB.contains (.type "object") = true)
    (X : K.In hp) (hx : hp.get? x = some { cls := .ref C, data := .fields fv }) (hcd : W.clsIn K C = some cd) (hm : cd.mro = .ref C :: bmB) (hh : cd.hasDict = true) (ha : W.findIn K (.ref C) name = some none)
    (hq : ∀ h' tk' dx, (∀ b o, b ≠ x → hp.get? b = some o → h'.get? b = some o) → hp.objs.size ≤ dx → dx ≠ x → h'.get? x = some { cls := .ref C, dict := some dx, data := .fields fv } → h'.Ns1 dx (fun y => if y = name then some v else none) → R (.ok (.ret .none)) ⟨h', g, d, tk', os⟩) :
    codeAny (model prog w) A (.call (.builtin "object.__setattr__") ⟨[.ref x, .str name tk, v], []⟩) R ⟨hp, g, d, t, os⟩ := by
  have i0 : W.InstAt hp x { cls := .ref C, data := .fields fv } C none := ⟨hx, rfl, rfl, trivial⟩
  have S := F.store_object
  have ne : cd.mro.isEmpty = false := by rw [hm]; rfl
  have hob : cd.mro.contains (.type "object") = true := by rw [hm, List.contains_cons, hob0, Bool.or_true]
  have hps : refuseLoop (.ref x) "__setattr__" cd.mro = pure () := by rw [hm, refuseLoop_ref]; exact pass _
  have nx : x ≠ hp.objs.size := Nat.ne_of_lt (Heap.lt_size hx)
  have li : W.Looks (model prog w) hp (isInstance (.ref x) (.type "object")) true := i0.type.andThen (W.looks_mroIn X (by unfold W.mroIn; rw [hcd, Option.bind_some, if_neg (by rw [ne]; decide), hob]))
  refine codeAny_call_builtin S.slot.plain S.entry (@W.check_slot (model prog w) _ _ ⟨hp, g, d, t, os⟩ "object.__setattr__" "object" "__setattr__" (.ref x) [.str name tk, v] [] _ S.kind S.split li (S.args (.ref x) (.str name tk) v) ?_)
  have lm : W.Looks (model prog w) hp (mroOf (.ref C)) cd.mro := (W.looks_clsIn X hcd).andThen .now
  have lt : W.Looks (model prog w) hp (storeTaker? none) none := .now
  have lc : W.Looks (model prog w) hp (classData C) cd := W.looks_clsIn X hcd
  rw [W.osa_eq, refuse_eq]
  refine wpAny_bind (wpAny_bind (i0.type.at (wpAny_bind (lm.at ?_))))
  rw [hps]
  refine wpAny_pure (wpAny_bind (i0.type.at (wpAny_bind ((W.looks_findIn X ha).at (wpAny_bind (lt.at ?_))))))
  show wpAny (model prog w) _ (storeInOwnDict (.ref x) (.ref C) (.str name tk) name v false) _ _ _
  obtain ⟨nm, bs, mro, ns, qn, hd, sn, sb, ab, col, del⟩ := cd
  dsimp only at hh
  subst hh
  unfold storeInOwnDict ownDictForStores
  repeat first | (with_reducible refine store_in_new ?_ ?_) | (with_reducible refine wpAny_loadPart_at hx ?_) | (with_reducible refine lc.at ?_) | wp_step
  · exact ⟨_, #[], _, (Heap.get?_update_ne _ _ _ _ nx.symm).trans (Heap.get?_push_at rfl rfl), rfl, fun e he => absurd he (by simp), fun _ => rfl⟩
  · intro h' tk' hn' hs
    have hx1 : (hp.push { cls := .type "dict", data := .dict #[] }).get? x = some { cls := .ref C, data := .fields fv } := Heap.get?_push_of_some _ hx
    exact hq h' tk' hp.objs.size (fun b o hb ho => (hs.2 b (Nat.ne_of_lt (Heap.lt_size ho))).trans ((Heap.get?_update_ne _ _ _ _ hb).trans (Heap.get?_push_of_some _ ho))) (Nat.le_refl _) nx.symm ((hs.2 x nx).trans (Heap.get?_update_self _ hx1 rfl)) hn'
end
end ZEX
end PySem
namespace Z
open PySem PySem.Spec PyProof.Rows L2
/-- the class at C: own, directly over the built-in exception B -/
structure OexB (K : PySem.W.Frag) (C : Addr) (B newId initId : String) (bmB : List Value) : Prop where
  cls : ∃ nm q N bs sn sub ab col dd k0 k1 k2 k3 k5, K.lookup C = some (excClassObj nm q C N bs bmB true sn sub ab col dd k0 k1 k2 k3 k5 newId)
  sa : PySem.W.findIn K (.ref C) "__setattr__" = some (some (.builtin "object.__setattr__"))
  exC : PySem.W.subIn K (.ref C) (.type "BaseException") = some true
  tyC : PySem.W.typeIn K (.ref C) = some (.type "type")
  kC : PySem.W.keepIn K (.ref C) = true
  fac : ExcBaseFacts B newId initId bmB
  pass : ∀ self, refuseLoop self "__setattr__" bmB = pure ()
  hob : bmB.contains (.type "object") = true
section
variable {X : Cx} {pins : List (Addr × Obj)} {σ : L2.St} {H : Hp} {s : Shared} {a C : Addr} {f : Str} {y : V} {u : Value} {E : Value → Shared → Prop} {A : Around} {B newId initId : String} {bmB : List Value}
theorem z_ost {Q : Unit → Shared → Prop} (T : OexB X.K C B newId initId bmB) (I : Inv X pins σ H s) (e : H a = some (exo a C none)) (hno : PySem.W.findIn X.K (.ref C) f = some none) (ry : RelV y u)
    (h : ∀ dx s', H dx = none → dx ≠ a → Inv X pins σ (upd (upd H dx (exd dx [(f, y)])) a (exo a C (some dx))) s' → Q () s') : wpAny (model X.prog X.w) A (setAttr (.ref a) f u) Q E s := by
  obtain ⟨nm, q, N, bs, sn, sub, ab, col, dd, k0, k1, k2, k3, k5, hC⟩ := T.cls
  have hcl : PySem.W.clsIn X.K C = some { name := nm, bases := bs, mro := .ref C :: bmB, ns := N, qualname := q, hasDict := true, slotNames := sn, subclasses := sub, abstract := ab, collection := col, hasDel := false } := by
    unfold PySem.W.clsIn
    rw [hC] <;> rfl
  obtain ⟨t1, ho⟩ := exo_at I.hok e
  obtain ⟨hp, g, d, t, os⟩ := s
  refine PySem.W.set_plain I.kIn (od := none) (ox := { cls := .ref C, dict := none, data := .fields #[.ref t1, .none, .none, .none, .bool false, .none] }) ⟨ho, rfl, rfl, trivial⟩ T.sa ?_
  refine PySem.ZEX.z_osa T.pass T.hob I.kIn ho hcl rfl rfl hno fun h' tk' dx k dn dne hx hn => ?_
  have hnd : H dx = none := I.hok.fresh dn
  have nd : ∀ {b : Addr} {o : Obj}, hp.get? b = some o → b ≠ dx := fun {b o} q => Nat.ne_of_lt (Nat.lt_of_lt_of_le (Heap.lt_size q) dn)
  have na : ∀ {b : Addr}, H b = none → b ≠ a := fun {b} n z => nomatch (z ▸ n).symm.trans e
  have un : Un X.fs [] H (upd (upd H dx (exd dx [(f, y)])) a (exo a C (some dx))) hp h' := {
    keep := fun b o q n _ _ => k b o (na n) q, slot := fun b o q n _ _ => ⟨o.slots, k b o (na n) q⟩
    free := fun b o q n _ => (upd_ne (na n)).trans ((upd_ne (nd q)).trans n)
    there := fun b o q _ => if hb : b = a then ⟨_, hb ▸ hx⟩ else ⟨o, k b o hb q⟩
    tups := fun b xs q => (upd_ne (at_ne e q exo_tup)).trans ((upd_ne (ne_of_none q hnd)).trans q)
    frzs := fun b o v q => (upd_ne (at_ne e q exo_frz)).trans ((upd_ne (ne_of_none q hnd)).trans q)
    tbls := fun b ps q => ⟨#[], by rw [upd_ne (at_ne e q exo_tbl), upd_ne (ne_of_none q hnd), q] <;> simp⟩ }
  refine h dx _ hnd dne (I.un (t' := tk') un fun b o q => ?_)
  by_cases hb : b = a
  · rw [hb, upd_same] at q
    cases q
    rw [hb]
    exact exo_ok hx
  · rw [upd_ne hb] at q
    by_cases hd : b = dx
    · rw [hd, upd_same] at q
      cases q
      rw [hd]
      exact exd_ok hn (relO_put (fs := []) ry fun g => True.intro)
    · rw [upd_ne hd] at q
      refine (I.hok b o q).stay (fun c v hc z => k c v (hc.elim (fun h => h ▸ hb) fun h => at_ne e h exo_own) z) (fun c hc => (upd_ne (at_ne e hc exo_own)).trans ((upd_ne (ne_of_none hc hnd)).trans hc)) (fun c xs hc => (upd_ne (at_ne e hc exo_tup)).trans ((upd_ne (ne_of_none hc hnd)).trans hc))
theorem z_oinit {us : List Value} {Q : Value → Shared → Prop} (T : OexB X.K C B newId initId bmB) (I : Inv X pins σ H s) (e : H a = some (exo a C none)) (hl : us.length ≤ sizeLine) (h : ∀ s', Inv X pins σ H s' → Q .none s') :
    wpAny (model X.prog X.w) A (call (.builtin initId) (.ref a :: us)) Q E s := by
  obtain ⟨nm, q, N, bs, sn, sub, ab, col, dd, k0, k1, k2, k3, k5, hC⟩ := T.cls
  obtain ⟨t1, ho⟩ := exo_at I.hok e
  obtain ⟨hp, g, d, t, os⟩ := s
  refine wpAny_call (PySem.HandSPX.init_base T.fac (fun _ => rfl) (I.kIn _ _ hC) ho hl fun h' t2 k hx => ?_)
  have J := I.write (t' := t) (x := a) (e := a) (o := exo a C none) (by rw [e]; exact True.intro) (.inl rfl) k ⟨_, hx⟩ (exo_ok hx)
  have eu : upd H a (exo a C none) = H := funext fun b => if hb : b = a then by rw [hb, upd_same, e] else upd_ne hb
  exact h _ (eu ▸ J)
end
/-- B.__init__(self, ..) -/
def tBei (K : PySem.W.Frag) (B newId initId : String) (bmB : List Value) (ta : TA) : TE := fun σ H Q => ta σ H fun vs H1 => ∃ (a C : Addr) (ws : List V), vs = .ref a :: ws ∧ ws.length ≤ 1000 ∧ OexB K C B newId initId bmB ∧ H1 a = some (exo a C none) ∧ Q .non H1
/-- self.f = e, the one field -/
def tBst (K : PySem.W.Frag) (B newId initId : String) (bmB : List Value) (f : Str) (to te : TE) : TS := fun D σ H => te σ H fun y H1 => to σ H1 fun x H2 => ∃ a C : Addr, x = .ref a ∧ OexB K C B newId initId bmB ∧ PySem.W.findIn K (.ref C) f = some none ∧
  H2 a = some (exo a C none) ∧ ∀ dx, H2 dx = none → dx ≠ a → D.nx σ (upd (upd H2 dx (exd dx [(f, y)])) a (exo a C (some dx)))
section
variable {X : Cx} {o e : Expr} {es : List Expr} {to te : TE} {ta : TA} {f bx : Str} {p p' p1 p2 pos : Pos} {B newId initId : String} {bmB : List Value}
theorem pe_beinit {pl : Sem Bool} (typ : typeOf (.type B) = pure (.type "type")) (stub : Manifest.isStub B = false) (hbt : bootBuiltins bx = some (.type B)) (hh : PySem.W.handedIn (.builtin initId) = true) (hg : Gl X bx) (hm : X.mg bx = none) (vV : PySem.W.findCls X.K (.type B) (.type "type") "__init__" = some (.val (.builtin initId))) (ha : PA X (e :: es) ta)
    (hn : bx ≠ "__name__" := by decide) (hdb : (bx == ("__debug__" : Str)) = false := by decide)
    (hc : eval (.Call (.Attribute (.Name bx p1) "__init__" p2) (e :: es) [] pos) X.env = (do let ov ← eval (.Name bx p1) X.env; standAt p2.atName; let (f, first) ← holding [ov] (getMethod ov "__init__" pl); callWith pos f first (backTo pos (starEach (e :: es) X.env)) (backToKw pos (keywordEach [] X.env))) := by rfl)
    (he : starEach (e :: es) X.env = (false, eval e X.env) :: starEach es X.env := by rfl) (hpl : (backTo pos (starEach es X.env)).any (·.1) = false := by rfl) : PE X (.Call (.Attribute (.Name bx p1) "__init__" p2) (e :: es) [] pos) (tBei X.K B newId initId bmB ta) := by
  refine ⟨fun pins s σ H Q I h => PySem.W.methodCall_KW (ld_blt I hg hm hbt ?_ hn hdb) hc⟩
  obtain ⟨m, fr⟩ := I.fr
  refine PySem.W.method_type fr I.ok.mod.kin typ stub vV hh ?_
  show wpAny (model X.prog X.w) _ (callWith pos (Value.builtin initId) [] (backTo pos (starEach (e :: es) X.env)) []) _ _ _
  refine PyProof.Rows.callWith_method1 (thn (ha.run pos pins _ σ H _ (I.tok _) h) fun us s1 ⟨vs, H1, I1, r1, a, C, ws, ev, hl, T, ea, q⟩ => ?_) he hpl
  subst ev
  cases r1 with
  | @cons _ u0 _ ur ra rw' =>
    cases (show u0 = Value.ref a from ra)
    exact z_oinit T I1 ea (by rw [← Paired.length rw', sizeLine_eq]; omega) fun s' J => ⟨.non, H1, J, rfl, q⟩
theorem ps_bst (ho : PE X o to) (he : PE X e te) (hs : swapsWith e (some (.Attribute o f p')) pos.line X.env = pure false := by rfl) : PS X (.Assign [.Attribute o f p'] e pos) (tBst X.K B newId initId bmB f to te) := by
  refine ⟨fun pins s σ H D I h => plainObj_wpAny_Assign_Attribute (thn (he.run pins s σ H _ I h) fun v s1 ⟨y, H1, I1, r1, q1⟩ => thn (ho.run pins s1 σ H1 _ I1 q1) fun u s2 ⟨x, H2, I2, r2, a, C, ex, T, hno, ea, q⟩ => ?_) hs⟩
  subst ex
  cases (show u = Value.ref a from r2)
  exact z_ost T I2 ea hno r1 fun dx s' n ne J => ⟨σ, _, J, q dx n ne⟩
theorem pmk_bex {CX : CXT} {x : Str} {C fI : Addr} {k : Nat} {fd : FuncData} {ps : List Str} {sp : Sp} {ds : List Value} {dvs : List V} (T : OexB X.K C B newId initId bmB) (iC : PySem.W.findIn X.K (.ref C) "__init__" = some (some (.ref fI))) (tI : PySem.W.typeIn X.K (.ref fI) = some (.type "function"))
    (F1 : FnOk X.prog X.w X.K X.mg X.base CX k fI fd ps sp) (hr : Room (k + 1) X.A) (hb : Binds X.K fd ps ds) (hd : Vals dvs ds) (hx : Passes CX X (fun _ _ _ => False)) (hg : Gl X x) (hm : X.mg x = some (.ref C)) (ha : PA X (e :: es) ta)
    (hdb : (x == ("__debug__" : Str)) = false := by decide) (he : starEach (e :: es) X.env = (false, eval e X.env) :: starEach es X.env := by rfl) (hpl : (backTo pos (starEach es X.env)).any (·.1) = false := by rfl) : PMk X (.Call (.Name x p) (e :: es) [] pos) (tMkO C sp dvs ta) := by
  intro pins s σ H Q I h
  obtain ⟨nm, q, N, bs, sn, sub, ab, col, dd, k0, k1, k2, k3, k5, hC⟩ := T.cls
  refine wpAny_Call_Name_kw (ld_glob I hg hm (PySem.W.callWith_K (h₀ := X.base) I.ok.mod.kin T.kC (thn (ha.run pos pins s σ H _ I h) fun us s1 ⟨vs, H1, I1, r1, hz, q1⟩ => ⟨I1.kIn, ?_⟩) he hpl) hdb)
  show wpAny (model X.prog X.w) _ (call (.ref C) us) _ _ _
  obtain ⟨hp, g, dr, tk, os⟩ := s1
  have z1 : hp.objs.size ≤ hp.objs.size + 1 := Nat.le_succ _
  have hq := q1 (hp.objs.size + 1) (I1.hok.fresh z1)
  have kk : ∀ b o, hp.get? b = some o → ((hp.push (PySem.W.kdv_tup us)).push (PySem.HandSPX.excO C hp.objs.size)).get? b = some o := fun _ _ e => Heap.get?_push_of_some _ (Heap.get?_push_of_some _ e)
  have gg : ((hp.push (PySem.W.kdv_tup us)).push (PySem.HandSPX.excO C hp.objs.size)).get? (hp.objs.size + 1) = some (PySem.HandSPX.excO C hp.objs.size) := by heap_get
  have I2 : Inv X pins σ (upd H1 (hp.objs.size + 1) (exo (hp.objs.size + 1) C none)) ⟨(hp.push (PySem.W.kdv_tup us)).push (PySem.HandSPX.excO C hp.objs.size), g, dr, tk, os⟩ := I1.laid (t' := tk) (a := hp.objs.size + 1) (o := exo (hp.objs.size + 1) C none) kk z1 (exo_ok gg)
  have r2 : Vals (V.ref (hp.objs.size + 1) :: (vs ++ dvs)) (Value.ref (hp.objs.size + 1) :: (us ++ ds)) := .cons rfl (r1.append hd)
  have hl : (Value.ref (hp.objs.size + 1) :: us ++ ds).length = ps.length := (r2.length.symm.trans (F1.len _ _ _ _ hq))
  have hus : us.length ≤ sizeLine := by rw [← Paired.length r1, sizeLine_eq]; omega
  refine wpAny_call (PySem.HandSPX.call_own T.fac (fun _ => rfl) (I1.kIn _ _ hC) (PySem.W.looks_findIn I1.kIn iC) (fun self => PySem.W.bind_fn I1.kIn self tI) hus
    (codeAny_mono (F1.run _ X.stack _ _ ⟨Value.ref (hp.objs.size + 1) :: us, []⟩ (Value.ref (hp.objs.size + 1) :: (us ++ ds)) _ _ (fun _ _ _ => False) (hr.make C us []) (I2.env0.make C us []) (hb _ (Value.ref (hp.objs.size + 1) :: us) I2.kIn hl) r2 hq) fun r s' hz2 => ?_))
  cases r with
  | error er => exact hx pins σ _ _ er s' I2 hz2
  | ok fl => cases fl with
    | ret u =>
      obtain ⟨v, H2, os2, bare2, un2, hok2, rv, ev, d, fs, ea, ed, hd1, q2⟩ := hz2
      subst ev
      obtain ⟨h2, g2, d2, t2, os'⟩ := s'
      exact ⟨rv, mk_end (raises_own T.exC T.tyC) I1 z1 kk un2 hok2 os2 bare2 ea ed hd1 q2⟩
    | _ => exact False.elim hz2
end
end Z
namespace Z
open PySem PySem.Spec PyProof.Rows L2
/-- a built-in base: what of it is the same in every program -/
structure BaseX (B newId initId : String) (bx : Str) (bmB : List Value) : Prop where
  fac : ExcBaseFacts B newId initId bmB
  pass : ∀ self, refuseLoop self "__setattr__" bmB = pure ()
  hob : bmB.contains (.type "object") = true
  typ : typeOf (.type B) = pure (.type "type")
  stub : Manifest.isStub B = false
  hbt : bootBuiltins bx = some (.type B)
  hh : PySem.W.handedIn (.builtin initId) = true
  kmt : PySem.W.kitMeta B = true
abbrev tl_ValueError : List Value := [.type "ValueError", .type "Exception", .type "BaseException", .type "object"]
theorem bx_ValueError : BaseX "ValueError" "ValueError.__new__" "ValueError.__init__" "ValueError" tl_ValueError := ⟨PySem.F.excBase_ValueError, PySem.F.store_ValueError.passes, by decide +kernel, by kernel_rfl, by decide +kernel, by decide +kernel, by decide +kernel, by decide +kernel⟩
abbrev tl_LookupError : List Value := [.type "LookupError", .type "Exception", .type "BaseException", .type "object"]
theorem bx_LookupError : BaseX "LookupError" "LookupError.__new__" "LookupError.__init__" "LookupError" tl_LookupError := ⟨PySem.F.excBase_LookupError, PySem.F.store_LookupError.passes, by decide +kernel, by kernel_rfl, by decide +kernel, by decide +kernel, by decide +kernel, by decide +kernel⟩
abbrev tl_IndexError : List Value := [.type "IndexError", .type "LookupError", .type "Exception", .type "BaseException", .type "object"]
theorem bx_IndexError : BaseX "IndexError" "IndexError.__new__" "IndexError.__init__" "IndexError" tl_IndexError := ⟨PySem.F.excBase_IndexError, PySem.F.store_IndexError.passes, by decide +kernel, by kernel_rfl, by decide +kernel, by decide +kernel, by decide +kernel, by decide +kernel⟩
abbrev tl_OverflowError : List Value := [.type "OverflowError", .type "ArithmeticError", .type "Exception", .type "BaseException", .type "object"]
theorem bx_OverflowError : BaseX "OverflowError" "OverflowError.__new__" "OverflowError.__init__" "OverflowError" tl_OverflowError := ⟨PySem.F.excBase_OverflowError, PySem.F.store_OverflowError.passes, by decide +kernel, by kernel_rfl, by decide +kernel, by decide +kernel, by decide +kernel, by decide +kernel⟩
abbrev tl_ArithmeticError : List Value := [.type "ArithmeticError", .type "Exception", .type "BaseException", .type "object"]
theorem bx_ArithmeticError : BaseX "ArithmeticError" "ArithmeticError.__new__" "ArithmeticError.__init__" "ArithmeticError" tl_ArithmeticError := ⟨PySem.F.excBase_ArithmeticError, PySem.F.store_ArithmeticError.passes, by decide +kernel, by kernel_rfl, by decide +kernel, by decide +kernel, by decide +kernel, by decide +kernel⟩
abbrev tl_TypeError : List Value := [.type "TypeError", .type "Exception", .type "BaseException", .type "object"]
theorem bx_TypeError : BaseX "TypeError" "TypeError.__new__" "TypeError.__init__" "TypeError" tl_TypeError := ⟨PySem.F.excBase_TypeError, PySem.F.store_TypeError.passes, by decide +kernel, by kernel_rfl, by decide +kernel, by decide +kernel, by decide +kernel, by decide +kernel⟩
abbrev tl_RuntimeError : List Value := [.type "RuntimeError", .type "Exception", .type "BaseException", .type "object"]
theorem bx_RuntimeError : BaseX "RuntimeError" "RuntimeError.__new__" "RuntimeError.__init__" "RuntimeError" tl_RuntimeError := ⟨PySem.F.excBase_RuntimeError, PySem.F.store_RuntimeError.passes, by decide +kernel, by kernel_rfl, by decide +kernel, by decide +kernel, by decide +kernel, by decide +kernel⟩
/-- an own exception class x at C over the base B, its __init__ at fI, its one field n -/
structure ExB (K : PySem.W.Frag) (mg : Str → Option Value) (x n : Str) (C fI : Addr) (B newId initId : String) (bmB : List Value) : Prop where
  gC : mg x = some (.ref C)
  oex : OexB K C B newId initId bmB
  xf : XfC K C
  xc : ExcC K C
  no : PySem.W.findIn K (.ref C) n = some none
  iC : PySem.W.findIn K (.ref C) "__init__" = some (some (.ref fI))
  tI : PySem.W.typeIn K (.ref fI) = some (.type "function")
  te : PySem.W.exmOne K (.ref C) (.ref C) = some true
  kv : PySem.W.kitOne K (.ref C) (.type B) = some true
theorem kvB_of {K : PySem.W.Frag} {C : Addr} {B : String} (hm : PySem.W.kitMeta B = true) (h : PySem.W.subIn K (.ref C) (.type B) = some true) : PySem.W.kitOne K (.ref C) (.type B) = some true := by
  unfold PySem.W.kitOne
  rw [show ((Value.ref C) == (Value.type B)) = false from rfl]
  show PySem.W.kitCls K (.ref C) (.type B) = some true
  unfold PySem.W.kitCls
  show (if PySem.W.kitMeta B = true then _ else none) = some true
  rw [if_pos hm]
  exact h
section
variable {K : PySem.W.Frag} {σ : L2.St} {H : Hp} {B newId initId : String} {bmB : List Value}
theorem st_bei {ta : TA} {Q : VK} (h : ta σ H fun vs H1 => ∃ (a C : Addr) (ws : List V), vs = .ref a :: ws ∧ ws.length ≤ 1000 ∧ OexB K C B newId initId bmB ∧ H1 a = some (exo a C none) ∧ Q .non H1) : tBei K B newId initId bmB ta σ H Q := h
theorem st_bst {f : Str} {to te : TE} {D : Ends} (h : te σ H fun y H1 => to σ H1 fun x H2 => ∃ a C : Addr, x = .ref a ∧ OexB K C B newId initId bmB ∧ PySem.W.findIn K (.ref C) f = some none ∧
    H2 a = some (exo a C none) ∧ ∀ dx, H2 dx = none → dx ≠ a → D.nx σ (upd (upd H2 dx (exd dx [(f, y)])) a (exo a C (some dx)))) : tBst K B newId initId bmB f to te D σ H := h
end
section
variable {K : PySem.W.Frag} {x qual : Str} {params : Arguments} {body : List Stmt} {scope : Scope} {kws : List (Str × V)} {f : Addr} {fd : FuncData} {ps ks : List Str} {n : Nat}
theorem kbnK (F : FunD K x qual params body scope [] kws f fd) (g : List Value → List Value → List Value) {gV : List V → List V → List V} (rel : ∀ {vs : List V} {us : List Value} {zs : List V} {ws : List Value}, Vals vs us → Vals zs ws → Vals (gV vs zs) (g us ws))
    (h : ∀ (kV doc pm : Value) (an : Option Addr) (cdv ct : Value) (us ws : List Value), us.length = n → ws.length = ks.length → bindArgs (PySem.W.fnOf x qual params body scope .none kV doc pm an cdv ct) ⟨us, ks.zip ws⟩ = pure (ps.zip (g us ws))) : KBn K fd ps n ks g gV := by
  obtain ⟨oc, od, dV, kV, doc, pm, an, cdv, ct, osl, rfl, lk, hcd, hD, hK⟩ := F.ex
  rcases hD with ⟨_, rfl⟩ | ⟨e, _⟩
  · exact ⟨fun s us ws _ l1 l2 => .of_eq (h kV doc pm an cdv ct us ws l1 l2), rel⟩
  · exact absurd rfl e
end
/-- f(e, .., k = v, ..) whose exceptions go where the try says -/
def tCallNS (n m : Nat) (sp : Sp) (gV : List V → List V → List V) (E : L2.St → XK) (t tk : TA) : TE := fun σ H Q => t σ H fun vs H1 => tk σ H1 fun zs H2 => vs.length = n ∧ zs.length = m ∧ sp (gV vs zs) H2 Q (E σ)
section
variable {X : Cx} {CX : CXT} {k n : Nat} {f : Addr} {fd : FuncData} {ps ks : List Str} {sp : Sp} {E : L2.St → XK} {x : Str} {p pos : Pos} {e : Expr} {es : List Expr} {kws : List Keyword} {t tk : TA} {g : List Value → List Value → List Value} {gV : List V → List V → List V}
theorem pe_callNS (F : FnOk X.prog X.w X.K X.mg X.base CX k f fd ps sp) (hr : Room k X.A) (hg : Gl X x) (hm : X.mg x = some (.ref f)) (hk : PySem.W.keepIn X.K (.ref f) = true) (hb : KBn X.K fd ps n ks g gV) (hx : ∀ σ, PassesAt CX X σ (E σ)) (ha : PA X (e :: es) t) (hkw : PK X kws tk)
    (hall : (backToKw pos (keywordEach kws X.env)).all (·.1.isSome) = true := by rfl) (hks : (backToKw pos (keywordEach kws X.env)).filterMap (·.1) = ks := by rfl) (hdb : (x == ("__debug__" : Str)) = false := by decide) (he : starEach (e :: es) X.env = (false, eval e X.env) :: starEach es X.env := by rfl) (hpl : ((backTo pos (starEach (e :: es) X.env)).any (·.1) || (backToKw pos (keywordEach kws X.env)).any (·.1.isNone)) = false := by rfl) : PE X (.Call (.Name x p) (e :: es) kws pos) (tCallNS n ks.length sp gV E t tk) := by
  refine ⟨fun pins s σ H Q I h => wpAny_Call_Name_kw (ld_glob I hg hm (PySem.W.callWith_KW (h₀ := X.base) I.ok.mod.kin hk hall (thn (ha.run pos pins s σ H _ I h) fun us s1 ⟨vs, H1, I1, r, q⟩ => thn (hkw.run pos pins s1 σ H1 _ I1 q) fun ws s2 ⟨zs, H2, I2, rz, l1, l2, q2⟩ => ⟨I2.kIn, ?_⟩) hpl he) hdb)⟩
  rw [hks]
  have r2 := hb.rel r rz
  refine wpAny_call (codeAny_mono (F.run X.A X.stack s2 H2 ⟨us, ks.zip ws⟩ (g us ws) (gV vs zs) Q (E σ) hr I2.env0 (hb.to s2 us ws I2.kIn (r.length.symm.trans l1) (rz.length.symm.trans l2)) r2 q2) fun r s' hq => ?_)
  cases r with
  | error e => exact hx σ pins H2 s2 e s' I2 hq
  | ok fl => cases fl with
    | ret u => exact I2.after hq
    | _ => exact False.elim hq
theorem st_callNS {m : Nat} {σ : L2.St} {H : Hp} {Q : VK} (h : t σ H fun vs H1 => tk σ H1 fun zs H2 => vs.length = n ∧ zs.length = m ∧ sp (gV vs zs) H2 Q (E σ)) : tCallNS n m sp gV E t tk σ H Q := h
end
end Z

/-! own classes: made by a local name, methods in a try, len; comprehensions over enumerate, of two parts -/
namespace Z
open PySem PySem.Spec PyProof.Rows L2
section
variable {X : Cx} {CX : CXT} {k : Nat} {f C : Addr} {fd : FuncData} {ps : List Str} {ds : List Value} {dvs : List V} {sp : Sp} {m : Str} {fe o e : Expr} {es : List Expr} {tf ta : TE} {t : TA} {pos apos : Pos} {E : XK}
/-- g(e, ..), g an expression whose value is the class at C -/
def tMakeV (C : Addr) (sp : Sp) (dvs : List V) (E : XK) (tf : TE) (t : TA) : TE := fun σ H Q => tf σ H fun y H1 => y = .ref C ∧ tMake C sp dvs E t σ H1 Q
theorem pe_makeV (hf : PE X fe tf) (M : Mk X.K C f) (F : FnOk X.prog X.w X.K X.mg X.base CX k f fd ps sp) (hr : Room (k + 1) X.A) (hb : Binds X.K fd ps ds) (hd : Vals dvs ds) (hx : Passes CX X E) (ha : PA X (e :: es) t)
    (ht : eval (.Call fe (e :: es) [] pos) X.env = (do callWith pos (← eval fe X.env) [] (backTo pos (starEach (e :: es) X.env)) (backToKw pos (keywordEach [] X.env))) := by rfl)
    (he : starEach (e :: es) X.env = (false, eval e X.env) :: starEach es X.env := by rfl) (hpl : (backTo pos (starEach es X.env)).any (·.1) = false := by rfl) : PE X (.Call fe (e :: es) [] pos) (tMakeV C sp dvs E tf t) := by
  refine ⟨fun pins s σ H Q I h => Call_ (thn (hf.run pins s σ H _ I h) fun u s1 ⟨y, H1, I1, ry, ey, q⟩ => ?_) ht⟩
  subst ey
  obtain rfl : u = Value.ref C := ry
  exact PySem.W.callWith_K (h₀ := X.base) I1.ok.mod.kin M.kp (thn (ha.run pos pins s1 σ H1 _ I1 q) fun us s2 ⟨vs, H2, I2, r, q2⟩ => ⟨I2.kIn, run_make M F hr hb hd hx I2 r q2⟩) he hpl
theorem st_makeV {σ : L2.St} {H : Hp} {Q : VK} (h : tf σ H fun y H1 => y = .ref C ∧ tMake C sp dvs E t σ H1 Q) : tMakeV C sp dvs E tf t σ H Q := h
theorem st_make {σ : L2.St} {H : Hp} {Q : VK} (h : t σ H fun vs H1 => ∀ x dx, H1 x = none → H1 dx = none → dx ≠ x → sp (.ref x :: (vs ++ dvs)) (upd (upd H1 dx (.own x)) x (.ins C dx [])) (fun v H2 => v = .non ∧ Q (.ref x) H2) E) : tMake C sp dvs E t σ H Q := h
theorem st_meth {σ : L2.St} {H : Hp} {Q : VK} (h : ta σ H fun x H1 => ∃ a dx fs, x = .ref a ∧ H1 a = some (.ins C dx fs) ∧ fs.lookup m = none ∧ t σ H1 fun vs H2 => sp (x :: (vs ++ dvs)) H2 Q E) : tMeth C m sp dvs E ta t σ H Q := h
theorem st_fld {K : PySem.W.Frag} {n : Str} {σ : L2.St} {H : Hp} {Q : VK} (h : ta σ H fun x H1 => ∃ a C dx fs v, x = .ref a ∧ H1 a = some (.ins C dx fs) ∧ Cls K C ∧ NoAttr K C n ∧ fs.lookup n = some v ∧ Q v H1) : tFld K ta n σ H Q := h
theorem st_sfld {K : PySem.W.Frag} {tv : TE} {n : Str} {σ : L2.St} {H : Hp} {D : Ends} (h : tv σ H fun y H1 => ta σ H1 fun x H2 => ∃ a C dx fs, x = .ref a ∧ H2 a = some (.ins C dx fs) ∧ Cls K C ∧ NoAttr K C n ∧ fs.length < 1000 ∧ D.nx σ (upd H2 a (.ins C dx (putF n y fs)))) : sFld K ta tv n D σ H := h
theorem st_cval {K : PySem.W.Frag} {n : Str} {σ : L2.St} {H : Hp} {Q : VK} (h : ta σ H fun x H1 => ∃ C mc v u, x = .ref C ∧ ClX.CRead K C mc ∧ ClX.CVal K C mc n v u ∧ Q v H1) : ClX.tCVal K ta n σ H Q := h
theorem st_cmeth {σ : L2.St} {H : Hp} {Q : VK} (h : ta σ H fun x H1 => x = .ref C ∧ t σ H1 fun vs H2 => sp (.ref C :: vs) H2 Q E) : ClX.tCMeth C sp E ta t σ H Q := h
/-- o.m(..) whose exceptions go where the try says -/
def tMethSD (C : Addr) (m : Str) (sp : Sp) (dvs : List V) (E : L2.St → XK) (ta : TE) (t : TA) : TE := fun σ H Q => ta σ H fun x H1 => ∃ a dx fs, x = .ref a ∧ H1 a = some (.ins C dx fs) ∧ fs.lookup m = none ∧ t σ H1 fun vs H2 => sp (x :: (vs ++ dvs)) H2 Q (E σ)
theorem pe_methSD {pl : Sem Bool} {E : L2.St → XK} (he : PE X o ta) (c : Cls X.K C) (hm : Meth X.K C m f) (F : FnOk X.prog X.w X.K X.mg X.base CX k f fd ps sp) (hr : Room k X.A) (hb : Binds X.K fd ps ds) (hd : Vals dvs ds) (hx : ∀ σ, PassesAt CX X σ (E σ)) (ha : PA X (e :: es) t)
    (hst : starEach (e :: es) X.env = (false, eval e X.env) :: starEach es X.env := by rfl) (hpl : (backTo pos (starEach es X.env)).any (·.1) = false := by rfl)
    (ht : eval (.Call (.Attribute o m apos) (e :: es) [] pos) X.env = (do
      let ov ← eval o X.env
      standAt apos.atName
      let (f, first) ← holding [ov] (getMethod ov m pl)
      callWith pos f first (backTo pos (starEach (e :: es) X.env)) (backToKw pos (keywordEach [] X.env))) := by rfl) :
    PE X (.Call (.Attribute o m apos) (e :: es) [] pos) (tMethSD C m sp dvs E ta t) := by
  refine ⟨fun pins s σ H Q I h => PySem.W.methodCall_KW (pl := pl) (thn (he.run pins s σ H _ I h) fun u s1 ⟨x, H1, I1, rx, a, dx, fs, ex, ea, l, q⟩ => ?_) ht⟩
  subst ex
  obtain rfl : u = Value.ref a := rx
  refine getmeth_ok I1 ea c hm l (PySem.W.callWith_K (first := [.ref a]) (h₀ := X.base) I1.ok.mod.kin hm.kp (thn (ha.run pos pins s1 σ H1 _ I1 q) fun us s2 ⟨vs, H2, I2, r, q2⟩ => ⟨I2.kIn, ?_⟩) hst hpl)
  have r2 : Vals (V.ref a :: (vs ++ dvs)) ((Value.ref a :: us) ++ ds) := .cons rfl (r.append hd)
  refine wpAny_call (codeAny_mono (F.run X.A X.stack s2 H2 ⟨Value.ref a :: us, []⟩ _ _ Q (E σ) hr I2.env0 (hb s2 (Value.ref a :: us) I2.kIn (r2.length.symm.trans (F.len _ _ _ _ q2))) r2 q2) fun r s' hq => ?_)
  cases r with
  | error e => exact hx σ pins H2 s2 e s' I2 hq
  | ok fl => cases fl with
    | ret u => exact I2.after hq
    | _ => exact False.elim hq
theorem st_methSD {E : L2.St → XK} {σ : L2.St} {H : Hp} {Q : VK} (h : ta σ H fun x H1 => ∃ a dx fs, x = .ref a ∧ H1 a = some (.ins C dx fs) ∧ fs.lookup m = none ∧ t σ H1 fun vs H2 => sp (x :: (vs ++ dvs)) H2 Q (E σ)) : tMethSD C m sp dvs E ta t σ H Q := h
/-- len of an instance with its own __len__ -/
def rLenO (C : Addr) (sp : Sp) : List V → Hp → VK → Prop := fun vs H Q => ∃ a dx fs, vs = [.ref a] ∧ H a = some (.ins C dx fs) ∧ sp [.ref a] H (fun v H2 => ∃ n : Int, v = .int n ∧ (0 ≤ n ∧ n < 2 ^ 63) ∧ Q (.int n) H2) E0
theorem call_lenO (hm : Meth X.K C "__len__" f) (F : FnOk X.prog X.w X.K X.mg X.base CX0 k f fd ps sp) (hr : Room (k + 1) X.A) (hb : Binds X.K fd ps []) : CallR X (.builtin "len") (rLenO C sp) := by
  intro pins s σ H vs us Q I r h
  obtain ⟨a, dx, fs, rfl, ha, q⟩ := h
  rw [Vals.ref1 r]
  obtain ⟨ox, od, J, _⟩ := StX.insC_at (C := C) I (.inr ⟨dx, fs, ha⟩)
  refine Calls.call_function_entry kind_len plain_len entry_len (args_len1 _) ?_
  unfold Builtin.«len»
  refine wpAny_bind (m := oneArg "len" _) (wpAny_pure ?_)
  have r2 : Vals [V.ref a] ([Value.ref a] ++ []) := .cons rfl .nil
  have run : wpAny (model X.prog X.w) X.A.in1 (call (.ref f) [.ref a]) (EP X pins σ fun v H2 => ∃ n : Int, v = .int n ∧ (0 ≤ n ∧ n < 2 ^ 63) ∧ Q (.int n) H2) X.xe s := by
    refine wpAny_call (codeAny_mono (F.run X.A.in1 X.stack s H ⟨[.ref a], []⟩ _ _ _ E0 hr.in1 I.env0.in1 (hb s [.ref a] I.kIn (r2.length.symm.trans (F.len _ _ _ _ q))) r2 q) fun r s' hq => ?_)
    cases r with
    | error e => exact False.elim hq
    | ok fl => cases fl with
      | ret u => exact I.after hq
      | _ => exact False.elim hq
  refine wpAny_bind (m := callSpecial? (.ref a) (Str.ofString "__len__")) (PySem.W.special_fn I.kIn J hm.at_ (beq_iff_eq.mp hm.fn) (wpAny_mono run (fun u s' hu => ?_) fun _ _ y => y))
  obtain ⟨v, H2, I2, rv, n, rfl, ⟨h0, h1⟩, q2⟩ := hu
  obtain ⟨tk, rfl⟩ := rv
  refine wpAny_bind (wpAny_holding (wpAny_pure ?_))
  refine wpAny_bind (wpAny_letGo ?_)
  show wpAny _ _ (if n < 0 then _ else _) _ _ _
  rw [if_neg (by omega)]
  show wpAny _ _ (if n ≥ 2 ^ 63 then _ else _) _ _ _
  rw [if_neg (by omega)]
  exact wpAny_bind (wpAny_mkInt (wpAny_pure ⟨_, rfl, .int n, H2, I2.tok _, ⟨_, rfl⟩, q2⟩))
end
/-! the ghost heap -/
section
variable {K : PySem.W.Frag} {σ : L2.St} {H G : Hp} {W : Wl} {Q : VK} {a : Addr} {xs : List V} {tt : TT} {te : TE} {vs : List Nat}
theorem new_ins {C : Addr} {P : Addr → Addr → Hp → Prop} (w : Wd G W H) (k : ∀ x dx G1 H1, Same G G1 → G1 dx = some (.own x) → Wd G1 ((x, Is (.ins C dx [])) :: W) H1 → P x dx H1) : ∀ x dx, H x = none → H dx = none → dx ≠ x → P x dx (upd (upd H dx (.own x)) x (.ins C dx [])) := fun x dx hx hd ne =>
  k x dx _ _ (same_upd (w.free hd)) upd_same ((w.new hd).newM (by rw [upd_ne (fun z => ne z.symm)]; exact hx) rfl)
/-- a comprehension over enumerate -/
theorem lc_enumA (hx : SqL K G a xs ∨ SqT K G a xs) {i1 i2 : Nat} (I : Nat → List V → Hp → Prop) (w : Wd G W H) (h0 : I 0 [] G) (hw : ∀ x y, wipe (((wipe σ vs).set i1 x).set i2 y) vs = wipe σ vs)
    (hs : ∀ (i : Nat) x D G' G'' H' acc, xs[i]? = some x → Same G G' → I i acc G' → Same G' G'' → Wd G'' ((D, Is (.lst acc)) :: W) H' → tt (((wipe σ vs).set i1 (some (.int (i : Int)))).set i2 (some x)) H' fun b H3 =>
      if b = true then te (((wipe σ vs).set i1 (some (.int (i : Int)))).set i2 (some x)) H3 fun y H4 => ∃ acc, H4 D = some (.lst acc) ∧ acc.length < sizeLine ∧ LcB I G W D (i + 1) (upd H4 D (.lst (acc ++ [y]))) else LcB I G W D (i + 1) H3)
    (hd : ∀ D G' H' acc, Same G G' → Wd G' ((D, Is (.lst acc)) :: W) H' → I xs.length acc G' → Q (.ref D) H') :
    ∃ a' ys, [V.ref a] = [.ref a'] ∧ ((SqL K H a' ys ∧ LcQ (Ite K a') (gTup K 2 (gCons (gName i1) (gCons (gName i2) gNil))) tt te vs σ H Q) ∨ (SqT K H a' ys ∧ LcQ (IteT K a') (gTup K 2 (gCons (gName i1) (gCons (gName i2) gNil))) tt te vs σ H Q)) := by
  have step : ∀ (i : Nat) (x : V) (D : Addr) (G' H' H'' : Hp) (acc : List V), i < xs.length → Same G G' → Wd G' ((D, Is (.lst acc)) :: W) H' → I i acc G' → YPair (fun i => some (.int (i : Nat))) (fun i => xs[i]?) i H' x H'' →
      gTup K 2 (gCons (gName i1) (gCons (gName i2) gNil)) x (wipe σ vs) H'' fun σ2 H2 => wipe σ2 vs = wipe σ vs ∧ tt σ2 H2 fun b H3 =>
        if b = true then te σ2 H3 fun y H4 => ∃ acc, H4 D = some (.lst acc) ∧ acc.length < sizeLine ∧ LcB I G W D (i + 1) (upd H4 D (.lst (acc ++ [y]))) else LcB I G W D (i + 1) H3 := fun i x D G' H' H'' acc _ e w' h y => by
    obtain ⟨T, x1, x2, rfl, hn, rfl, e1, e2⟩ := y
    cases e1
    refine ⟨T, _, rfl, SqT.of upd_same, rfl, _, _, rfl, ?_⟩
    refine ⟨_, _, rfl, ?_⟩
    exact ⟨rfl, hw _ _, hs i x2 D G' _ _ acc e2 e h (same_upd (w'.free hn)) (w'.new hn)⟩
  rcases hx with hx | hx
  · exact ⟨a, xs, rfl, .inl ⟨seq_up w hx, lc_go walk_enum I w (fun _ _ _ e w' => seq_up w' (e.seq hx)) h0 step hd⟩⟩
  · exact ⟨a, xs, rfl, .inr ⟨tup_up w hx, lc_go walk_enumT I w (fun _ _ _ e w' => tup_up w' (seqT e hx)) h0 step hd⟩⟩
/-- the inner part of a comprehension of two parts -/
def LcIn (J : It) (g : TG) (tt : TT) (te : TE) (vs : List Nat) (D : Addr) (Nx : Hp → Prop) (σ : L2.St) (H4 : Hp) : Prop := ∃ W1 : Nat → Nat → Hp → Prop, (∃ m, W1 0 m H4) ∧ ∀ j k H, W1 j k H →
  (J.stop j H ∧ Nx H) ∨ (J.go j H ∧ ∃ Nx1 : Hp → Prop, (∀ H', Nx1 H' → ∃ k', k' < k ∧ W1 (j + 1) k' H') ∧ ∀ x H', J.yld j H x H' → g x (wipe σ vs) H' fun σ3 H5 => wipe σ3 vs = wipe σ vs ∧ tt σ3 H5 fun b H6 =>
    if b = true then te σ3 H6 fun y H7 => ∃ acc, H7 D = some (.lst acc) ∧ acc.length < sizeLine ∧ Nx1 (upd H7 D (.lst (acc ++ [y]))) else Nx1 H6)
def Lc2Q (J : It) (g : TG) (tt : TT) (wi1 : TI) (g1 : TG) (tt1 : TT) (te : TE) (vs vs1 : List Nat) (σ : L2.St) (H1 : Hp) (Q : VK) : Prop := ∀ D, H1 D = none → ∃ W : Nat → Nat → Hp → Prop, (∃ m, W 0 m (upd H1 D (.lst []))) ∧ ∀ i m H, W i m H →
  (J.stop i H ∧ Q (.ref D) H) ∨ (J.go i H ∧ ∃ Nx : Hp → Prop, (∀ H', Nx H' → ∃ m', m' < m ∧ W (i + 1) m' H') ∧ ∀ x H', J.yld i H x H' → g x (wipe σ vs) H' fun σ2 H2 => wipe σ2 vs = wipe σ vs ∧ tt σ2 H2 fun b H3 =>
    if b = true then wi1 σ2 H3 fun J1 H4 => LcIn J1 g1 tt1 te vs1 D Nx σ2 H4 else Nx H3)
theorem st_lc2 {wi wi1 : TI} {g g1 : TG} {tt1 : TT} {vs1 : List Nat} (h : wi σ H fun J H1 => Lc2Q J g tt wi1 g1 tt1 te vs vs1 σ H1 Q) : tLc2 wi g tt wi1 g1 tt1 te vs vs1 σ H Q := h
theorem lc_in {J : It} {n : Nat} {Gp : Hp → Prop} {Y : Nat → Hp → V → Hp → Prop} (wk : Walk J n Gp Y) {g : TG} {D : Addr} {Nx : Hp → Prop} (Pv : Nat → Hp → Prop) (h0 : Pv 0 H) (hG : ∀ i H, i ≤ n → Pv i H → Gp H)
    (hs : ∀ i x H H', i < n → Pv i H → Y i H x H' → g x (wipe σ vs) H' fun σ2 H2 => wipe σ2 vs = wipe σ vs ∧ tt σ2 H2 fun b H3 =>
      if b = true then te σ2 H3 fun y H4 => ∃ acc, H4 D = some (.lst acc) ∧ acc.length < sizeLine ∧ Pv (i + 1) (upd H4 D (.lst (acc ++ [y]))) else Pv (i + 1) H3) (hd : ∀ H, Pv n H → Nx H) : LcIn J g tt te vs D Nx σ H := by
  refine ⟨fun i m H => m = n - i ∧ i ≤ n ∧ Pv i H, ⟨n, by simp, Nat.zero_le _, h0⟩, ?_⟩
  rintro i m H ⟨rfl, hi, p⟩
  have q := hG i H hi p
  rcases Nat.lt_or_ge i n with hl | hl
  · exact .inr ⟨wk.goes i H hl q, Pv (i + 1), fun H' p' => ⟨n - (i + 1), by omega, rfl, hl, p'⟩, fun x H' y => hs i x H H' hl p (wk.yields i H x H' hl q y)⟩
  · obtain rfl : i = n := by omega
    exact .inl ⟨wk.stops H q, hd H p⟩
/-- .. for j in range(z) -/
theorem lc_in1 {z : Int} {j : Nat} {D : Addr} {Nx : Hp → Prop} {acc0 : List V} (hz : -(2 ^ 62) ≤ z ∧ z < 2 ^ 62) (I : Nat → List V → Hp → Prop) (w : Wd G ((D, Is (.lst acc0)) :: W) H) (h0 : I 0 acc0 G) (hw : ∀ x, wipe ((wipe σ vs).set j x) vs = wipe σ vs)
    (hs : ∀ (i : Nat) G' H' acc, (i : Int) < z → Same G G' → Wd G' ((D, Is (.lst acc)) :: W) H' → I i acc G' → tt ((wipe σ vs).set j (some (.int (i : Int)))) H' fun b H3 =>
      if b = true then te ((wipe σ vs).set j (some (.int (i : Int)))) H3 fun y H4 => ∃ acc, H4 D = some (.lst acc) ∧ acc.length < sizeLine ∧ LcB I G W D (i + 1) (upd H4 D (.lst (acc ++ [y]))) else LcB I G W D (i + 1) H3)
    (hd : ∀ G' H' acc, Same G G' → Wd G' ((D, Is (.lst acc)) :: W) H' → I z.toNat acc G' → Nx H') : ∃ j' : Int, [V.int z] = [.int j'] ∧ -(2 ^ 62) ≤ j' ∧ j' < 2 ^ 62 ∧ LcIn (Itr 0 j'.toNat) (gName j) tt te vs D Nx σ H :=
  ⟨z, rfl, hz.1, hz.2, lc_in walk_range (LcB I G W D) ⟨G, acc0, Same.refl _, w, h0⟩ (fun _ _ _ _ => trivial) (fun i x H' H'' hi ⟨G', acc, e, w', h⟩ y => by
    obtain ⟨rfl, rfl⟩ := y
    have e0 : (0 : Int) + (i : Int) = (i : Int) := Int.zero_add _
    dsimp only
    rw [e0]
    exact ⟨hw _, hs i G' _ acc (by omega) e w' h⟩) fun H' ⟨G', acc, e, w', h⟩ => hd G' H' acc e w' h⟩
/-- the outer part over a list -/
theorem lc2_l {j : Nat} {wi1 : TI} {g1 : TG} {tt1 : TT} {vs1 : List Nat} (hx : SqL K G a xs) (I : Nat → List V → Hp → Prop) (w : Wd G W H) (h0 : I 0 [] G) (hw : ∀ x, wipe ((wipe σ vs).set j x) vs = wipe σ vs)
    (hs : ∀ (i : Nat) x D G' H' acc, xs[i]? = some x → Same G G' → Wd G' ((D, Is (.lst acc)) :: W) H' → I i acc G' → tt ((wipe σ vs).set j (some x)) H' fun b H3 =>
      if b = true then wi1 ((wipe σ vs).set j (some x)) H3 fun J1 H4 => LcIn J1 g1 tt1 te vs1 D (LcB I G W D (i + 1)) ((wipe σ vs).set j (some x)) H4 else LcB I G W D (i + 1) H3)
    (hd : ∀ D G' H' acc, Same G G' → Wd G' ((D, Is (.lst acc)) :: W) H' → I xs.length acc G' → Q (.ref D) H') : ∃ a', V.ref a = .ref a' ∧ (∃ xs, SqL K H a' xs) ∧ Lc2Q (Itl K a') (gName j) tt wi1 g1 tt1 te vs vs1 σ H Q := by
  refine ⟨a, rfl, ⟨xs, seq_up w hx⟩, fun D hD => ⟨fun i m H => m = xs.length - i ∧ i ≤ xs.length ∧ LcB I G W D i H, ⟨xs.length, by simp, Nat.zero_le _, G, [], Same.refl _, w.newM hD rfl, h0⟩, ?_⟩⟩
  rintro i m H1 ⟨rfl, hi, G', acc, e, w', p⟩
  have q := seq_up w' (e.seq hx)
  have wk : Walk (Itl K a) xs.length (fun H => SqL K H a xs) _ := walk_list
  rcases Nat.lt_or_ge i xs.length with hl | hl
  · refine .inr ⟨wk.goes i H1 hl q, LcB I G W D (i + 1), fun H' p' => ⟨xs.length - (i + 1), by omega, rfl, hl, p'⟩, fun x H' y => ?_⟩
    obtain ⟨e3, y2⟩ := wk.yields i H1 x H' hl q y
    subst e3
    exact ⟨hw _, hs i x D G' _ acc y2 e w' p⟩
  · obtain rfl : i = xs.length := by omega
    exact .inl ⟨wk.stops H1 q, hd D G' H1 acc e w' p⟩
end
end Z

/-! own classes: + == != str repr [] of instances -/
namespace PySem.W
open PySem PySem.Calls PyProof.Rows Builtin
section
variable {prog : Program} {w : World} {A : Around} {E : Value → Shared → Prop} {s : Shared} {K : Frag} {x C L f : Addr} {h0 : Heap} {m : Str → Option Value} {ox : Obj} {od : Option Obj}
theorem zc_ifBound {M : Model} {nm : Str} {id : String} {args : List Value} {Q : Option Value → Shared → Prop} (X : K.In s.heap) (I : InstAt s.heap x ox C od) (hs : findIn K (.ref C) nm = some (some (.builtin id)))
    (hb : ∀ v, bindSpecial (.builtin id) v = pure (.builtin id, [v])) (h : wpAny M A (call (.builtin id) (.ref x :: args)) (fun v => Q (some v)) E s) : wpAny M A (callSpecialIfBound? (.ref x) nm args) Q E s := by
  simp only [callSpecialIfBound?, bindSpecialIfBound?]
  have last : wpAny M A (call (.builtin id) ([.ref x] ++ args) >>= fun v => pure (some v)) Q E s := wpAny_bind (wpAny_mono h (fun v t q => wpAny_pure q) fun _ _ q => q)
  refine wpAny_holding (wpAny_bind (wpAny_bind (wpAny_bind (I.type.here ((looks_findIn X hs).here (wpAny_bind (wpAny_askSetting (wpAny_ite ?_))))))))
  split
  · exact wpAny_bind ((Looks.of_pure (hb _)).here (wpAny_pure last))
  · exact wpAny_tryCatch (wpAny_bind ((Looks.of_pure (hb _)).here (wpAny_pure last)))
theorem zc_neBind (v : Value) : bindSpecial (.builtin "object.__ne__") v = pure (.builtin "object.__ne__", [v]) := by kernel_rfl
/-- x != b, the class has __eq__ and no __ne__ of its own -/
theorem zc_ne {b : Value} {Q : Value → Shared → Prop} (hu : A.units < cLine) (hu1 : A.in1.units < cLine) (F : Fr h0 L s.heap m) (X0 : K.In h0) (I : InstAt s.heap x ox C od) (hb : Looks (model prog w) s.heap (typeOf b) (.ref C))
    (hn : findIn K (.ref C) "__ne__" = some (some (.builtin "object.__ne__"))) (hm : mroIn K C (.type "object") = some true) (hs : findIn K (.ref C) "__eq__" = some (some (.ref f))) (hf : isFn K (.ref f) = true)
    (h : wpAny (model prog w) A.in1 (call (.ref f) [.ref x, b]) (fun v t => ∃ c, v = .bool c ∧ Q (.bool (!c)) t) E s) : wpAny (model prog w) A (richCompare .NotEq (.ref x) b) Q E s := by
  have X := X0.keeps F.keep
  have one : wpAny (model prog w) A (tryCompare (.ref x) (cmpInfo .NotEq).2.1 b) (fun r t => ∃ v, r = some v ∧ Q v t) E s := by
    unfold tryCompare
    refine wpAny_bind (zc_ifBound X I (show findIn K (.ref C) (cmpInfo .NotEq).2.1 = _ from hn) zc_neBind (wpAny_call (codeAny_call_builtin PySem.F.slot_object_ne.plain PySem.F.cmpEntry_ne (check_slot PySem.F.cmpKind_ne PySem.F.cmpSplit_ne (I.type.andThen (looks_mroIn X hm)) (PySem.F.cmpArgs_ne _ _) ?_))))
    unfold Builtin.«object.__ne__»
    refine wpAny_bind (m := slotArgs "__ne__" 1 _) (wpAny_pure ?_)
    refine wpAny_bind (m := cRoomFor _ _) (wpAny_cRoomFor hu1 ?_)
    refine wpAny_bind (m := callSpecialIfBound? (.ref x) (Str.ofString "__eq__") _) (ifBound_K X I hs hf (wpAny_mono h (fun r t hr => ?_) fun _ _ y => y))
    obtain ⟨c, rfl, q⟩ := hr
    refine wpAny_bind (m := truthy (.bool _)) (wpAny_truthy_bool ?_)
    exact wpAny_pure (wpAny_pure ⟨_, rfl, q⟩)
  unfold richCompare
  simp only [oneThing_ref]
  refine wpAny_holding (wpAny_bind (wpAny_cRoomFor hu (wpAny_bind (I.type.here (wpAny_bind (hb.here ?_))))))
  rw [show (Value.ref C != Value.ref C) = false from by simp]
  simp only [Bool.false_eq_true, if_false]
  refine wpAny_bind (wpAny_pure ?_)
  simp only [Bool.false_eq_true, if_false]
  refine wpAny_bind (wpAny_mono one (fun r t z => ?_) fun _ _ e => e)
  obtain ⟨v, rfl, q⟩ := z
  exact wpAny_pure q
end
end PySem.W
namespace Z
open PySem PySem.Spec PyProof.Rows L2
section
variable {X : Cx} {k : Nat} {f C : Addr} {fd : FuncData} {ps : List Str} {sp : Sp}
/-- an own def runs within a builtin -/
theorem run_own {A1 : Around} {E1 : Value → Shared → Prop} {pins : List (Addr × Obj)} {σ : L2.St} {H : Hp} {s : Shared} {Q : VK} {us : List Value} {vs : List V} (F : FnOk X.prog X.w X.K X.mg X.base CX0 k f fd ps sp) (hr : Room k A1) (e0 : Env0 X.prog X.w X.K X.mg X.base A1 X.stack s H)
    (hb : Binds X.K fd ps []) (I : Inv X pins σ H s) (r : Vals vs us) (q : sp vs H Q E0) : wpAny (model X.prog X.w) A1 (call (.ref f) us) (EP X pins σ Q) E1 s := by
  have r2 : Vals vs (us ++ []) := by rw [List.append_nil]; exact r
  refine wpAny_call (codeAny_mono (F.run A1 X.stack s H ⟨us, []⟩ _ _ Q E0 hr e0 (hb s us I.kIn (r2.length.symm.trans (F.len _ _ _ _ q))) r2 q) fun r s' hq => ?_)
  cases r with
  | error e => exact False.elim hq
  | ok fl => cases fl with
    | ret u => exact I.after hq
    | _ => exact False.elim hq
theorem vals_a (a : Addr) : Vals [V.ref a] [Value.ref a] := .cons rfl .nil
theorem vals_ab (a b : Addr) : Vals [V.ref a, V.ref b] [Value.ref a, Value.ref b] := .cons rfl (.cons rfl .nil)
/-- a + b, instances of C -/
def rAddO (C : Addr) (sp : Sp) : R2 := fun x y H Q => ∃ a b dx fs dy gs, x = .ref a ∧ y = .ref b ∧ H a = some (.ins C dx fs) ∧ H b = some (.ins C dy gs) ∧ sp [.ref a, .ref b] H (fun v H2 => ∃ p, v = .ref p ∧ Q (.ref p) H2) E0
theorem op_addO (hc : PySem.W.selfFirst X.K C = true) (hm : Meth X.K C "__add__" f) (F : FnOk X.prog X.w X.K X.mg X.base CX0 k f fd ps sp) (hr : Room k X.A) (hb : Binds X.K fd ps []) : OpR X (binaryOp .Add) (rAddO C sp) := by
  intro pins s σ H x y v u Q I rx ry h
  obtain ⟨a, b, dx, fs, dy, gs, rfl, rfl, ha, hb2, q⟩ := h
  cases rx
  cases ry
  obtain ⟨m, hF⟩ := I.fr
  obtain ⟨ox, od, J, _⟩ := StX.insC_at (C := C) I (.inr ⟨dx, fs, ha⟩)
  obtain ⟨oy, od2, J2, _⟩ := StX.insC_at (C := C) I (.inr ⟨dy, gs, hb2⟩)
  refine PySem.W.binop_K (op := .Add) hF I.ok.mod.kin J J2.type hc hm.at_ hm.fn (wpAny_mono (run_own F hr I.env0 hb I (vals_ab a b) q) (fun v s' hv => ?_) fun _ _ y => y)
  obtain ⟨v', H2, I2, rv, p, rfl, q2⟩ := hv
  cases rv
  exact ⟨V.ref p, H2, I2, rfl, q2⟩
/-- a == b, instances of C; != the same, by == -/
def rEqO (C : Addr) (sp : Sp) (neg : Bool) : R2 := fun x y H Q => ∃ a b dx fs dy gs, x = .ref a ∧ y = .ref b ∧ H a = some (.ins C dx fs) ∧ H b = some (.ins C dy gs) ∧ sp [.ref a, .ref b] H (fun v H2 => ∃ c, v = .bl c ∧ Q (.bl (if neg then !c else c)) H2) E0
theorem op_eqO (hm : Meth X.K C "__eq__" f) (F : FnOk X.prog X.w X.K X.mg X.base CX0 k f fd ps sp) (hr : Room k X.A) (hb : Binds X.K fd ps []) : OpR X (compareOp .Eq) (rEqO C sp false) := by
  intro pins s σ H x y v u Q I rx ry h
  obtain ⟨a, b, dx, fs, dy, gs, rfl, rfl, ha, hb2, q⟩ := h
  cases rx
  cases ry
  obtain ⟨m, hF⟩ := I.fr
  obtain ⟨ox, od, J, _⟩ := StX.insC_at (C := C) I (.inr ⟨dx, fs, ha⟩)
  obtain ⟨oy, od2, J2, _⟩ := StX.insC_at (C := C) I (.inr ⟨dy, gs, hb2⟩)
  refine show wpAny _ _ (richCompare .Eq _ _) _ _ _ from PySem.W.cmp_K (op := .Eq) (tb := .ref C) hr.units0 hF I.ok.mod.kin J J2.type (by simp [PySem.W.notFirst]) hm.at_ hm.fn (wpAny_mono (run_own F hr I.env0 hb I (vals_ab a b) q) (fun v s' hv => ?_) fun _ _ y => y)
  obtain ⟨v', H2, I2, rv, c, rfl, q2⟩ := hv
  cases rv
  exact ⟨V.bl c, H2, I2, rfl, q2⟩
/-- what != of instances needs of the class -/
structure NeC (K : PySem.W.Frag) (C : Addr) : Prop where
  ne : PySem.W.findIn K (.ref C) "__ne__" = some (some (.builtin "object.__ne__"))
  mr : PySem.W.mroIn K C (.type "object") = some true
theorem op_neO (hm : Meth X.K C "__eq__" f) (hn : NeC X.K C) (F : FnOk X.prog X.w X.K X.mg X.base CX0 k f fd ps sp) (hr : Room (k + 1) X.A) (hb : Binds X.K fd ps []) : OpR X (compareOp .NotEq) (rEqO C sp true) := by
  intro pins s σ H x y v u Q I rx ry h
  obtain ⟨a, b, dx, fs, dy, gs, rfl, rfl, ha, hb2, q⟩ := h
  cases rx
  cases ry
  obtain ⟨m, hF⟩ := I.fr
  obtain ⟨ox, od, J, _⟩ := StX.insC_at (C := C) I (.inr ⟨dx, fs, ha⟩)
  obtain ⟨oy, od2, J2, _⟩ := StX.insC_at (C := C) I (.inr ⟨dy, gs, hb2⟩)
  refine show wpAny _ _ (richCompare .NotEq _ _) _ _ _ from PySem.W.zc_ne hr.units0 hr.in1.units0 hF I.ok.mod.kin J J2.type hn.ne hn.mr hm.at_ hm.fn (wpAny_mono (run_own F hr.in1 I.env0.in1 hb I (vals_ab a b) q) (fun v s' hv => ?_) fun _ _ y => y)
  obtain ⟨v', H2, I2, rv, c, rfl, q2⟩ := hv
  cases rv
  exact ⟨c, rfl, V.bl (!c), H2, I2, rfl, q2⟩
/-- str(a) -/
def rStrO (C : Addr) (sp : Sp) : List V → Hp → VK → Prop := fun vs H Q => ∃ a dx fs, vs = [.ref a] ∧ H a = some (.ins C dx fs) ∧ sp [.ref a] H (fun v H2 => ∃ z, v = .str z ∧ Q (.str z) H2) E0
theorem call_strO (hm : Meth X.K C "__str__" f) (F : FnOk X.prog X.w X.K X.mg X.base CX0 k f fd ps sp) (hr : Room (k + 1 + 1) X.A) (hb : Binds X.K fd ps []) : CallR X (.type "str") (rStrO C sp) := by
  intro pins s σ H vs us Q I r h
  obtain ⟨a, dx, fs, rfl, ha, q⟩ := h
  rw [Vals.ref1 r]
  obtain ⟨ox, od, J, _⟩ := StX.insC_at (C := C) I (.inr ⟨dx, fs, ha⟩)
  refine PySem.W.kso_call hr.in1.in1.units0 I.kIn J hm.at_ hm.fn (wpAny_mono (run_own F hr.in1.in1 I.env0.in1.in1 hb I (vals_a a) q) (fun v s' hv => ?_) fun _ _ y => y)
  obtain ⟨v', H2, I2, rv, z, rfl, q2⟩ := hv
  obtain ⟨t, rfl⟩ := rv
  exact ⟨V.str z, H2, I2, ⟨_, rfl⟩, q2⟩
/-- repr(a) -/
theorem call_reprO (hm : Meth X.K C "__repr__" f) (F : FnOk X.prog X.w X.K X.mg X.base CX0 k f fd ps sp) (hr : Room (k + 1) X.A) (hb : Binds X.K fd ps []) : CallR X (.builtin "repr") (rStrO C sp) := by
  intro pins s σ H vs us Q I r h
  obtain ⟨a, dx, fs, rfl, ha, q⟩ := h
  rw [Vals.ref1 r]
  obtain ⟨m, hF⟩ := I.fr
  obtain ⟨ox, od, J, _⟩ := StX.insC_at (C := C) I (.inr ⟨dx, fs, ha⟩)
  refine PySem.W.repr_K hr.in1.units0 hF I.ok.mod.kin J hm.at_ hm.fn (wpAny_mono (run_own F hr.in1 I.env0.in1 hb I (vals_a a) q) (fun v s' hv => ?_) fun _ _ y => y)
  obtain ⟨v', H2, I2, rv, z, rfl, q2⟩ := hv
  obtain ⟨t, rfl⟩ := rv
  exact ⟨V.str z, H2, I2, ⟨_, rfl⟩, q2⟩
/-- a[i] -/
def rIxO (C : Addr) (sp : Sp) : R2 := fun x y H Q => ∃ a dx fs, x = .ref a ∧ H a = some (.ins C dx fs) ∧ sp [.ref a, y] H Q E0
theorem ix_own (hm : Meth X.K C "__getitem__" f) (hfn : PySem.W.fnIn X.K f = true) (F : FnOk X.prog X.w X.K X.mg X.base CX0 k f fd ps sp) (hr : Room (k + 1) X.A) (hb : Binds X.K fd ps []) (value slice : Expr) {pins : List (Addr × Obj)} {s : Shared} {σ : L2.St} {H : Hp} {x y : V} {v u : Value} {Q : VK}
    (I : Inv X pins σ H s) (rx : RelV x v) (ry : RelV y u) (h : rIxO C sp x y H Q) (hs : subscripted slice true v u = runValue (.builtin "lifetime.subscript" ⟨[v, u], []⟩)) : wpAny (model X.prog X.w) X.A (subscriptTail value slice v u) (EP X pins σ Q) X.xe s := by
  obtain ⟨a, dx, fs, rfl, ha, q⟩ := h
  cases rx
  obtain ⟨m, hF⟩ := I.fr
  obtain ⟨ox, od, J, _⟩ := StX.insC_at (C := C) I (.inr ⟨dx, fs, ha⟩)
  exact PySem.W.sub_K hF I.ok.mod.kin J hm.at_ hfn hm.fn (run_own F hr.in1 I.env0.in1 hb I (show Vals [V.ref a, y] [Value.ref a, u] from .cons rfl (.cons ry .nil)) q) hs
end
end Z

/-! pairs of ints sorted; ranges with a step; three targets at once; dicts with tuples as keys -/
namespace Z
open PySem PySem.Spec PyProof.Rows L2
section
variable {X : Cx} {K : PySem.W.Frag} {σ : L2.St} {H G : Hp} {W : Wl} {Q : VK} {a : Addr} {tt : TT} {te : TE} {vs : List Nat}
theorem ip_shl : PIp X .LShift (rI CPow fun i j => .int (i * 2 ^ j.toNat)) := iop_shl
theorem st_par3 {i j l : Nat} {ta : TA} {D : Ends} (h : ta σ H fun vs H1 => ∃ u v w, vs = [u, v, w] ∧ D.nx (((σ.set i (some u)).set j (some v)).set l (some w)) H1) : tPar3 i j l ta D σ H := h
theorem st_iRng3 {ta : TA} {R : It → Hp → Prop} (h : ta σ H fun vs H1 => ∃ (i j c : Int) (n : Nat), vs = [.int i, .int j, .int c] ∧ RgC i j c n ∧ R (Itc i c n) H1) : iRng3 ta σ H R := h
/-- [.. for i in range(lo, z, c)] -/
theorem lc_r3 {lo z c : Int} {j n : Nat} (hn : RgC lo z c n) (I : Nat → List V → Hp → Prop) (w : Wd G W H) (h0 : I 0 [] G) (hw : ∀ x, wipe ((wipe σ vs).set j x) vs = wipe σ vs)
    (hs : ∀ (i : Nat) D G' H' acc, i < n → Same G G' → Wd G' ((D, Is (.lst acc)) :: W) H' → I i acc G' → tt ((wipe σ vs).set j (some (.int (lo + (i : Int) * c)))) H' fun b H3 =>
      if b = true then te ((wipe σ vs).set j (some (.int (lo + (i : Int) * c)))) H3 fun y H4 => ∃ acc, H4 D = some (.lst acc) ∧ acc.length < sizeLine ∧ LcB I G W D (i + 1) (upd H4 D (.lst (acc ++ [y]))) else LcB I G W D (i + 1) H3)
    (hd : ∀ D G' H' acc, Same G G' → Wd G' ((D, Is (.lst acc)) :: W) H' → I n acc G' → Q (.ref D) H') : ∃ (i' j' c' : Int) (n' : Nat), [V.int lo, V.int z, V.int c] = [.int i', .int j', .int c'] ∧ RgC i' j' c' n' ∧ LcQ (Itc i' c' n') (gName j) tt te vs σ H Q :=
  ⟨lo, z, c, n, rfl, hn, lc_go (walk_rangeC) I w (fun _ _ _ _ _ => trivial) h0 (fun i x D G' H' H'' acc hi e w' h y => by
    obtain ⟨rfl, rfl⟩ := y
    exact ⟨hw _, hs i D G' H'' acc hi e w' h⟩) hd⟩
/-- a list of pairs -/
def PrG (G : Hp) : List V → List (Int × Int) → Prop
  | [], [] => True
  | x :: xs, p :: ps => (∃ t, x = .ref t ∧ G t = some (.tup [.int p.1, .int p.2])) ∧ PrG G xs ps
  | _, _ => False
theorem PrG.up {G G' : Hp} (e : Same G G') : ∀ {xs : List V} {ps : List (Int × Int)}, PrG G xs ps → PrG G' xs ps
  | [], [], _ => trivial
  | _ :: _, _ :: _, ⟨⟨t, h1, h2⟩, h3⟩ => ⟨⟨t, h1, e _ _ h2⟩, PrG.up e h3⟩
theorem PrG.app {G : Hp} {x : V} {p : Int × Int} (h : ∃ t, x = .ref t ∧ G t = some (.tup [.int p.1, .int p.2])) : ∀ {xs : List V} {ps : List (Int × Int)}, PrG G xs ps → PrG G (xs ++ [x]) (ps ++ [p])
  | [], [], _ => ⟨h, trivial⟩
  | _ :: _, _ :: _, ⟨h1, h3⟩ => ⟨h1, PrG.app h h3⟩
theorem PrG.len {G : Hp} : ∀ {xs : List V} {ps : List (Int × Int)}, PrG G xs ps → xs.length = ps.length
  | [], [], _ => rfl
  | _ :: _, _ :: _, ⟨_, h3⟩ => by rw [List.length_cons, List.length_cons, PrG.len h3]
/-- the pair at an address -/
def kOf (G : Hp) : V → Int × Int
  | .ref t => match G t with
    | some (.tup [.int i, .int j]) => (i, j)
    | _ => (0, 0)
  | _ => (0, 0)
theorem PrG.k {G : Hp} : ∀ {xs : List V} {ps : List (Int × Int)}, PrG G xs ps → xs.map (kOf G) = ps ∧ ∀ x ∈ xs, ∃ t, x = .ref t ∧ G t = some (.tup [.int (kOf G x).1, .int (kOf G x).2])
  | [], [], _ => ⟨rfl, (fun _ h => nomatch h)⟩
  | x :: xs, p :: ps, ⟨⟨t, h1, h2⟩, h3⟩ => by
    obtain ⟨a1, a2⟩ := PrG.k h3
    have e : kOf G x = p := by
      subst h1
      show (match G t with
        | some (.tup [.int i, .int j]) => (i, j)
        | _ => (0, 0)) = p
      rw [h2]
    refine ⟨by rw [List.map_cons, e, a1], fun y hy => ?_⟩
    rcases List.mem_cons.mp hy with rfl | hy
    · exact ⟨t, h1, by rw [e]; exact h2⟩
    · exact a2 y hy
theorem PrG.of_k {G : Hp} : ∀ {xs : List V}, (∀ x ∈ xs, ∃ t, x = .ref t ∧ G t = some (.tup [.int (kOf G x).1, .int (kOf G x).2])) → PrG G xs (xs.map (kOf G))
  | [], _ => trivial
  | _ :: _, h => ⟨h _ List.mem_cons_self, PrG.of_k fun y hy => h y (List.mem_cons_of_mem _ hy)⟩
theorem lex_uniq : ∀ {l m : List (Int × Int)}, SrtO.Srtd SrtO.lexB l → SrtO.Srtd SrtO.lexB m → l.Perm m → l = m
  | [], m, _, _, h => (List.Perm.eq_nil h.symm).symm
  | x :: l, [], _, _, h => absurd h.length_eq (by simp)
  | x :: l, y :: m, hl, hm, h => by
    have h1 : SrtO.lexB x y = false := by
      rcases List.mem_cons.mp (h.mem_iff.mp List.mem_cons_self) with e | hx
      · rw [e]
        exact SrtO.lexB_no.mpr (by omega)
      · exact SrtO.srtd_head hm x hx
    have h2 : SrtO.lexB y x = false := by
      rcases List.mem_cons.mp (h.mem_iff.mpr List.mem_cons_self) with e | hy
      · rw [e]
        exact SrtO.lexB_no.mpr (by omega)
      · exact SrtO.srtd_head hl y hy
    have n1 := SrtO.lexB_no.mp h1
    have n2 := SrtO.lexB_no.mp h2
    have e : x = y := Prod.ext (by omega) (by omega)
    subst e
    rw [lex_uniq (List.pairwise_cons.mp hl).2 (List.pairwise_cons.mp hm).2 (List.Perm.cons_inv h)]
/-- sorted(pairs): cs is what they are in order -/
theorem st_sortedP {xs : List V} {ps cs : List (Int × Int)} (ha : SqL K H a xs) (hp : PrG G xs ps) (w : Wd G W H) (hc : SrtO.Srtd SrtO.lexB cs) (hpm : cs.Perm ps)
    (k : ∀ p ys G' H', Same G G' → Wd G' W H' → G' p = some (.lst ys) → PrG G' ys cs → Q (.ref p) H') : rSortedPO K [.ref a] H Q := by
  obtain ⟨e1, e2⟩ := hp.k
  refine ⟨a, xs, kOf G, rfl, ha, fun x hx => ?_, fun ys p h1 h2 hn => ?_⟩
  · obtain ⟨t, h1, h2⟩ := e2 x hx
    exact ⟨t, h1, w.at h2⟩
  · have hy : ∀ x ∈ ys, ∃ t, x = V.ref t ∧ G t = some (.tup [.int (kOf G x).1, .int (kOf G x).2]) := fun x hx => e2 x (h2.perm.mem_iff.mp hx)
    have hk : ys.map (kOf G) = cs := lex_uniq (List.pairwise_map.mpr h1) hc (((h2.perm.map (kOf G)).trans (by rw [e1])).trans hpm.symm)
    have hP := PrG.of_k hy
    rw [hk] at hP
    have es : Same G (upd G p (.lst ys)) := same_upd (w.free hn)
    exact k p ys _ _ es (w.new hn) upd_same (hP.up es)
end
end Z

/-! dicts with tuples as keys: a display of one pair; texts of bits; a text from behind -/
namespace Z
open PySem PySem.Spec PyProof.Rows L2
section
variable {X : Cx} {σ : L2.St} {H G : Hp} {W : Wl} {Q : VK} {a : Addr} {te tk tv : TE} {pos : Pos}
theorem units1 {A : Around} (h : A.units + 64 < cLine) : A.units + 1 < cLine := Nat.lt_of_le_of_lt (by omega) h
/-- {k: v}, k a tuple of ints and texts -/
def OneT (p : Addr) (Q : VK) (ps : List (V × V)) (H2 : Hp) : Prop := ∃ b k y, ps = [(.ref b, y)] ∧ H2 p = some (.dT []) ∧ H2 b = some (.tup (k.map kV)) ∧ Q (.ref p) (upd H2 p (.dT [(k, y)]))
def tDisp1T (tk tv : TE) : TE := fun σ H Q => ∀ p, H p = none → tk σ (upd H p (.dT [])) fun x H1 => tv σ H1 fun y H2 => OneT p Q [(x, y)] H2
theorem pe_disp1T {k v : Expr} (hu : X.A.units + 1 < cLine) (hk : PE X k tk) (hv : PE X v tv) : PE X (.Dict [some k] [v] pos) (tDisp1T tk tv) := by
  refine ⟨fun pins s σ H Q I q => ?_⟩
  have hn := I.hok.fresh (Nat.le_refl s.heap.objs.size)
  have I1 := I.laid (a := s.heap.objs.size) (o := .dT []) (h' := s.heap.push { cls := .type "dict", data := .dict #[] }) (t' := s.toks) (fun _ _ q => Heap.get?_push_of_some _ q) (Nat.le_refl _) (dt_empty s.heap I.big)
  rw [arm_eval_Dict, zip_pairTrees [some k] [v] X.env pos rfl rfl, dictDisplay_pairs _ (by exact List.cons_ne_nil _ _) (by show 1 < 17; decide)]
  refine wpAny_bind (wpAny_standAt (wpAny_bind (wpAny_subDictH (knd := tupleKind (mixKind X.prog X.w)) (Q := fun d s' => wpAny (model X.prog X.w) X.A (pure (Value.ref d)) (EP X pins σ Q) X.xe s') (Nat.lt_of_succ_lt hu) (by show 1 ≤ 15; decide) ?_)))
  refine thn ((pps_cons hk hv pps_nil).run pins _ σ _ (OneT s.heap.objs.size Q) I1 (q _ hn)) fun ws s2 ⟨ps, H2, I2, rel, b, ks, y, ep, e, eb, q2⟩ => ?_
  subst ep
  cases rel with
  | @cons p0 w0 _ _ hp hr =>
  cases hr
  obtain ⟨kw, vw⟩ := w0
  obtain ⟨h1, h2⟩ := hp
  obtain rfl : kw = Value.ref b := h1
  obtain ⟨z, hd, xs, rel, dd⟩ := dt_of I2.hok e
  cases rel
  refine ⟨[(ks, b, vw)], ⟨rfl, rfl, key_of I2.hok eb, True.intro⟩, dd, fun h' tk' dd' hs => wpAny_pure ⟨.ref s.heap.objs.size, _, ?_, rfl, q2⟩⟩
  obtain ⟨o, es, ep, hq, h3, h4, h5, h6, h7⟩ := dd'
  refine d_write I2 (by rw [e]; exact True.intro) hs ⟨o, hq⟩ ⟨by show 1 ≤ sizeLine; decide, hd, [(ks, b, vw)], Paired.cons ⟨rfl, ?_, h2⟩ .nil, o, es, ep, hq, h3, h4, h5, h7⟩
  rw [upd_ne (ne_of eb e (fun z => nomatch z))]
  exact eb
theorem kys_map (c : List Int) : (c.map fun i => (Sum.inl i : Key)).map kV = c.map V.int := by
  rw [List.map_map]
  rfl
theorem st_disp1T (h : ∀ p, H p = none → tk σ (upd H p (.dT [])) fun x H1 => tv σ H1 fun y H2 => OneT p Q [(x, y)] H2) : tDisp1T tk tv σ H Q := h
theorem st_dnewT (h : NewO (.dT []) H Q) : tDNewT σ H Q := h
theorem st_dput {td ty tv : TE} {D : Ends} (h : tv σ H fun v H1 => td σ H1 fun x H2 => ty σ H2 fun y H3 => ∃ a H4, x = .ref a ∧ DPut H3 a y v H4 ∧ D.nx σ H4) : sDPut td ty tv D σ H := h
theorem st_dget {td ty : TE} (h : td σ H fun x H1 => ty σ H1 fun y H2 => ∃ a v, x = .ref a ∧ DGet H2 a y (some v) ∧ Q v H2) : tDGet td ty σ H Q := h
theorem st_din {td ty : TE} (h : ty σ H fun y H1 => td σ H1 fun x H2 => ∃ a o, x = .ref a ∧ DGet H2 a y o ∧ Q (.bl o.isSome) H2) : tDIn ty td σ H Q := h
theorem st_dnin {td ty : TE} (h : ty σ H fun y H1 => td σ H1 fun x H2 => ∃ a o, x = .ref a ∧ DGet H2 a y o ∧ Q (.bl (!o.isSome)) H2) : tDNotIn ty td σ H Q := h
/-! ### z[::-1] of a text -/
def revS (z : Str) : Str := ⟨z.cps.toList.reverse.toArray⟩
theorem picked_rev (z : Str) : slicePicked z none none (some ((-1 : Int), t)) = (List.range z.length).reverse := by
  unfold slicePicked Builtin.Str.strSliceIndices
  have h := PySem.W.krv_sliceRange z.length
  rw [PySem.W.krv_range] at h
  exact h
def tRevS (te : TE) : TE := fun σ H Q => te σ H fun x H1 => ∃ z, x = .str z ∧ z.length ≤ sizeLine ∧ Q (.str (revS z)) H1
theorem st_revS (h : te σ H fun x H1 => ∃ z, x = .str z ∧ z.length ≤ sizeLine ∧ Q (.str (revS z)) H1) : tRevS te σ H Q := h
theorem pe_revS {e : Expr} {k : Nat} {p1 p2 p3 pos : Pos} (he : PE X e te) : PE X (.Subscript e (.Slice none none (some (.UnaryOp .USub (.Constant (.int 1) k p1) p2)) p3) pos) (tRevS te) := by
  refine ⟨fun pins s σ H Q I h => ?_⟩
  refine Subscript_ (thn (he.run pins s σ H _ I h) fun v s1 ⟨x, H1, I1, r1, q1⟩ => ?_)
  obtain ⟨z, ex, hz, q⟩ := q1
  subst ex
  obtain ⟨t, rfl⟩ := r1
  have hst : PO X (some (.UnaryOp .USub (.Constant (.int 1) k p1) p2)) (tPart (tUn (rU fun i => .int (-i)) (tC (.int 1)))) := po_some (pe_un un_neg pe_int)
  refine wpAny_Slice (thn (po_none.run pins s1 σ H1 (fun o H2 => o = none ∧ H2 = H1) I1 ⟨rfl, rfl⟩) fun vl s2 ⟨l, H2, I2, pl, el, e2⟩ => ?_)
  subst el e2
  refine thn (po_none.run pins s2 σ H2 (fun o H3 => o = none ∧ H3 = H2) I2 ⟨rfl, rfl⟩) fun vu s3 ⟨u, H3, I3, pu, eu, e3⟩ => ?_
  subst eu e3
  refine thn (hst.run pins s3 σ H3 (fun o H4 => o = some (-1) ∧ H4 = H3) I3 ⟨1, rfl, -1, rfl, rfl, rfl⟩) fun vs s4 ⟨o, H4, I4, ps, eo, e4⟩ => ?_
  subst eo e4
  have I5 : Inv X pins σ H4 { s4 with heap := s4.heap.push { cls := .type "slice", data := .fields #[vl, vu, vs] } } := I4.kept (t' := s4.toks) fun b ob q => Heap.get?_push_of_some _ q
  obtain ⟨l, rfl, el⟩ := IsPart.raw pl
  obtain ⟨u, rfl, eu⟩ := IsPart.raw pu
  obtain ⟨st, rfl, es⟩ := IsPart.raw ps
  cases l with
  | some l => cases el
  | none =>
  cases u with
  | some u => cases eu
  | none =>
  cases st with
  | none => cases es
  | some st =>
  obtain ⟨i, ti⟩ := st
  obtain rfl : i = -1 := Option.some.inj es
  show wpAny (model X.prog X.w) X.A (subscriptTail e (.Slice none none (some (.UnaryOp .USub (.Constant (.int 1) k p1) p2)) p3) (.str z t) (.ref s4.heap.objs.size)) (EP X pins σ Q) X.xe { s4 with heap := s4.heap.push { cls := .type "slice", data := .fields #[_, _, _] } }
  refine tail_any (ops := [.ref s4.heap.objs.size, .str z t]) (typeIs_str _ _ _) F.slot_str_getitem.lookup ?_ (by with_unfolding_all rfl)
  refine wpAny_getItem_str_slice (l := none) (u := none) (st := some (-1, ti)) ⟨_, Heap.get?_push_size _ rfl, rfl, rfl⟩ rfl ?_
  show Made.post (if ((-1 : Int) == 1 && (slicePicked z none none (some (-1, ti))).length == z.length) = true then Made.val (.str z t)
    else Made.str ⟨((slicePicked z none none (some (-1, ti))).filterMap (z.cps[·]?)).toArray⟩) (EP X pins σ Q) _
  rw [if_neg (by simp), picked_rev, List.filterMap_reverse, show (List.range z.length).filterMap (z.cps[·]?) = z.cps.toList from PySem.W.krv_all _]
  refine ⟨?_, .str _, H4, I5.tok _, ⟨_, rfl⟩, q⟩
  show ((z.cps.toList.reverse).toArray).size ≤ sizeLine
  rw [List.size_toArray, List.length_reverse, Array.length_toList]
  exact hz
/-! ### texts of bits -/
def bt (bs : List Int) : Str := ⟨(bs.map fun b => (48 + b).toNat).toArray⟩
theorem bt_rev (bs : List Int) : revS (bt bs) = bt bs.reverse := by
  unfold revS bt
  rw [List.toList_toArray, List.map_reverse]
theorem bt_len (bs : List Int) : (bt bs).length = bs.length := by
  show ((bs.map fun b => (48 + b).toNat).toArray).size = _
  rw [List.size_toArray, List.length_map]
theorem bt_inj : ∀ {as bs : List Int}, (∀ b ∈ as, 0 ≤ b) → (∀ b ∈ bs, 0 ≤ b) → bt as = bt bs → as = bs := by
  intro as bs ha hb h
  have h1 : (as.map fun b => (48 + b).toNat) = bs.map fun b => (48 + b).toNat := by
    have := congrArg (fun z : Str => z.cps.toList) h
    simpa [bt] using this
  clear h
  induction as generalizing bs with
  | nil => cases bs with
    | nil => rfl
    | cons b bs => cases h1
  | cons a as ih =>
    cases bs with
    | nil => cases h1
    | cons b bs =>
      rw [List.map_cons, List.map_cons] at h1
      injection h1 with h2 h3
      have := ha a List.mem_cons_self
      have := hb b List.mem_cons_self
      rw [ih (fun x hx => ha x (List.mem_cons_of_mem _ hx)) (fun x hx => hb x (List.mem_cons_of_mem _ hx)) h3, show a = b by omega]
theorem bt_one {b : Int} (h : b = 0 ∨ b = 1) : (toString b : Str) = bt [b] := by
  rcases h with rfl | rfl <;> rfl
theorem bt_join (bs : List Int) : Txt.join "" (bs.map fun b => bt [b]) = bt bs := by
  rw [TL.join_eq]
  have hj : ∀ ps : List (List Nat), TL.joinL [] ps = ps.flatten := by
    intro ps
    induction ps with
    | nil => rfl
    | cons p ps ih =>
      cases ps with
      | nil => simp [TL.joinL]
      | cons q r =>
        show p ++ ([] ++ TL.joinL [] (q :: r)) = _
        rw [ih, List.nil_append]
        rfl
  have h := TL.tl_join "" (bs.map fun b => bt [b])
  rw [show TL.tl "" = [] from rfl, hj] at h
  have h2 : ((bs.map fun b => bt [b]).map TL.tl).flatten = TL.tl (bt bs) := by
    induction bs with
    | nil => rfl
    | cons b bs ih =>
      rw [List.map_cons, List.map_cons, List.flatten_cons]
      have h := TL.tl_join "" (bs.map fun b => bt [b])
      rw [show TL.tl "" = [] from rfl, hj] at h
      rw [ih h]
      rfl
  rw [h2] at h
  generalize Str.join "" (bs.map fun b => bt [b]) = z at h
  obtain ⟨c⟩ := z
  have : c.toList = (bt bs).cps.toList := h
  have : c = (bt bs).cps := Array.toList_inj.mp this
  subst this
  rfl
theorem st_m1 {r : V → List V → Hp → VK → Prop} {to te : TE} (h : to σ H fun x H1 => (∃ a, x = .str a) ∧ te σ H1 fun y H2 => r x [y] H2 Q) : tM1 r to te σ H Q := h
/-! ### an object for good that may change again -/
def del (G : Hp) (p : Addr) : Hp := fun b => if b = p then none else G b
theorem del_at {p b : Addr} {o : HO} (h : G b = some o) (hb : b ≠ p) : del G p b = some o := by
  unfold del
  rw [if_neg hb]
  exact h
theorem del_same {G0 : Hp} {p : Addr} (e : Same G0 G) (hp : G0 p = none) : Same G0 (del G p) := fun b o h => del_at (e _ _ h) (ne_of_none h hp)
theorem Wd.thaw {o : HO} (w : Wd G W H) (h : G a = some o) : Wd (del G a) ((a, Is o) :: W) H := by
  have hn : ∀ q ∈ W, q.1 ≠ a := fun q hq e => by
    have := (w.own q hq).1
    rw [e, h] at this
    cases this
  refine ⟨fun b u hb => ?_, fun q hq => ?_, ?_⟩
  · unfold del at hb
    split at hb
    · cases hb
    · exact w.ex _ _ hb
  · rcases List.mem_cons.mp hq with rfl | hq
    · exact ⟨by unfold del; rw [if_pos rfl], o, w.at h, rfl⟩
    · refine ⟨?_, (w.own q hq).2⟩
      unfold del
      rw [if_neg (hn q hq)]
      exact (w.own q hq).1
  · rw [List.map_cons]
    refine List.nodup_cons.mpr ⟨fun hm => ?_, w.nd⟩
    obtain ⟨q, hq, e⟩ := List.mem_map.mp hm
    exact hn q hq e
def rJoin (K : PySem.W.Frag) : V → List V → Hp → VK → Prop := fun x xs H Q => ∃ a p, ∃ ys : List Str, x = .str a ∧ xs = [.ref p] ∧ (SqL K H p (ys.map V.str) ∨ SqT K H p (ys.map V.str)) ∧
  (ys.map (·.length)).sum + ys.length * a.length ≤ 16777216 ∧ Q (.str (Txt.join a ys)) H
theorem pe_joinK {o e : Expr} {to te : TE} {apos pos : Pos} (ho : PE X o to) (he : PE X e te) (hs : starEach [e] X.env = [(false, eval e X.env)] := by rfl) (hbase : attributeBase o "join" X.env (eval o X.env) = eval o X.env := by rfl) (hline : (apos.endLine == pos.line) = true := by rfl) :
    PE X (.Call (.Attribute o "join" apos) [e] [] pos) (tM1 (rJoin X.K) to te) := pe_join ho he hs hbase hline
def rLenQ (K : PySem.W.Frag) : List V → Hp → VK → Prop := fun xs H Q => ∃ p ys, xs = [.ref p] ∧ (SqL K H p ys ∨ SqT K H p ys) ∧ Q (.int ys.length) H
theorem call_lenQ : CallR X (.builtin "len") (rLenQ X.K) := call_len_seq
end
end Z

/-! own exceptions with two fields; several except clauses with names; an instance called inside a try; keys of a dict with tuples -/
namespace PySem
namespace ZEX
open PySem.W PySem.Calls PyProof.Rows PySem.HandSPX
open Builtin Builtin.ObjectAttr
section
variable {prog : Program} {w : World} {A : Around} {E : Value → Shared → Prop} {R : Result → Shared → Prop} {hp : Heap} {g : Array GenState} {d : Drawn} {t : Nat} {os : OsState}
theorem z_osa2 {K : W.Frag} {name : Str} {tk : Tok} {v : Value} {x C dx : Addr} {fv : Array Value} {cd : ClassData} {bmB : List Value} {m0 : Str → Option Value} {nl : List Str} (pass : ∀ self, refuseLoop self "__setattr__" bmB = pure ()) (hob0 : bmB.contains (.type "object") = true)
    (X : K.In hp) (hx : hp.get? x = some { cls := .ref C, dict := some dx, data := .fields fv }) (hns : hp.Ns1 dx m0) (hw : Within m0 nl) (hz : nl.length ≤ 1000) (hcd : W.clsIn K C = some cd) (hm : cd.mro = .ref C :: bmB) (hh : cd.hasDict = true) (ha : W.findIn K (.ref C) name = some none)
    (hq : ∀ h' tk', (∀ b o, b ≠ dx → hp.get? b = some o → h'.get? b = some o) → h'.Ns1 dx (fun y => if y = name then some v else m0 y) → R (.ok (.ret .none)) ⟨h', g, d, tk', os⟩) :
    codeAny (model prog w) A (.call (.builtin "object.__setattr__") ⟨[.ref x, .str name tk, v], []⟩) R ⟨hp, g, d, t, os⟩ := by
  obtain ⟨oD, esD, epD, hoD, hdD, _⟩ := hns.count hw
  have i0 : W.InstAt hp x { cls := .ref C, dict := some dx, data := .fields fv } C (some oD) := ⟨hx, rfl, rfl, hoD⟩
  have S := F.store_object
  have ne : cd.mro.isEmpty = false := by rw [hm]; rfl
  have hob : cd.mro.contains (.type "object") = true := by rw [hm, List.contains_cons, hob0, Bool.or_true]
  have hps : refuseLoop (.ref x) "__setattr__" cd.mro = pure () := by rw [hm, refuseLoop_ref]; exact pass _
  have li : W.Looks (model prog w) hp (isInstance (.ref x) (.type "object")) true := i0.type.andThen (W.looks_mroIn X (by unfold W.mroIn; rw [hcd, Option.bind_some, if_neg (by rw [ne]; decide), hob]))
  refine codeAny_call_builtin S.slot.plain S.entry (@W.check_slot (model prog w) _ _ ⟨hp, g, d, t, os⟩ "object.__setattr__" "object" "__setattr__" (.ref x) [.str name tk, v] [] _ S.kind S.split li (S.args (.ref x) (.str name tk) v) ?_)
  have lm : W.Looks (model prog w) hp (mroOf (.ref C)) cd.mro := (W.looks_clsIn X hcd).andThen .now
  have lt : W.Looks (model prog w) hp (storeTaker? none) none := .now
  have lc : W.Looks (model prog w) hp (classData C) cd := W.looks_clsIn X hcd
  rw [W.osa_eq, refuse_eq]
  refine wpAny_bind (wpAny_bind (i0.type.at (wpAny_bind (lm.at ?_))))
  rw [hps]
  refine wpAny_pure (wpAny_bind (i0.type.at (wpAny_bind ((W.looks_findIn X ha).at (wpAny_bind (lt.at ?_))))))
  show wpAny (model prog w) _ (storeInOwnDict (.ref x) (.ref C) (.str name tk) name v false) _ _ _
  obtain ⟨nm, bs, mro, ns, qn, hd, sn, sb, ab, col, del⟩ := cd
  dsimp only at hh
  subst hh
  unfold storeInOwnDict ownDictForStores
  repeat first | (with_reducible refine PySem.OEX.store_in_old hns hw hz ?_) | (with_reducible refine wpAny_loadPart_at hx ?_) | (with_reducible refine lc.at ?_) | wp_step
  exact fun h' tk' hn' hs => hq h' tk' (fun b o hb ho => (hs.2 b hb).trans ho) hn'
end
end ZEX
end PySem
namespace Z
open PySem PySem.Spec PyProof.Rows L2
section
variable {X : Cx} {pins : List (Addr × Obj)} {σ : L2.St} {H : Hp} {s : Shared} {a C dx : Addr} {f : Str} {y : V} {u : Value} {E : Value → Shared → Prop} {A : Around} {B newId initId : String} {bmB : List Value} {fs : List (Str × V)}
theorem z_ost2 {Q : Unit → Shared → Prop} (T : OexB X.K C B newId initId bmB) (I : Inv X pins σ H s) (e : H a = some (exo a C (some dx))) (ed : H dx = some (exd dx fs)) (hl : fs.length ≤ 900) (hno : PySem.W.findIn X.K (.ref C) f = some none) (ry : RelV y u)
    (h : ∀ s', Inv X pins σ (upd H dx (exd dx ((f, y) :: fs))) s' → Q () s') : wpAny (model X.prog X.w) A (setAttr (.ref a) f u) Q E s := by
  obtain ⟨nm, q, N, bs, sn, sub, ab, col, dd, k0, k1, k2, k3, k5, hC⟩ := T.cls
  have hcl : PySem.W.clsIn X.K C = some { name := nm, bases := bs, mro := .ref C :: bmB, ns := N, qualname := q, hasDict := true, slotNames := sn, subclasses := sub, abstract := ab, collection := col, hasDel := false } := by
    unfold PySem.W.clsIn
    rw [hC] <;> rfl
  obtain ⟨t1, ho⟩ := exo_at I.hok e
  obtain ⟨mA, hns, rel⟩ := exd_at I.hok ed
  have hw := within_of rel
  obtain ⟨hp, g, d, t, os⟩ := s
  obtain ⟨oD, _, _, hoD, _, _⟩ := hns.count hw
  refine PySem.W.set_plain I.kIn (od := some oD) (ox := { cls := .ref C, dict := some dx, data := .fields #[.ref t1, .none, .none, .none, .bool false, .none] }) ⟨ho, rfl, rfl, hoD⟩ T.sa ?_
  refine PySem.ZEX.z_osa2 T.pass T.hob I.kIn ho hns hw (by rw [List.length_map]; omega) hcl rfl rfl hno fun h' tk' k hn => ?_
  have hd : ∃ o, h'.get? dx = some o := let ⟨o, _, _, e', _⟩ := hn; ⟨o, e'⟩
  exact h _ (I.write (t' := tk') (x := dx) (e := dx) (o := exd dx ((f, y) :: fs)) (by rw [ed]; exact True.intro) (.inl rfl) k hd (exd_ok hn (relO_put ry rel)))
end
/-- self.f = e, a further field -/
def tBst2 (K : PySem.W.Frag) (B newId initId : String) (bmB : List Value) (f : Str) (to te : TE) : TS := fun D σ H => te σ H fun y H1 => to σ H1 fun x H2 => ∃ a C dx fs, x = .ref a ∧ OexB K C B newId initId bmB ∧ PySem.W.findIn K (.ref C) f = some none ∧
  H2 a = some (exo a C (some dx)) ∧ H2 dx = some (exd dx fs) ∧ fs.length ≤ 900 ∧ D.nx σ (upd H2 dx (exd dx ((f, y) :: fs)))
section
variable {X : Cx} {o e : Expr} {to te : TE} {f : Str} {p' pos : Pos} {B newId initId : String} {bmB : List Value} {σ : L2.St} {H G : Hp} {W : Wl}
theorem ps_bst2 (ho : PE X o to) (he : PE X e te) (hs : swapsWith e (some (.Attribute o f p')) pos.line X.env = pure false := by rfl) : PS X (.Assign [.Attribute o f p'] e pos) (tBst2 X.K B newId initId bmB f to te) := by
  refine ⟨fun pins s σ H D I h => plainObj_wpAny_Assign_Attribute (thn (he.run pins s σ H _ I h) fun v s1 ⟨y, H1, I1, r1, q1⟩ => thn (ho.run pins s1 σ H1 _ I1 q1) fun u s2 ⟨x, H2, I2, r2, a, C, dx, fs, ex, T, hno, ea, ed, hl, q⟩ => ?_) hs⟩
  subst ex
  cases (show u = Value.ref a from r2)
  exact z_ost2 T I2 ea ed hl hno r1 fun s' J => ⟨σ, _, J, q⟩
theorem st_bst2 {K : PySem.W.Frag} {D : Ends} (h : te σ H fun y H1 => to σ H1 fun x H2 => ∃ a C dx fs, x = .ref a ∧ OexB K C B newId initId bmB ∧ PySem.W.findIn K (.ref C) f = some none ∧
  H2 a = some (exo a C (some dx)) ∧ H2 dx = some (exd dx fs) ∧ fs.length ≤ 900 ∧ D.nx σ (upd H2 dx (exd dx ((f, y) :: fs)))) : tBst2 K B newId initId bmB f to te D σ H := h
end
/-- what an __init__ of two fields gives -/
def sp_init2 (C : Addr) (n m : Str) : Sp := fun vs H Q _ => ∃ (a : Addr) (v u : V), vs = [.ref a, v, u] ∧ H a = some (exo a C none) ∧ ∀ d, H d = none → d ≠ a → Q .non (upd (upd (upd H d (exd d [(n, v)])) a (exo a C (some d))) d (exd d [(m, u), (n, v)]))
theorem mk_done2 {G H : Hp} {W : Wl} {C : Addr} {n m : Str} {v u : V} {Q : XK} (w : Wd G W H) (k : ∀ d G' H', Same G G' → Wd G' W H' → G' d = some (.xd [(m, u), (n, v)]) → Q (.ref C) (some d) H') (a : Addr) (ha : H a = none) :
    sp_init2 C n m [.ref a, v, u] (upd H a (exo a C none)) (fun v H2 => v = .non ∧ ∃ (d : Addr) (fs : List (Str × V)), H2 a = some (exo a C (some d)) ∧ H2 d = some (exd d fs) ∧ H d = none ∧ Q (.ref C) (some d) (upd (L2.del H2 a) d (.xd fs))) (fun _ _ _ => False) := by
  refine ⟨a, v, u, rfl, upd_same, fun d hd hda => ⟨rfl, d, [(m, u), (n, v)], ?_, upd_same, ?_, ?_⟩⟩
  · rw [upd_ne (Ne.symm hda), upd_same]
  · rw [upd_ne hda] at hd
    exact hd
  · rw [upd_ne hda] at hd
    have e : upd (L2.del (upd (upd (upd (upd H a (exo a C none)) d (exd d [(n, v)])) a (exo a C (some d))) d (exd d [(m, u), (n, v)])) a) d (.xd [(m, u), (n, v)]) = upd H d (.xd [(m, u), (n, v)]) := by
      funext b
      by_cases hb : b = d
      · rw [hb, upd_same, upd_same]
      · rw [upd_ne hb, upd_ne hb]
        by_cases hba : b = a
        · rw [hba, L2.del_same, ha]
        · rw [L2.del_ne hba, upd_ne hb, upd_ne hba, upd_ne hb, upd_ne hba]
    rw [e]
    exact k d _ _ (same_upd (w.free hd)) (w.new hd) upd_same
/-! ### try with several clauses, each with a name or without -/
abbrev ClN := Value × Option Nat × (Addr → Value → Option Addr → TS)
/-- behind a suite its name is gone -/
def goneD (D : Ends) : Option Nat → Ends
  | none => D
  | some i => { nx := fun σ' H' => D.nx (σ'.set i none) H', rt := D.rt, bk := fun σ' H' => D.bk (σ'.set i none) H', ct := fun σ' H' => D.ct (σ'.set i none) H' }
def putN (σ : L2.St) (a : Addr) : Option Nat → L2.St
  | none => σ
  | some i => σ.set i (some (.ref a))
/-- what the clauses wish of an exception of the body, from the first on -/
def wCl (K : PySem.W.Frag) (Wout : WX) (D : Ends) : List ClN → WX
  | [] => Wout
  | (c, o, ts) :: r => fun cls d σ H => ∃ b, PySem.W.exmOne K cls c = some b ∧ (b = true → ∀ a, H a = none → ts a cls d (goneD D o) (putN σ a o) H) ∧ (b = false → wCl K Wout D r cls d σ H)
inductive HdN (X : Cx) : List ExceptHandler → List ClN → Prop
  | nil : HdN X [] []
  | bare {x : Str} {c : Value} {ts : Addr → Value → Option Addr → TS} {b₀ : Stmt} {suite : List Stmt} {np pos' : Pos} {hds : List ExceptHandler} {l : List ClN} (hc : Names X x c)
      (hsu : ∀ (a : Addr) (oe : Obj) (cls : Value) (d : Option Addr) (pn : List (Addr × Obj)), Zc cls d oe → (∃ vs, oe.data = .fields vs) → PSs (X.suite a ((a, oe) :: pn)) (b₀ :: suite) (ts a cls d)) (r : HdN X hds l) :
      HdN X (.ExceptHandler (some (.Name x np)) none (b₀ :: suite) pos' :: hds) ((c, none, ts) :: l)
  | named {x n : Str} {i : Nat} {c : Value} {ts : Addr → Value → Option Addr → TS} {b₀ : Stmt} {suite : List Stmt} {np pos' : Pos} {hds : List ExceptHandler} {l : List ClN} (hN : X.N.Nodup) (hi : X.N[i]? = some n) (hln : X.env.kindOf n = some .local) (hc : Names X x c)
      (hsu : ∀ (a : Addr) (oe : Obj) (cls : Value) (d : Option Addr) (pn : List (Addr × Obj)), Zc cls d oe → (∃ vs, oe.data = .fields vs) → PSs (X.suite a ((a, oe) :: pn)) (b₀ :: suite) (ts a cls d)) (r : HdN X hds l) :
      HdN X (.ExceptHandler (some (.Name x np)) (some n) (b₀ :: suite) pos' :: hds) ((c, some i, ts) :: l)
section
variable {X : Cx} {body : List Stmt} {h₀ : ExceptHandler} {hds : List ExceptHandler} {l : List ClN} {pos : Pos} {tb : WX → TS} {Wout : WX}
theorem ps_tryN (hs : X.stack = X.env :: X.outer) (hf : X.env.frame = some X.env.locals) (tk : Takes X Wout)
    (hb : ∀ (W : WX) (pn : List (Addr × Obj)) (xe : Value → Shared → Prop), Takes (X.tr pn xe) W → PassesOwn (model X.prog X.w) X.A X.env xe → PSs (X.tr pn xe) body (tb W))
    (hh : HdN X (h₀ :: hds) l) : PS X (.Try body (h₀ :: hds) [] [] pos) (fun D σ H => tb (wCl X.K Wout D l) D σ H) := by
  refine ⟨fun pins s σ H D I h => ?_⟩
  have ok := I.ok
  have hfr : X.A.frames = some (X.env :: X.outer) := by rw [ok.frames, hs]
  refine wpAny_Try_except ?_
  refine wpAny_mono ((hb (wCl X.K Wout D l) (X.pn ++ pins) (fun e s₁ => wpAny (model X.prog X.w) X.A (noteFrame e X.env) (fun _ s₂ => wpAny (model X.prog X.w) X.A (setFlight e none) (fun _ s₃ =>
    wpAny (model X.prog X.w) X.A (handleBy e X.env (h₀ :: hds)) (SP X pins D) X.xe s₃) X.xe s₂) X.xe s₁) (fun u s' xx => ?_) PassesOwn.looking).run [] s σ H D (I.toTry _) h) (fun f s1 hsp => ?_) (fun e s1 he => he)
  · obtain ⟨a, B, sI, pins', σ', H', cls, d, rfl, J', nb, up, sky, na, os, ag, wish⟩ := xx
    have J : Inv X pins σ' H' sI := J'.ofTry ok
    show wpAny (model X.prog X.w) X.A (noteFrame (.ref a) X.env) _ _ _
    refine Sky.land Zc.steady hfr hf (by rw [← hs]; exact sky) fun h3 fl3 up3 => ?_
    have J3 : Inv X pins σ' H' { s' with heap := h3 } := J.landed nb fl3.1 (up.trans up3) os ag
    obtain ⟨oe3, vs3, he3, hz3, hd3⟩ := fl3.there
    have nfr : a ∉ frs (X.env :: X.outer) := fun hm => by
      obtain ⟨_, o', e', hnf⟩ := fl3.2.2.1.mem hm
      rw [he3] at e'
      cases e'
      exact hnf _ hd3
    have nL : a ≠ X.env.locals := fun z => nfr (List.mem_filterMap.mpr ⟨X.env, List.mem_cons_self, by rw [hf, z]⟩)
    have nF : a ∉ X.fs := fun hm => by
      obtain ⟨e, he, q⟩ := List.mem_filterMap.mp hm
      exact nfr (List.mem_filterMap.mpr ⟨e, List.mem_cons_of_mem _ he, q⟩)
    have S3 := J3.suite he3 hd3 na nL nF
    have LT : PySem.W.Looks (model X.prog X.w) h3 (typeOf (.ref a)) cls := fun A Q E s k q => wpAny_typeOf_ref (k _ _ he3) (by rw [hz3.1]; exact q)
    have test : ∀ {x : Str} {c : Value} {np : Pos} {Q : Value → Shared → Prop} {E : Value → Shared → Prop}, Names X x c → Q c { s' with heap := h3 } → wpAny (model X.prog X.w) (X.A.mark (some (.ref a))) (eval (.Name x np) X.env) Q E { s' with heap := h3 } := fun {x c np Q E} hc q => by
      obtain ⟨hg, hdbg, hm | ⟨hm, hv, hnn⟩⟩ := hc
      · exact ld_glob (X := X.suite a ((a, oe3) :: (X.pn ++ pins))) S3 hg hm q hdbg
      · exact ld_blt (X := X.suite a ((a, oe3) :: (X.pn ++ pins))) S3 hg hm hv q hnn hdbg
    have go : ∀ {hds' : List ExceptHandler} {l' : List ClN}, HdN X hds' l' → wCl X.K Wout D l' cls d σ' H' → wpAny (model X.prog X.w) X.A (handleBy (.ref a) X.env hds') (SP X pins D) X.xe { s' with heap := h3 } := by
      intro hds' l' hk
      induction hk with
      | nil =>
        intro wish
        refine wpAny_handleBy_nil ?_
        obtain ⟨k1, k2, k3, oe, vs, T, oT, ts', he, hz, hd, h1, hr⟩ := id fl3
        unfold PySem.passOn
        refine wpAny_bind (wpAny_field he hd h1 ?_)
        rw [if_neg (show ¬ ((Value.ref T == Value.none) = true) from by simp)]
        have fin : wpAny (model X.prog X.w) X.A (setFlight (.ref a) X.env.frame) (fun _ s4 => wpAny (model X.prog X.w) X.A (throw (.ref a) : Sem Flow) (SP X pins D) X.xe s4) X.xe { s' with heap := h3 } := by
          rw [hf]
          exact HandSPX.setFlight_upZ fl3 fun h4 hh4 up4 => wpAny_throw (tk _ _ ⟨a, B, sI, pins, σ', H', cls, d, rfl, J, nb, (up.trans up3).trans up4, .inr (.inr (by rw [hs]; exact hh4)), na, os, ag, wish⟩)
        first
          | exact wpAny_bind (wpAny_pure (wpAny_bind fin))
          | exact wpAny_bind fin
      | bare hc hsu _ ih =>
        rintro ⟨b, hb1, hyes, hno⟩
        refine wpAny_handleBy_cons (codeAny_handlers_test ?_) (by intro q; cases q)
        refine test hc ((PySem.W.exm_one (M := model X.prog X.w) (J3.kIn) LT hb1).here ?_)
        cases b with
        | false => exact ih (hno rfl)
        | true =>
          refine codeAny_handlers_suite (HandSPX.lands_againZ fl3 fun h4 fl4 up4 => ?_)
          have J4 : Inv X pins σ' H' { s' with heap := h4 } := J.landed nb fl4.1 ((up.trans up3).trans up4) os ag
          obtain ⟨oe4, vs4, he4, hz4, hd4⟩ := fl4.there
          refine wpAny_mono ((hsu a oe4 cls d (X.pn ++ pins) hz4 ⟨_, hd4⟩).run [] _ _ H' _ (J4.suite he4 hd4 na nL nF) (hyes rfl a na)) (fun f s6 hsp => ?_) (fun _ _ z => False.elim z)
          cases f with
          | ret u => exact let ⟨_, _, _, S6, r6, q6⟩ := hsp; ⟨_, _, _, S6.unsuite ok, r6, q6⟩
          | next => exact let ⟨_, _, S6, q6⟩ := hsp; ⟨_, _, S6.unsuite ok, q6⟩
          | brk => exact let ⟨_, _, S6, q6⟩ := hsp; ⟨_, _, S6.unsuite ok, q6⟩
          | cont => exact let ⟨_, _, S6, q6⟩ := hsp; ⟨_, _, S6.unsuite ok, q6⟩
      | named hN hi hln hc hsu _ ih =>
        rintro ⟨b, hb1, hyes, hno⟩
        refine wpAny_handleBy_cons (codeAny_handlers_test ?_) (by intro q; cases q)
        refine test hc ((PySem.W.exm_one (M := model X.prog X.w) (J3.kIn) LT hb1).here ?_)
        cases b with
        | false => exact ih (hno rfl)
        | true =>
          refine codeAny_handlers_suite_as (HandSPX.lands_againZ fl3 fun h4 fl4 up4 => ?_)
          have J4 : Inv X pins σ' H' { s' with heap := h4 } := J.landed nb fl4.1 ((up.trans up3).trans up4) os ag
          obtain ⟨oe4, vs4, he4, hz4, hd4⟩ := fl4.there
          refine store_ok (X := X.suite a ((a, oe4) :: (X.pn ++ pins))) (v := .ref a) (J4.suite he4 hd4 na nL nF) hN hi (.inl hln) rfl (fun s5 S5 => ?_) (.inr hln)
          refine wpAny_mono ((hsu a oe4 cls d (X.pn ++ pins) hz4 ⟨_, hd4⟩).run [] s5 _ H' _ S5 (hyes rfl a na)) (fun f s6 hsp => ?_) (fun _ _ z => False.elim z)
          cases f with
          | ret u => exact let ⟨_, _, _, S6, r6, q6⟩ := hsp; gone_ok (S6.unsuite ok) hN hi hln fun s7 J7 => ⟨_, _, _, J7, r6, q6⟩
          | next => exact let ⟨_, _, S6, q6⟩ := hsp; gone_ok (S6.unsuite ok) hN hi hln fun s7 J7 => ⟨_, _, J7, q6⟩
          | brk => exact let ⟨_, _, S6, q6⟩ := hsp; gone_ok (S6.unsuite ok) hN hi hln fun s7 J7 => ⟨_, _, J7, q6⟩
          | cont => exact let ⟨_, _, S6, q6⟩ := hsp; gone_ok (S6.unsuite ok) hN hi hln fun s7 J7 => ⟨_, _, J7, q6⟩
    exact go hh wish
  · cases f with
    | next => exact let ⟨σ', H', J', q⟩ := hsp; wpAny_execs_nil ⟨σ', H', J'.ofTry ok, q⟩
    | brk => exact let ⟨σ', H', J', q⟩ := hsp; ⟨σ', H', J'.ofTry ok, q⟩
    | cont => exact let ⟨σ', H', J', q⟩ := hsp; ⟨σ', H', J'.ofTry ok, q⟩
    | ret u => exact let ⟨v, σ', H', J', r, q⟩ := hsp; ⟨v, σ', H', J'.ofTry ok, r, q⟩
end
/-! ### an instance called -/
section
variable {X : Cx} {CX : CXT} {k : Nat} {C g : Addr} {sp : Sp} {fe e : Expr} {es : List Expr} {tf : TE} {t : TA} {pos : Pos} {σ : L2.St} {H : Hp} {Q : VK} {m : Str} {f : Addr}
/-- o(..), o an instance of C; its exceptions go where the try says -/
def tCallOS (C : Addr) (sp : Sp) (E : L2.St → XK) (tf : TE) (t : TA) : TE := fun σ H Q => tf σ H fun y H1 => ∃ a, y = V.ref a ∧ t σ H1 fun vs H2 => (∃ dx fs, H2 a = some (.ins C dx fs)) ∧ sp (V.ref a :: vs) H2 Q (E σ)
theorem pe_callOS {E : L2.St → XK} {fd : FuncData} {ps : List Str} (hf : PE X fe tf) (c : StX.CallO X.K C g) (F : FnOk X.prog X.w X.K X.mg X.base CX k g fd ps sp) (hr : Room k X.A) (hb : Binds X.K fd ps []) (hx : ∀ σ, PassesAt CX X σ (E σ)) (ha : PA X (e :: es) t)
    (ht : eval (.Call fe (e :: es) [] pos) X.env = (do callWith pos (← eval fe X.env) [] (backTo pos (starEach (e :: es) X.env)) (backToKw pos (keywordEach [] X.env))) := by rfl)
    (he : starEach (e :: es) X.env = (false, eval e X.env) :: starEach es X.env := by rfl) (hpl : (backTo pos (starEach es X.env)).any (·.1) = false := by rfl) : PE X (.Call fe (e :: es) [] pos) (tCallOS C sp E tf t) := by
  refine ⟨fun pins s σ H Q I h => ?_⟩
  refine Call_ (thn (hf.run pins s σ H _ I h) fun u s1 ⟨y, H1, I1, ry, a, ey, q⟩ => ?_) ht
  subst ey
  obtain rfl : u = Value.ref a := ry
  refine StX.callO_with (thn (ha.run pos pins s1 σ H1 _ I1 q) fun us s2 ⟨vs, H2, I2, r, hi, q2⟩ => ?_) he hpl
  obtain ⟨ox, od, J, hd⟩ := StX.insC_at (C := C) I2 (.inr hi)
  refine ⟨⟨C, ox, od, J, hd⟩, wpAny_call (PySem.W.kco_code I2.kIn J hd c.at_ c.fn c.fi ?_)⟩
  have r2 : Vals (V.ref a :: vs) ((Value.ref a :: us) ++ []) := by
    rw [List.append_nil]
    exact .cons rfl r
  refine codeAny_mono (F.run X.A X.stack s2 H2 ⟨Value.ref a :: us, []⟩ _ _ Q (E σ) hr I2.env0 (hb s2 (Value.ref a :: us) I2.kIn (by have e2 := r2.length; rw [F.len _ _ _ _ q2] at e2; exact e2.symm)) r2 q2) fun r s' hq => ?_
  cases r with
  | error e => exact hx σ pins H2 s2 e s' I2 hq
  | ok fl => cases fl with
    | ret u => exact I2.after hq
    | _ => exact False.elim hq
theorem st_callOS {E : L2.St → XK} (h : tf σ H fun y H1 => ∃ a, y = V.ref a ∧ t σ H1 fun vs H2 => (∃ dx fs, H2 a = some (.ins C dx fs)) ∧ sp (V.ref a :: vs) H2 Q (E σ)) : tCallOS C sp E tf t σ H Q := h
end
/-! ### enumerate of a text; a comprehension over a text -/
def IteS (z : Str) : It :=
  ⟨fun i _ => i < z.cps.size, fun i H v H' => ∃ T c, v = .ref T ∧ H T = none ∧ H' = upd H T (.tup [.int (i : Nat), .str ⟨#[c]⟩]) ∧ z.cps[i]? = some c, fun i _ => z.cps.size ≤ i⟩
theorem turn_enumS {P : Program} {w : World} {K : PySem.W.Frag} {elts : List Expr} {kk : Nat} {tpos : Pos} (z : Str) (t : Tok) (ty : String) (hty : ty = "str_ascii_iterator" ∨ ty = "str_iterator") (e it : Addr) :
    Turn P w K (.Tuple elts kk tpos) (IteS z) [e, it] e (fun i h => i ≤ z.cps.size ∧ (∃ old, IsEnum h e it ((i : Nat) : Int) old) ∧ h.IsStrIter it ty z t i ∧ e ≠ it) where
  mem := List.mem_cons_self
  obj := fun i h st b hb => by
    obtain ⟨_, ⟨old, he⟩, ⟨o, ho, hc, hd⟩, _⟩ := st
    rcases (show b = e ∨ b = it by simpa using hb) with z | z
    · exact z ▸ ⟨_, he, fun v q => nomatch q⟩
    · exact z ▸ ⟨o, ho, fun v q => by rw [hd] at q; cases q⟩
  keep := fun i h h' st k => let ⟨hi, ⟨old, he⟩, ⟨o, ho, r⟩, hne⟩ := st; ⟨hi, ⟨old, k e List.mem_cons_self _ he⟩, ⟨o, k it (by simp) o ho, r⟩, hne⟩
  item := by
    intro X hP hw hK hc i pins s σ H E I hf st hg
    cases hP; cases hw; cases hK
    obtain ⟨_, ⟨old, he⟩, hit, hne⟩ := st
    have hel := Heap.lt_size he
    have hil : it < s.heap.objs.size := let ⟨o, ho, _⟩ := hit; Heap.lt_size ho
    have D : Draws X.prog X.w X.A.in1 it [it] z.cps.size (fun i v => ∃ c u, z.cps[i]? = some c ∧ v = .str ⟨#[c]⟩ u) (fun i h => h.IsStrIter it ty z t i) := by
      rcases hty with e | e
      · rw [e]; exact Draws.strAscii (A := X.A.in1) (I.ok.hd hc) it z t
      · rw [e]; exact Draws.strWide (A := X.A.in1) (I.ok.hd hc) it z t
    refine wpAny_pyNext_enum_itemD D he hit hg hne (by simp [hne]) fun v h' tk hv ho hst hT hsz hk => ?_
    obtain ⟨c, u, hcx, rfl⟩ := hv
    refine ⟨_, rfl, wpAny_letOwnedTupleGo_enum (s := { s with heap := h', toks := tk + 1 }) ho fun h'' he' sb => ?_⟩
    have hT2 := (sb.2 _ (Nat.ne_of_gt hel)).trans hT
    have new : ObjOk X.prog X.w (upd H s.heap.objs.size (.tup [.int (i : Nat), .str ⟨#[c]⟩])) h'' s.heap.objs.size (.tup [.int (i : Nat), .str ⟨#[c]⟩]) :=
      ⟨by show 2 ≤ sizeLine; decide, [.int i tk, .str ⟨#[c]⟩ u], .cons ⟨_, rfl⟩ (.cons ⟨_, rfl⟩ .nil), ⟨_, hT2, rfl, _, rfl⟩⟩
    have I1 := I.turnedNew (t' := tk + 1) (ch := [e, it]) (fun b ob hb q => (sb.2 b (fun z => hb (by simp [z]))).trans (hk b ob (fun z => hb (by simp [z])) (fun z => hb (by simp [z])) q)) hf (Nat.le_refl _) new
    refine ⟨.ref s.heap.objs.size, _, I1, rfl, ⟨_, c, rfl, I.hok.fresh (Nat.le_refl _), rfl, hcx⟩, ⟨hg, ⟨.str ⟨#[c]⟩ u, ?_⟩, let ⟨o, ho2, r⟩ := hst; ⟨o, (sb.2 it (Ne.symm hne)).trans ho2, r⟩, hne⟩, fun b hb => ?_⟩
    · rw [show ((i + 1 : Nat) : Int) = (i : Int) + 1 by omega]
      exact he'
    · have hb' : b < s.heap.objs.size := by
        rcases (show b = e ∨ b = it by simpa using hb) with z | z
        · exact z ▸ hel
        · exact z ▸ hil
      rw [upd_ne (Nat.ne_of_lt hb')]
      exact (hf b hb).1
  done := by
    intro X hP hw hK hc i pins s σ H E I hf st hg
    cases hP; cases hw; cases hK
    obtain ⟨hi, ⟨old, he⟩, hit, hne⟩ := st
    obtain ⟨f0, f1, f2, f3, f4, f5⟩ := hf it (by simp)
    have D : Draws X.prog X.w X.A.in1 it [it] z.cps.size (fun i v => ∃ c u, z.cps[i]? = some c ∧ v = .str ⟨#[c]⟩ u) (fun i h => h.IsStrIter it ty z t i) := by
      rcases hty with e | e
      · rw [e]; exact Draws.strAscii (A := X.A.in1) (I.ok.hd hc) it z t
      · rw [e]; exact Draws.strWide (A := X.A.in1) (I.ok.hd hc) it z t
    have hn : i = z.cps.size := Nat.le_antisymm hi hg
    subst hn
    exact wpAny_pyNext_enum_endD D he hit fun h' eb => ⟨rfl, I.turned (t' := s.toks) (fun b o hb q => eb b o hb q) f0 f1 f3 f4 f5⟩
  self := fun A i s Q E st h => let ⟨_, ⟨_, he⟩, _⟩ := st; wpAny_pyIter_enum he h
def iEnumS (ta : TA) : TI := fun σ H R => ta σ H fun vs H1 => ∃ z, vs = [.str z] ∧ R (IteS z) H1
theorem pi_enumS {X : Cx} {e : Expr} {ta : TA} {p pos tpos : Pos} {elts : List Expr} {kk : Nat} (hg : Gl X "enumerate") (hm : X.mg "enumerate" = none) (ha : PA X [e] ta) (hs : starEach [e] X.env = [(false, eval e X.env)] := by rfl) :
    PI X (.Tuple elts kk tpos) (.Call (.Name "enumerate" p) [e] [] pos) (iEnumS ta) := by
  refine ⟨fun pins s σ H R I h => Call_ (ld_blt I hg hm boot_enumerate (PyProof.Rows.callWith_type1 (thn (ha.run pos pins s σ H _ I h) fun us s1 ⟨vs, H1, I1, r1, z, ex, q⟩ => ?_) hs rfl))⟩
  subst ex
  cases r1 with
  | cons r rr =>
    cases rr
    obtain ⟨t, rfl⟩ := r
    have fp : ∀ b ∈ [s1.heap.objs.size + 1, s1.heap.objs.size], FpOk X pins H1 b := fun b hb => by
      have hle : s1.heap.objs.size ≤ b := by
        rcases (show b = s1.heap.objs.size + 1 ∨ b = s1.heap.objs.size by simpa using hb) with z | z
        · exact z ▸ Nat.le_add_right _ _
        · exact z ▸ Nat.le_refl _
      exact I1.fpOk hle (I1.hok.fresh hle)
    refine call_enumerate_str fun h' he hit hsz hk => wpAny_pyIter_enum he ?_
    have hty : strIterType z = "str_ascii_iterator" ∨ strIterType z = "str_iterator" := by
      unfold strIterType
      split
      · exact .inl rfl
      · exact .inr rfl
    exact ⟨s1.heap.objs.size + 1, _, _, _, H1, rfl, I1.kept (t' := s1.toks) hk, turn_enumS z t _ hty (s1.heap.objs.size + 1) s1.heap.objs.size, ⟨Nat.zero_le _, ⟨.none, he⟩, hit, Nat.succ_ne_self _⟩, fp, q⟩
section
variable {K : PySem.W.Frag} {σ : L2.St} {H G : Hp} {W : Wl} {Q : VK} {nx : L2.St → Hp → Prop} {rt : VK} {tb : TS} {ta : TA} {R : It → Hp → Prop} {z : Str} {te : TE} {tt : TT} {vs : List Nat}
theorem walk_enumS : Walk (IteS z) z.cps.size (fun _ => True) (YPair (fun i => some (.int (i : Nat))) (fun i => z.cps[i]?.map fun c => .str ⟨#[c]⟩)) :=
  ⟨fun i H hi _ => hi, fun H _ => Nat.le_refl _, fun i H x H' hi _ y => by
    obtain ⟨T, c, e1, e2, e3, e4⟩ := y
    exact ⟨T, _, _, e1, e2, e3, rfl, congrArg (Option.map fun c : Nat => V.str ⟨#[c]⟩) e4⟩⟩
theorem st_iEnumS (h : ta σ H fun vs H1 => ∃ z, vs = [.str z] ∧ R (IteS z) H1) : iEnumS ta σ H R := h
theorem st_iStr (h : te σ H fun v H1 => ∃ x, v = .str x ∧ R (Its x) H1) : iStr te σ H R := h
/-- for i, c in enumerate(a text) -/
theorem for_enumS {i1 i2 : Nat} (I : Nat → L2.St → Hp → Wl → Prop) (w : Wd G W H) (h0 : I 0 σ G W)
    (hs : ∀ (i c : Nat) σ' G' G'' W' H', z.cps[i]? = some c → Same G G' → I i σ' G' W' → Same G' G'' → Wd G'' W' H' → tb ⟨Btw I G (i + 1), rt, nx, Btw I G (i + 1)⟩ ((σ'.set i1 (some (.int (i : Int)))).set i2 (some (.str ⟨#[c]⟩))) H')
    (hd : ∀ σ' G' W' H', Same G G' → Wd G' W' H' → I z.cps.size σ' G' W' → nx σ' H') :
    ∃ z', [V.str z] = [.str z'] ∧ LoopQ (IteS z') (gTup K 2 (gCons (gName i1) (gCons (gName i2) gNil))) tb nx rt σ H :=
  ⟨z, rfl, loop_go walk_enumS I w (fun _ _ _ _ _ => trivial) h0 (fun i x σ' G' W' H' H'' _ e w' h y => by
    obtain ⟨T, x1, x2, rfl, hn, rfl, e1, e2⟩ := y
    cases e1
    obtain ⟨c, hc, rfl⟩ := Option.map_eq_some_iff.mp e2
    refine ⟨T, _, rfl, SqT.of upd_same, rfl, _, _, rfl, ?_⟩
    refine ⟨_, _, rfl, ?_⟩
    exact ⟨rfl, hs i c σ' G' _ W' _ hc e h (same_upd (w'.free hn)) (w'.new hn)⟩) hd⟩
/-- [.. for c in a text] -/
theorem lc_str {j : Nat} (I : Nat → List V → Hp → Prop) (w : Wd G W H) (h0 : I 0 [] G) (hw : ∀ x, wipe ((wipe σ vs).set j x) vs = wipe σ vs)
    (hs : ∀ (i c : Nat) D G' H' acc, z.cps[i]? = some c → Same G G' → Wd G' ((D, Is (.lst acc)) :: W) H' → I i acc G' → tt ((wipe σ vs).set j (some (.str ⟨#[c]⟩))) H' fun b H3 =>
      if b = true then te ((wipe σ vs).set j (some (.str ⟨#[c]⟩))) H3 fun y H4 => ∃ acc, H4 D = some (.lst acc) ∧ acc.length < sizeLine ∧ LcB I G W D (i + 1) (upd H4 D (.lst (acc ++ [y]))) else LcB I G W D (i + 1) H3)
    (hd : ∀ D G' H' acc, Same G G' → Wd G' ((D, Is (.lst acc)) :: W) H' → I z.cps.size acc G' → Q (.ref D) H') : ∃ x, V.str z = .str x ∧ LcQ (Its x) (gName j) tt te vs σ H Q :=
  ⟨z, rfl, lc_go walk_str I w (fun _ _ _ _ _ => trivial) h0 (fun i x D G' H' H'' acc hi e w' h y => by
    obtain ⟨rfl, c, hc, rfl⟩ := y
    exact ⟨hw _, hs i c D G' H'' acc hc e w' h⟩) hd⟩
end
/-! ### a new instance by keywords alone -/
section
variable {X : Cx} {CX : CXT} {k : Nat} {f C : Addr} {fd : FuncData} {ps ks : List Str} {sp : Sp} {E : XK} {x : Str} {p pos : Pos} {kws : List Keyword} {tk : TA} {g : List Value → List Value → List Value} {gV : List V → List V → List V}
theorem pe_makeN0 (M : Mk X.K C f) (F : FnOk X.prog X.w X.K X.mg X.base CX k f fd ps sp) (hr : Room (k + 1) X.A) (hg : Gl X x) (hm : X.mg x = some (.ref C)) (hb : KBn X.K fd ps 1 ks g gV) (hx : Passes CX X E)
    (hkw : PK X kws tk) (hall : (backToKw pos (keywordEach kws X.env)).all (·.1.isSome) = true := by rfl) (hks : (backToKw pos (keywordEach kws X.env)).filterMap (·.1) = ks := by rfl)
    (hdb : (x == ("__debug__" : Str)) = false := by decide) (hpl : ((backTo pos (starEach [] X.env)).any (·.1) || (backToKw pos (keywordEach kws X.env)).any (·.1.isNone)) = false := by rfl) :
    PE X (.Call (.Name x p) [] kws pos) (tMakeN C 0 ks.length sp gV E tNil tk) := by
  refine ⟨fun pins s σ H Q I h => wpAny_Call_Name_kw (ld_glob I hg hm ?_ hdb)⟩
  refine PySem.W.callWith_KW0 (h₀ := X.base) I.ok.mod.kin M.kp hall (thn (hkw.run pos pins _ σ H _ (I.tok _) h) fun ws s2 ⟨zs, H2, I2, rz, l1, l2, q2⟩ => ⟨I2.kIn, ?_⟩) hpl
  rw [hks]
  exact run_makeN (n := 0) (us := []) (vs := []) M F hr hb hx I2 .nil rz rfl l2 q2
theorem st_makeN {n m : Nat} {t : TA} {σ : L2.St} {H : Hp} {Q : VK} (h : t σ H fun vs H1 => tk σ H1 fun zs H2 => vs.length = n ∧ zs.length = m ∧
  ∀ x dx, H2 x = none → H2 dx = none → dx ≠ x → sp (gV (.ref x :: vs) zs) (upd (upd H2 dx (.own x)) x (.ins C dx [])) (fun v H3 => v = .non ∧ Q (.ref x) H3) E) : tMakeN C n m sp gV E t tk σ H Q := h
theorem atP (h : Passes CX X E) : ∀ σ, PassesAt CX X σ E := fun σ pins H s e s' I q => h pins σ H s e s' I q
end
end Z

/-! an own instance by index; texts of bits: parts, in a list, index; *items -/
namespace PySem
open AutoSeq1
theorem zExtT (l : Addr) (items : Array Value) (n : Nat) (b : Addr) (items2 : Array Value) (n2 : Nat) (dd : Option Addr) (sl : Array (Option Value)) (hs0 : ¬(!items.isEmpty && Builtin.List.listTooLong (items.size + items2.size)) = true) (hs1 : items.size ≤ sizeLine) (hs2 : items.size + items2.size ≤ sizeLine + 1) :
    Meets (Builtin.«list.extend» ⟨[.ref l, .ref b], []⟩) (fun _ R s => s.heap.get? l = some { cls := .type "list", dict := none, data := .seq items n, slots := #[] } ∧ s.heap.get? b = some { cls := .type "tuple", dict := dd, data := .seq items2 n2, slots := sl } ∧ R (.ok (.ret Value.none)) { s with heap := s.heap.update l (Obj.mapSeq fun x => x ++ items2), toks := s.toks }) :=
  .of_wp fun prog w A R s h => by
    obtain ⟨hp, g, d, tk, os⟩ := s; obtain ⟨hl, hb, h⟩ := h; have f1 := idx_int; have f2 := sub_tuple_tuple; have f3 := sub_list_list; have f4 := sub_tuple_list; have f5 := sub_list_tuple;
    have hz' : (items ++ items2).size ≤ sizeLine + 1 := by rw [Array.size_append]; exact hs2
    wp_walk using (wpAny_updateSeq hl rfl (hz := hs1) (_hz' := hz')), wpAny_loadPart' hl, wpAny_loadPart' hb; exact ⟨_, rfl, h⟩
end PySem
namespace Z
open PySem PySem.Spec PyProof.Rows L2
def rListOf (K : PySem.W.Frag) : List V → Hp → VK → Prop := fun xs H Q => ∃ p ys, xs = [.ref p] ∧ (SqL K H p ys ∨ SqT K H p ys) ∧ ∀ l, H l = none → Q (.ref l) (upd H l (.lst ys))
theorem call_listOf {X : Cx} : CallR X (.type "list") (rListOf X.K) := call_list_of
/-- xs.extend(t), t a tuple -/
def rExtT (K : PySem.W.Frag) : V → List V → Hp → VK → Prop := fun x vs H Q => ∃ l b xs zs, x = .ref l ∧ vs = [.ref b] ∧ H l = some (.lst xs) ∧ SqT K H b zs ∧ xs.length + zs.length ≤ sizeLine ∧ Q .non (upd H l (.lst (xs ++ zs)))
theorem mt_extT {X : Cx} : MtM X "list.extend" (rExtT X.K) := by
  intro pins s σ H x vs v us Q I rx rv h
  obtain ⟨l, b, xs, zs, rfl, rfl, hH, hB, hz, q⟩ := h
  cases rx
  obtain ⟨u, rfl, ru⟩ := rv.one
  cases ru
  obtain ⟨z, its, n, r, hl, e⟩ := I.lstM hH
  obtain ⟨its2, r2, ht, hz2⟩ := I.tuple hB
  obtain ⟨⟨c, dd, dt, sl⟩, e2, hc, n2, hd⟩ := ht
  obtain rfl : c = .type "tuple" := hc
  obtain rfl : dt = .seq its2.toArray n2 := hd
  have hl2 := r2.length
  have hsz : its.toArray.size + its2.toArray.size ≤ sizeLine := by rw [List.size_toArray, List.size_toArray]; omega
  have hlong : ¬ (!its.toArray.isEmpty && Builtin.List.listTooLong (its.toArray.size + its2.toArray.size)) = true := by
    rw [notLongL hsz, Bool.and_false]
    exact Bool.false_ne_true
  refine call_meets F.slot_list_extend ⟨_, e, rfl⟩ F.entry_list_extend (F.args_list_extend_2 _ _)
    (zExtT l its.toArray n b its2.toArray n2 dd sl hlong (by rw [List.size_toArray]; omega) (by omega)) ⟨e, e2, ?_⟩
  refine ⟨.non, _, I.lset (its' := its ++ its2) hH e (by simp) (r.append r2) ?_, rfl, q⟩
  rw [List.length_append]
  omega
section
variable {X : Cx} {k : Nat} {f C : Addr} {fd : FuncData} {ps : List Str} {sp : Sp} {a b : Expr} {ta tb : TE} {pos : Pos}
theorem pe_ixO (hm : Meth X.K C "__getitem__" f) (hfn : PySem.W.fnIn X.K f = true) (F : FnOk X.prog X.w X.K X.mg X.base CX0 k f fd ps sp) (hr : Room (k + 1) X.A) (hb : Binds X.K fd ps []) (ha : PE X a ta) (hb2 : PE X b tb)
    (hs : ∀ v u : Value, subscripted b true v u = runValue (.builtin "lifetime.subscript" ⟨[v, u], []⟩) := by intro _ _; rfl) : PE X (.Subscript a b pos) (tOp (rIxO C sp) ta tb) := by
  refine ⟨fun pins s σ H Q I h => ?_⟩
  exact Subscript_ (binT ha hb2 I h fun v u s2 x y H2 I2 rx ry q => ix_own hm hfn F hr hb a b I2 rx ry q (hs _ _))
end
section
variable {K : PySem.W.Frag} {σ : L2.St} {H G : Hp} {W : Wl} {Q : VK} {QA : List V → Hp → Prop} {te : TE} {t : TA}
theorem st_star (h : te σ H fun x H1 => ∃ p xs, x = V.ref p ∧ (SqT K H1 p xs ∨ SqL K H1 p xs) ∧ t σ H1 fun ys H2 => QA (xs ++ ys) H2) : StX.tStar K te t σ H QA := h
end
theorem bt_list (bs : List Int) : (bt bs).cps.toList = bs.map fun b => (48 + b).toNat := by
  unfold bt
  exact List.toList_toArray
theorem cutS_bt (bs : List Int) {s e : Nat} (h : s ≤ e) : cutS (bt bs) (some (s : Int)) (some (e : Int)) = bt ((bs.drop s).take (e - s)) := by
  unfold cutS
  rw [HT.sIx_nat, HT.sIx_nat, bt_len, bt_list]
  unfold bt
  rw [List.map_take, List.map_drop]
  congr 1
  rcases Nat.le_total s bs.length with h1 | h1
  · rw [Nat.min_eq_left h1]
    rcases Nat.le_total e bs.length with h2 | h2
    · rw [Nat.min_eq_left h2]
    · rw [Nat.min_eq_right h2, List.take_of_length_le (by rw [List.length_drop, List.length_map]; omega), List.take_of_length_le (by rw [List.length_drop, List.length_map]; omega)]
  · rw [Nat.min_eq_right h1, List.drop_of_length_le (by rw [List.length_map]; omega), List.drop_of_length_le (by rw [List.length_map]; omega)]
    simp
theorem cutS_lo (bs : List Int) (e : Nat) : cutS (bt bs) none (some (e : Int)) = bt (bs.take e) := by
  have h := cutS_bt bs (Nat.zero_le e)
  rw [List.drop_zero, Nat.sub_zero] at h
  rw [← h]
  unfold cutS
  rw [HT.sIx_none, HT.sIx_nat, HT.sIx_nat, Nat.min_eq_left (Nat.zero_le _)]
def Pos0 (c : List Int) : Prop := ∀ b ∈ c, 0 ≤ b
theorem bt_eq {a b : List Int} (ha : Pos0 a) (hb : Pos0 b) : decide (V.str (bt a) = V.str (bt b)) = decide (a = b) := by
  by_cases h : a = b
  · rw [decide_eq_true h, decide_eq_true (by rw [h])]
  · rw [decide_eq_false h, decide_eq_false fun e => h (bt_inj ha hb (by injection e))]
def tb (cs : List (List Int)) : List V := cs.map fun c => V.str (bt c)
theorem flat_tb (cs : List (List Int)) : (tb cs).all flatV = true := by
  unfold tb
  rw [List.all_map, List.all_eq_true]
  intro c _
  rfl
theorem eqV_bt {a b : List Int} (ha : Pos0 a) (hb : Pos0 b) : eqV (.str (bt a)) (.str (bt b)) = decide (a = b) := by
  show (bt a == bt b) = _
  by_cases h : a = b
  · rw [decide_eq_true h, h]
    exact beq_self_eq_true _
  · rw [decide_eq_false h]
    exact beq_eq_false_iff_ne.mpr fun e => h (bt_inj ha hb e)
theorem in_tb {c : List Int} (hc : Pos0 c) : ∀ {cs : List (List Int)}, (∀ d ∈ cs, Pos0 d) → inV (.str (bt c)) (tb cs) = decide (c ∈ cs)
  | [], _ => by simp [inV, tb]
  | d :: cs, h => by
    have ih := in_tb hc (cs := cs) fun x hx => h x (List.mem_cons_of_mem _ hx)
    unfold inV tb at ih ⊢
    rw [List.map_cons, List.any_cons, ih, eqV_bt (h d List.mem_cons_self) hc]
    by_cases e : d = c
    · simp [e]
    · have e' : ¬ c = d := fun z => e z.symm
      simp [e, e', List.mem_cons]
section
variable {K : PySem.W.Frag} {H G : Hp} {W : Wl} {Q : VK} {a : Addr}
/-- c in a list of texts of bits -/
theorem st_inB {c : List Int} {cs : List (List Int)} (ha : SqL K H a (tb cs)) (hc : Pos0 c) (hcs : ∀ d ∈ cs, Pos0 d) (q : Q (.bl (decide (c ∈ cs))) H) : rIn K false (.str (bt c)) (.ref a) H Q := by
  refine ⟨a, _, rfl, .inl ha, rfl, flat_tb cs, ?_⟩
  rw [in_tb hc hcs]
  exact q
theorem first_of {α : Type} [DecidableEq α] [BEq α] [LawfulBEq α] {cs : List α} {c : α} (h : c ∈ cs) : cs[cs.idxOf c]? = some c ∧ ∀ i : Nat, i < cs.idxOf c → cs[i]? ≠ some c := by
  induction cs with
  | nil => exact nomatch h
  | cons x xs ih =>
    by_cases e : x = c
    · subst e
      rw [List.idxOf_cons_self]
      exact ⟨rfl, fun i hi => absurd hi (Nat.not_lt_zero i)⟩
    · obtain ⟨h2, h3⟩ := ih ((List.mem_cons.mp h).resolve_left fun z => e z.symm)
      rw [List.idxOf_cons, show (x == c) = false from beq_eq_false_iff_ne.mpr e]
      refine ⟨h2, fun i hi => ?_⟩
      cases i with
      | zero => exact fun z => e (Option.some.inj z)
      | succ i => exact h3 i (Nat.lt_of_succ_lt_succ hi)
/-- cs.index(c), texts of bits -/
theorem st_indexB {c : List Int} {cs : List (List Int)} (ha : SqL K H a (tb cs)) (hc : Pos0 c) (hcs : ∀ d ∈ cs, Pos0 d) (hm : c ∈ cs) (q : Q (.int ((cs.idxOf c : Nat) : Int)) H) : rIndex K (.ref a) [.str (bt c)] H Q := by
  obtain ⟨h2, h3⟩ := first_of hm
  refine ⟨a, _, _, cs.idxOf c, .str (bt c), rfl, rfl, ha, rfl, flat_tb cs, by unfold tb; rw [List.getElem?_map, h2]; rfl, by rw [eqV_bt hc hc]; exact decide_eq_true rfl, fun i z hi hz => ?_, q⟩
  unfold tb at hz
  rw [List.getElem?_map] at hz
  obtain ⟨d, hd, rfl⟩ := Option.map_eq_some_iff.mp hz
  rw [eqV_bt (hcs d (List.mem_of_getElem? hd)) hc]
  exact decide_eq_false fun e => h3 i hi (by rw [hd, e])
end
theorem bt_joins : ∀ cs : List (List Int), Txt.join "" (cs.map bt) = bt cs.flatten := fun cs => by
  have h : (Str.join "" (cs.map bt)).cps.toList = (bt cs.flatten).cps.toList := by
    have h1 := TL.tl_join "" (cs.map bt)
    have hj : ∀ ps : List (List Nat), TL.joinL [] ps = ps.flatten := by
      intro ps
      induction ps with
      | nil => rfl
      | cons p ps ih =>
        cases ps with
        | nil => simp [TL.joinL]
        | cons q r =>
          show p ++ ([] ++ TL.joinL [] (q :: r)) = _
          rw [ih, List.nil_append]
          rfl
    rw [show TL.tl "" = [] from rfl, hj] at h1
    refine Eq.trans h1 ?_
    clear h1 hj
    induction cs with
    | nil => rfl
    | cons c cs ih =>
      rw [List.map_cons, List.map_cons, List.flatten_cons, ih, List.flatten_cons, bt_list, bt_list, List.map_append]
      show (bt c).cps.toList ++ _ = _
      rw [bt_list]
  rw [TL.join_eq]
  generalize Str.join "" (cs.map bt) = z at h
  obtain ⟨c⟩ := z
  have : c = (bt cs.flatten).cps := Array.toList_inj.mp h
  subst this
  rfl
end Z

/-! lambdas: tables of code objects as ghosts; the end of a law whose defs hold lambdas -/
namespace Z
open PySem PySem.Spec PyProof.Rows L2
open LamX (CodeO TabS Tabs ExtN codeO_ne TabB GivesTo tLam lamCx LamS lamEnv)
/-! ### tables among what may change -/
def TabP (G : Hp) (q : Str) : HO → Prop := fun o => ∃ ps : Array Value, o = .tbl ps ∧ TriplesOk ps.toList ∧ ∀ (pos : Pos) (cv : Value), codeAmong pos ps.toList = some cv → ∃ c, cv = .ref c ∧ G c = some (CodeO c q)
def TabW (T : List (Addr × Str)) (G : Hp) : Wl := T.map fun p => (p.1, TabP G p.2)
def NoTbl (G : Hp) : Prop := ∀ b ps, G b ≠ some (.tbl ps)
def NoX (W : Wl) : Prop := ∀ p ∈ W, ∀ o, p.2 o → (∀ ps, o ≠ .tbl ps) ∧ ∀ c q, o ≠ CodeO c q
def strip (G : Hp) : Hp := fun b => match G b with
  | some (.tbl _) => none
  | x => x
theorem strip_of {G : Hp} {b : Addr} {o : HO} (h : G b = some o) (n : ∀ ps, o ≠ .tbl ps) : strip G b = some o := by
  unfold strip
  rw [h]
  cases o <;> first | rfl | exact absurd rfl (n _)
theorem of_strip {G : Hp} {b : Addr} {o : HO} (h : strip G b = some o) : G b = some o := by
  unfold strip at h
  split at h
  · cases h
  · exact h
theorem strip_nt (G : Hp) : NoTbl (strip G) := fun b ps h => by
  have h2 := of_strip h
  unfold strip at h
  rw [h2] at h
  cases h
theorem same_strip {G G' : Hp} (nt : NoTbl G) (e : Same G G') : Same G (strip G') := fun b o h => strip_of (e _ _ h) fun ps z => nt b ps (by rw [h, z])
theorem Wd.strip {G H : Hp} {W : Wl} (w : Wd G W H) : Wd (strip G) W H :=
  ⟨fun b o h => w.ex _ _ (of_strip h), fun p hp => ⟨by
    have h := (w.own p hp).1
    unfold Z.strip
    rw [h], (w.own p hp).2⟩, w.nd⟩
section
variable {K : PySem.W.Frag} {G : Hp}
theorem lstrip {a : Addr} {xs : List V} (h : SqL K G a xs) : SqL K (strip G) a xs := by
  rcases h with (h | ⟨o, h⟩) | h
  · exact .inl (.inl (strip_of h fun _ z => by cases z))
  · exact .inl (.inr ⟨o, strip_of h fun _ z => by cases z⟩)
  · exact .inr h
theorem tstrip {a : Addr} {xs : List V} (h : SqT K G a xs) : SqT K (strip G) a xs := by
  rcases h with (h | ⟨o, h⟩) | h
  · exact .inl (.inl (strip_of h fun _ z => by cases z))
  · exact .inl (.inr ⟨o, strip_of h fun _ z => by cases z⟩)
  · exact .inr h
mutual
theorem dstrip : ∀ {d : PyData} {v : V}, Dp K G v d → Dp K (strip G) v d
  | _, _, .non => .non
  | _, _, .bl b => .bl b
  | _, _, .int i => .int i
  | _, _, .str x => .str x
  | _, _, .lst h r => .lst (lstrip h) (dstripAll r)
  | _, _, .tup h r => .tup (tstrip h) (dstripAll r)
theorem dstripAll : ∀ {ds : List PyData} {vs : List V}, DpAll K G vs ds → DpAll K (strip G) vs ds
  | _, _, .nil => .nil
  | _, _, .cons h r => .cons (dstrip h) (dstripAll r)
end
end
theorem tabW_map (T : List (Addr × Str)) (G : Hp) : (TabW T G).map (·.1) = T.map (·.1) := by
  unfold TabW
  rw [List.map_map]
  rfl
theorem tabW_mem {T : List (Addr × Str)} {G : Hp} {p : Addr × (HO → Prop)} (h : p ∈ TabW T G) : ∃ t ∈ T, p = (t.1, TabP G t.2) := by
  obtain ⟨t, ht, e⟩ := List.mem_map.mp h
  exact ⟨t, ht, e.symm⟩
theorem Wd.tabUp {G G' H : Hp} {T : List (Addr × Str)} {Wr : Wl} (w : Wd G' (TabW T G ++ Wr) H) (e : Same G G') : Wd G' (TabW T G' ++ Wr) H := by
  refine ⟨w.ex, fun p hp => ?_, ?_⟩
  · rcases List.mem_append.mp hp with hp | hp
    · obtain ⟨t, ht, rfl⟩ := tabW_mem hp
      obtain ⟨g, o, ho, ps, h1, h2, h3⟩ := w.own (t.1, TabP G t.2) (List.mem_append_left _ (List.mem_map.mpr ⟨t, ht, rfl⟩))
      exact ⟨g, o, ho, ps, h1, h2, fun pos cv hc => let ⟨c, e1, e2⟩ := h3 pos cv hc; ⟨c, e1, e _ _ e2⟩⟩
    · exact w.own p (List.mem_append_right _ hp)
  · have := w.nd
    rw [List.map_append, tabW_map] at this ⊢
    exact this
open Classical in
/-- G and the code objects of H -/
noncomputable def addC (G H : Hp) : Hp := fun b => if G b = none ∧ ∃ q, H b = some (CodeO b q) then H b else G b
section
variable {G H H1 : Hp} {T : List (Addr × Str)} {Wr : Wl}
theorem addC_old {b : Addr} {o : HO} (h : G b = some o) : addC G H1 b = some o := by
  unfold addC
  rw [if_neg (fun z => by rw [h] at z; exact nomatch z.1), h]
theorem addC_new {b : Addr} {q : Str} (h : G b = none) (hc : H1 b = some (CodeO b q)) : addC G H1 b = some (CodeO b q) := by
  unfold addC
  rw [if_pos ⟨h, q, hc⟩, hc]
theorem addC_cases {b : Addr} {o : HO} (h : addC G H1 b = some o) : G b = some o ∨ (H1 b = some o ∧ ∃ q, o = CodeO b q) := by
  unfold addC at h
  split at h
  · rename_i z
    obtain ⟨_, q, hq⟩ := z
    rw [hq] at h
    exact .inr ⟨by rw [hq]; exact h, q, (Option.some.inj h).symm⟩
  · exact .inl h
theorem tabs_of (w : Wd G (TabW T G ++ Wr) H) : Tabs T H := fun p hp => by
  obtain ⟨_, o, ho, ps, rfl, h2, h3⟩ := w.own (p.1, TabP G p.2) (List.mem_append_left _ (List.mem_map.mpr ⟨p, hp, rfl⟩))
  exact ⟨ps, ho, h2, fun pos cv hc => let ⟨c, e1, e2⟩ := h3 pos cv hc; ⟨c, e1, w.at e2⟩⟩
/-- a lambda is made -/
theorem lam_ghost (w : Wd G (TabW T G ++ Wr) H) (nx : NoX Wr) (nt : NoTbl G) (e : ExtN H H1) (t1 : Tabs T H1) : ∃ G1, Same G G1 ∧ NoTbl G1 ∧ Wd G1 (TabW T G1 ++ Wr) H1 := by
  have old : ∀ b o, G b = some o → H1 b = some o := fun b o h => e b o (w.at h) fun ps z => nt b ps (by rw [h, z])
  refine ⟨addC G H1, fun b o h => addC_old h, fun b ps h => ?_, fun b o h => ?_, fun p hp => ?_, ?_⟩
  · rcases addC_cases h with h | ⟨_, q, hq⟩
    · exact nt b ps h
    · exact codeO_ne ps hq.symm
  · rcases addC_cases h with h | ⟨h, _⟩
    · exact old b o h
    · exact h
  · have none_of : ∀ {b : Addr} {o : HO}, G b = none → H1 b = some o → (∀ c q, o ≠ CodeO c q) → addC G H1 b = none := fun {b o} g h1 n => by
      unfold addC
      rw [if_neg fun z => by
        obtain ⟨_, q, hq⟩ := z
        rw [h1] at hq
        exact n b q (Option.some.inj hq), g]
    rcases List.mem_append.mp hp with hp | hp
    · obtain ⟨t, ht, rfl⟩ := tabW_mem hp
      obtain ⟨g, _⟩ := w.own (t.1, TabP G t.2) (List.mem_append_left _ (List.mem_map.mpr ⟨t, ht, rfl⟩))
      obtain ⟨ps, h1, h2, h3⟩ := t1 t ht
      refine ⟨none_of g h1 fun c q z => codeO_ne ps z.symm, _, h1, ps, rfl, h2, fun pos cv hc => ?_⟩
      obtain ⟨c, e1, e2⟩ := h3 pos cv hc
      refine ⟨c, e1, ?_⟩
      cases gc : G c with
      | none => exact addC_new gc e2
      | some u =>
        have := old c u gc
        rw [e2] at this
        rw [addC_old gc]
        exact this.symm
    · obtain ⟨g, o, ho, hP⟩ := w.own p (List.mem_append_right _ hp)
      obtain ⟨n1, n2⟩ := nx p hp o hP
      have h1 := e _ _ ho n1
      exact ⟨none_of g h1 n2, o, h1, hP⟩
  · have := w.nd
    rw [List.map_append, tabW_map] at this ⊢
    exact this
theorem st_lam {TT : (XK → Hp → VK → Prop) → Hp → VK → Prop} {t : XK → TE} {σ : L2.St} {Q : VK} (w : Wd G (TabW T G ++ Wr) H) (nx : NoX Wr) (nt : NoTbl G)
    (k : ∀ G1 H1, Same G G1 → NoTbl G1 → Wd G1 (TabW T G1 ++ Wr) H1 → TT (fun E H' Q' => t E σ H' Q') H1 Q) : tLam T TT t σ H Q :=
  ⟨tabs_of w, fun H1 e t1 => let ⟨G1, e1, n1, w1⟩ := lam_ghost w nx nt e t1; k G1 H1 e1 n1 w1⟩
end
/-! ### the call of what was handed -/
section
variable {X : Cx}
theorem takes_len {W : WX} (t : Takes X W) : Takes X (fun cls d σ H => σ.length = X.N.length → W cls d σ H) := fun u s' ⟨a, B, sI, pins, σ, H, cls, d, e, I, nb, up, sky, na, os, ag, w⟩ =>
  t u s' ⟨a, B, sI, pins, σ, H, cls, d, e, I, nb, up, sky, na, os, ag, w I.len⟩
/-- a(), what was handed is called -/
def tLc (n : Nat) (f c' : Addr) (q : Str) (tl : XK → Hp → VK → Prop) (W : WX) : TS := fun D σ H => ∃ E : XK, (∀ cls d σ' H', σ'.length = n → E cls d H' → W cls d σ' H') ∧ σ[0]? = some (some (.ref f)) ∧ H c' = some (CodeO c' q) ∧ tl E H fun _ H' => D.nx σ H'
theorem ps_lcall {n : Nat} {W : WX} {f c' : Addr} {q : Str} {tl : XK → Hp → VK → Prop} {a : Str} {p1 p2 p3 : Pos} (hn : X.N.length = n) (tk : Takes X W)
    (act : ∀ (W : WX) (E : XK), Takes X W → (∀ cls d σ' H', E cls d H' → W cls d σ' H') → PE X (.Call (.Name a p1) [] [] p2) (fun σZ HZ Q => σZ[0]? = some (some (.ref f)) ∧ HZ c' = some (CodeO c' q) ∧ tl E HZ Q)) :
    PS X (.Expr (.Call (.Name a p1) [] [] p2) p3) (tLc n f c' q tl W) := by
  refine ⟨fun pins s σ H D I h => ?_⟩
  obtain ⟨E, hW, h1, h2, h3⟩ := h
  exact (ps_expr (act _ E (takes_len tk) fun cls d σ' H' he hl => hW cls d σ' H' (hl.trans hn) he)).run pins s σ H D I ⟨h1, h2, h3⟩
end
section
variable {X : Cx}
/-- x(lambda: body), x a def of the module -/
theorem pe_lamF {T : List (Addr × Str)} {TT : (XK → Hp → VK → Prop) → Hp → VK → Prop} {x a : Str} {g c P : Addr} {k : Nat} {pg : Arguments} {bg : List Stmt} {sg : Scope} {fd : FuncData} {Ng : List Str}
    {params : Arguments} {body : Expr} {scope : Scope} {t : XK → TE} {p lpos pos : Pos} (F : FunD X.K x x pg bg sg [] [] g fd) (hg : Gl X x) (hm : X.mg x = some (.ref g)) (hb : Binds X.K fd [a] []) (Sg : FnScope Ng [a] sg) (hNg : Ng[0]? = some a) (hva : Vis sg a)
    (hG : ∀ cdg : Value, GivesTo X Ng x sg g cdg bg a (X.env.qual ++ "<lambda>") TT)
    (TB : TabB X.base X.mg c P) (hcode : X.env.code = .ref c) (hmT : (P, X.env.qual ++ "<lambda>") ∈ T) (hu : ∀ p ∈ T, p.1 = P → p.2 = X.env.qual ++ "<lambda>") (hr : Room (k + 2) X.A) (L : LamS X.env.scope scope) (hdef : defaultsOf params X.env = ([], []))
    (hbind : ∀ (q : Str) (cl : List (Str × Addr)) (pm cv ctv : Value), bindArgs (PySem.W.kla_fn "<lambda>" q params body scope cl pm cv ctv) ⟨[], []⟩ = pure [])
    (hbody : ∀ (A : Around) (outer : List Env) (s : Shared) (H : Hp) (E : XK) (f c' : Addr), Room k (A.deeper (lamEnv X scope s.heap.objs.size f c')) → PE (lamCx X A outer s H E scope f c') body (t E))
    (hdb : (x == ("__debug__" : Str)) = false := by decide) (hd : (a == ("__debug__" : Str)) = false := by decide) (hcd : (a == ("__classdict__" : Str)) = false := by decide) :
    PE X (.Call (.Name x p) [.Lambda params body scope lpos] [] pos) (tLam T TT t) := by
  obtain ⟨oc, od, dV, kV, doc, pm, an, cdv, ct, osl, rfl, lk, hcd2, _, _⟩ := F.ex
  exact LamX.pe_lamcall hg hm F.kp lk hcd2 hb Sg hNg hva (hG cdv) TB hcode hmT hu hr L hdef hbind hbody hdb hd hcd
end
section
variable {P : Program} {w : World} {K : PySem.W.Frag} {mg mb : Str → Option Value} {base : Heap} {x qual : Str} {params : Arguments} {body : List Stmt} {scope : Scope} {dvs : List V} {kws : List (Str × V)} {f : Addr} {fd : FuncData}
/-- a def whose code object is known -/
theorem okC {N ps : List Str} {k : Nat} {sp : Sp} {c : Addr} (F : FunD K x qual params body scope dvs kws f fd) (hc : fd.code = .ref c) (S : FnScope N ps scope) (len : ∀ vs H Q E, sp vs H Q E → vs.length = ps.length)
    (hbody : ∀ (A : Around) (outer : List Env) (s : Shared) (H : Hp) (vs : List V) (Q : VK) (E : XK), A.guards = some [] → Room k (A.deeper (envOfC qual scope s.heap.objs.size f (.ref c))) → sp vs H Q E →
      ∃ t, PSs (cxOf CX0 P w K mg base N qual scope f (.ref c) A outer s H E).nox body t ∧ t { nx := fun _ H' => Q .non H', rt := Q } (start N vs) H) : FnG P w K mg base (k + 1) f fd ps sp := by
  obtain ⟨oc, od, dV, kV, doc, pm, an, cdv, ct, osl, rfl, lk, hcd, _, _⟩ := F.ex
  obtain rfl : cdv = .ref c := hc
  refine ⟨len, fun A outer s H args us vs Q E hr hgd e0 hb r hsp => ?_⟩
  have KX : K.In s.heap := e0.mod.kin.keeps fun b o e => (e0.bs b o e).1
  have kd : ∀ y ∈ ps.zip us, scope.names.lookup y.1 = some .local ∨ (scope.names.lookup y.1 = some .cell ∧ ((cellsFrom (s.heap.objs.size + 1) scope.names []).lookup y.1).isSome = true) := fun y hy =>
    (S.par y.1 (List.of_mem_zip (a := y.1) (b := y.2) hy).1).imp (fun q => q) fun q => ⟨q, PySem.W.cellsFrom_some _ _ _ (.inl q)⟩
  refine codeAny_call_function hr.depth (KX _ _ lk) rfl S.co S.gen rfl (PySem.W.codeRec_of KX hcd) (hb _ _ _ _ (wpAny_newFunctionEnv_cells S.kind kd fun env he s1 y => ?_))
  cases he
  obtain ⟨t, ht, hq⟩ := hbody A outer s H vs Q E hgd (hr.deeper _) hsp
  refine And.intro ((e0.mod.nolimit.keeps fun b o e => (e0.bs b o e).1).keeps y.toInCall.keep) (codeAny_func (wpAny_mono (ht.nox.run [] s1 (start N vs) H _ (inv_start S hr.hd e0 (len _ _ _ _ hsp) r y) hq) (fun fl s' hs => ?_) fun e s' hs => hs))
  cases fl with
  | ret u =>
    obtain ⟨v, _, H', J, rv, q⟩ := hs
    exact ⟨v, H', J.os, J.bare, J.base, J.hok, rv, q⟩
  | next =>
    obtain ⟨_, H', J, q⟩ := hs
    exact ⟨.non, H', J.os, J.bare, J.base, J.hok, rfl, q⟩
  | brk => exact hs.elim fun _ hs => hs.elim fun _ hs => hs.2.elim
  | cont => exact hs.elim fun _ hs => hs.elim fun _ hs => hs.2.elim
end
/-! ### the law itself, with tables -/
section
variable {P : Program} {w : World} {K : PySem.W.Frag} {mg mb : Str → Option Value} {k : Nat} {fa a : Addr} {fd : FuncData} {x : Str} {sp : Sp} {s₁ : Shared} {vs : List Value} {ns : List Int} {cs : List (Addr × Addr)} {H : Hp}
/-- what H tells of is the script or a table -/
def TwoK (h : Heap) (H : Hp) (va : Array Value) : Prop := ∀ b, H b ≠ none → ∀ o, h.get? b = some o → o.data = .seq va ∨ o.data = .fields #[]
theorem hid_of {h : Heap} {va : Array Value} {b : Addr} {o : Obj} (hA : TwoK h H va) (e : h.get? b = some o) (n1 : o.data ≠ .seq va) (n2 : o.data ≠ .fields #[]) : (hidT h H).get? b = some o :=
  hidT_get e (by
    cases q : H b with
    | none => rfl
    | some u => exact ((hA b (by rw [q]; exact fun z => nomatch z) o e).elim n1 n2).elim)
theorem hid_ns2 {h : Heap} {va : Array Value} {b : Addr} {m : Str → Option Value} (hA : TwoK h H va) (n : h.Ns b m) : (hidT h H).Ns b m := by
  obtain ⟨o, es, ep, e, d, r⟩ := n
  exact ⟨o, es, ep, hid_of hA e (by rw [d]; exact fun z => nomatch z) (by rw [d]; exact fun z => nomatch z), d, r⟩
theorem law_tabs (KX : K.In s₁.heap) (hns : s₁.heap.Ns mainGlobals mg) (hb : s₁.heap.Ns builtinsNs mb) (hbb : ∀ x : Str, x ≠ "__name__" → mb x = bootBuiltins x) (hlim : s₁.heap.NoLimit) (hg : s₁.gens = #[])
    (hT : ∀ p ∈ cs, s₁.heap.get? p.2 = some { cls := .none, data := .fields #[] }) (C : ∀ p ∈ cs, PySem.W.CodeHd s₁.heap p.1 p.2)
    (hbm : ∃ (bm : Addr) (ob : Obj), mg "__builtins__" = some (.ref bm) ∧ bm ≠ builtinsNs ∧ s₁.heap.get? bm = some ob ∧ ob.cls = .type "module" ∧ ob.dict = some builtinsNs ∧ ob.data = .plain)
    (hr : Room k callerA) (F : ∀ base : Heap, K.In base → base.Ns mainGlobals mg → (∀ p ∈ cs, TabB base mg p.1 p.2) → FnG P w K mg base k fa fd [x] sp) (hbind : ∀ (s : Shared) (u : Value), BindsTo s fd ⟨[u], []⟩ [(x, u)])
    (hH : ∀ p ∈ cs, H p.2 = some (.tbl #[])) (hO : ∀ b, H b = none ∨ b ∈ cs.map (·.2) ∨ ∃ o xs, H b = some (.frz o (.lst xs))) (hsp : sp [.ref a] H (fun v _ => v = .bl true) fun _ _ _ => False) (hok : HOk P w H s₁.heap)
    (hA : TwoK s₁.heap H vs.toArray) (hK : ∀ b, H b ≠ none → K.lookup b = none) :
    codeAny (model P w) callerA (.call (.ref fa) ⟨[.ref a], []⟩) (fun r s' => r = .ok (.ret (.bool true)) ∧ OldK s₁.heap s'.heap ∧ s'.os = s₁.os ∧ AllBare s'.gens) s₁ := by
  have hKb : K.In (hidT s₁.heap H) := fun b o e => hidT_get (KX b o e) (by
    cases q : H b with
    | none => rfl
    | some u =>
      rw [hK b (by rw [q]; exact fun z => nomatch z)] at e
      exact nomatch e)
  have M : Mod K mg (hidT s₁.heap H) := ⟨hKb, hid_ns2 hA hns, ⟨mb, hid_ns2 hA hb, hbb⟩, let ⟨mc, h1, h2⟩ := hlim; ⟨mc, hid_ns2 hA h1, h2⟩⟩
  have TB : ∀ p ∈ cs, TabB (hidT s₁.heap H) mg p.1 p.2 := fun p hp => by
    have hTp := hT p hp
    refine ⟨?_, ?_, fun z => ?_⟩
    · obtain ⟨o, us, file, tf, flags, tg, inF, text, tt, e1, r1, r2, r3, rest⟩ := C p hp
      refine ⟨o, us, file, tf, flags, tg, inF, text, tt, hid_of hA e1 (by rw [r2]; exact fun z => nomatch z) (fun z => ?_), r1, r2, r3, rest⟩
      rw [r2] at z
      injection z with z
      rw [z] at r3
      exact nomatch r3
    · obtain ⟨bm, ob, b1, b2, b3, b4, b5, b6⟩ := hbm
      refine ⟨bm, ob, b1, b2, fun q => ?_, fun q => ?_, hid_of hA b3 (by rw [b6]; exact fun z => nomatch z) (by rw [b6]; exact fun z => nomatch z), b4, b5, b6⟩
      · obtain ⟨o, es, ep, e, hd, _⟩ := hns
        rw [q, e] at b3
        cases b3
        rw [hd] at b6
        exact nomatch b6
      · rw [q, hTp] at b3
        cases b3
        exact nomatch b6
    · obtain ⟨o, es, ep, e, hd, _⟩ := hns
      rw [z, hTp] at e
      cases e
      exact nomatch hd
  have e0 : Env0 P w K mg (hidT s₁.heap H) callerA [] s₁ H := ⟨rfl, M, fun b o e => of_hidT e, Nat.le_of_eq (hidT_size _ _), trivial, fun b z => (List.not_mem_nil z).elim, hok, .of_eq hg⟩
  refine codeAny_mono ((F _ hKb (hid_ns2 hA hns) TB).run callerA [] s₁ H ⟨[.ref a], []⟩ [.ref a] [.ref a] _ _ hr rfl e0 (hbind s₁ (.ref a)) (.cons rfl .nil) hsp) fun r s' h => ?_
  cases r with
  | error e => exact False.elim h
  | ok fl => cases fl with
    | ret u =>
      obtain ⟨v, H', os, bare, un, hok', r', q⟩ := h
      cases (show v = .bl true from q)
      cases (show u = Value.bool true from r')
      have other : ∀ b o, b ∉ cs.map (·.2) → s₁.heap.get? b = some o → s'.heap.get? b = some o := fun b o nb e => by
        rcases hO b with y | y | ⟨ob, xs, y⟩
        · exact un.keep b o e y (List.not_mem_nil) (List.not_mem_nil)
        · exact absurd y nb
        · have e1 := (hok b _ y).1
          rw [e] at e1
          cases e1
          exact (hok' b _ (un.frzs b _ _ y)).1
      have table : ∀ b o, b ∈ cs.map (·.2) → s₁.heap.get? b = some o → ∃ p more, p ∈ cs ∧ b = p.2 ∧ o = ({ cls := .none, data := .fields #[] } : Obj) ∧ s'.heap.get? b = some { cls := .none, data := .fields more } := fun b o hb e => by
        obtain ⟨p, hp, rfl⟩ := List.mem_map.mp hb
        obtain ⟨more, z⟩ := un.tbls p.2 #[] (hH p hp)
        have hTp := hT p hp
        rw [e] at hTp
        cases hTp
        exact ⟨p, _, hp, rfl, rfl, hok' p.2 _ z⟩
      refine ⟨rfl, ⟨fun b o e => ?_, fun b o e => ?_⟩, os, bare⟩
      · by_cases hb : b ∈ cs.map (·.2)
        · obtain ⟨p, more, hp, rfl, rfl, hm⟩ := table b o hb e
          exact .inr (.inl ⟨((C p hp).tab (hT p hp)).isCodeTable, rfl, #[], more, rfl, by rw [Array.empty_append]; exact hm⟩)
        · exact .inl (other b o hb e)
      · by_cases hb : b ∈ cs.map (·.2)
        · obtain ⟨p, more, hp, rfl, rfl, hm⟩ := table b o hb e
          exact ⟨_, hm⟩
        · exact ⟨o, other b o hb e⟩
    | _ => exact False.elim h
end
section
variable {P : Program} {w : World} {K : PySem.W.Frag} {mg mb : Str → Option Value} {k : Nat} {fa a : Addr} {fd : FuncData} {x : Str} {sp : Sp} {s₁ : Shared} {vs : List Value} {ns : List Int} {cs : List (Addr × Addr)}
theorem law_callL (KX : K.In s₁.heap) (hns : s₁.heap.Ns mainGlobals mg) (hb : s₁.heap.Ns builtinsNs mb) (hbb : ∀ x : Str, x ≠ "__name__" → mb x = bootBuiltins x) (hlim : s₁.heap.NoLimit) (hg : s₁.gens = #[])
    (hT : ∀ p ∈ cs, s₁.heap.get? p.2 = some { cls := .none, data := .fields #[] }) (nT : ∀ p ∈ cs, K.lookup p.2 = none) (C : ∀ p ∈ cs, PySem.W.CodeHd s₁.heap p.1 p.2)
    (hbm : ∃ (bm : Addr) (ob : Obj), mg "__builtins__" = some (.ref bm) ∧ bm ≠ builtinsNs ∧ s₁.heap.get? bm = some ob ∧ ob.cls = .type "module" ∧ ob.dict = some builtinsNs ∧ ob.data = .plain)
    (ha : s₁.heap.get? a = some { cls := .type "list", data := .seq vs.toArray }) (hi : IntsAre vs ns) (hl : ns.length ≤ sizeLine) (hr : Room k callerA)
    (F : ∀ base : Heap, K.In base → base.Ns mainGlobals mg → (∀ p ∈ cs, TabB base mg p.1 p.2) → FnG P w K mg base k fa fd [x] sp) (hbind : ∀ (s : Shared) (u : Value), BindsTo s fd ⟨[u], []⟩ [(x, u)])
    (hsp : ∀ H : Hp, (∀ p ∈ cs, H p.2 = some (.tbl #[])) → SqL K H a (ns.map V.int) → sp [.ref a] H (fun v _ => v = .bl true) fun _ _ _ => False) :
    codeAny (model P w) callerA (.call (.ref fa) ⟨[.ref a], []⟩) (fun r s' => r = .ok (.ret (.bool true)) ∧ OldK s₁.heap s'.heap ∧ s'.os = s₁.os ∧ AllBare s'.gens) s₁ := by
  have rv := vals_ints hi
  have isT : ∀ b : Addr, b ∈ cs.map (·.2) → s₁.heap.get? b = some { cls := .none, data := .fields #[] } ∧ K.lookup b = none := fun b hb => by
    obtain ⟨p, hp, rfl⟩ := List.mem_map.mp hb
    exact ⟨hT p hp, nT p hp⟩
  have inT : ∀ p ∈ cs, p.2 ∈ cs.map (·.2) := fun p hp => List.mem_map.mpr ⟨p, hp, rfl⟩
  have aT : a ∉ cs.map (·.2) := fun z => by
    have q := (isT a z).1
    rw [ha] at q
    cases q
  cases hk : K.lookup a with
  | some o =>
    have e := KX a o hk
    rw [ha] at e
    cases e
    have Hc : ∀ {b : Addr} {u : HO}, (fun b => if b ∈ cs.map (·.2) then some (HO.tbl #[]) else none : Hp) b = some u → b ∈ cs.map (·.2) ∧ u = .tbl #[] := fun {b u} z => by
      by_cases y : b ∈ cs.map (·.2)
      · exact ⟨y, (Option.some.inj ((if_pos y).symm.trans z)).symm⟩
      · exact nomatch (if_neg y).symm.trans z
    refine law_tabs (H := fun b => if b ∈ cs.map (·.2) then some (.tbl #[]) else none) (vs := vs) KX hns hb hbb hlim hg hT C hbm hr F hbind (fun p hp => if_pos (inT p hp)) (fun b => ?_) (hsp _ (fun p hp => if_pos (inT p hp)) (.inr ⟨_, vs.toArray, _, hk, rfl, rfl, rfl, by rw [List.size_toArray, hi.length]; exact hl, by simpa using rv⟩)) (fun b u z => ?_) (fun b z o e => ?_) (fun b z => ?_)
    · by_cases y : b ∈ cs.map (·.2)
      · exact .inr (.inl y)
      · exact .inl (if_neg y)
    · obtain ⟨y, rfl⟩ := Hc z
      exact (isT b y).1
    · cases q : (fun b => if b ∈ cs.map (·.2) then some (HO.tbl #[]) else none : Hp) b with
      | none => exact absurd q z
      | some u =>
        rw [(isT b (Hc q).1).1] at e
        cases e
        exact .inr rfl
    · cases q : (fun b => if b ∈ cs.map (·.2) then some (HO.tbl #[]) else none : Hp) b with
      | none => exact absurd q z
      | some u => exact (isT b (Hc q).1).2
  | none =>
    have Hc : ∀ {b : Addr} {u : HO}, (fun b => if b = a then some (HO.frz { cls := .type "list", data := .seq vs.toArray } (.lst (ns.map V.int))) else if b ∈ cs.map (·.2) then some (.tbl #[]) else none : Hp) b = some u →
        (b = a ∧ u = .frz { cls := .type "list", data := .seq vs.toArray } (.lst (ns.map V.int))) ∨ (b ∈ cs.map (·.2) ∧ u = .tbl #[]) := fun {b u} z => by
      by_cases y : b = a
      · exact .inl ⟨y, (Option.some.inj ((if_pos y).symm.trans z)).symm⟩
      · by_cases y2 : b ∈ cs.map (·.2)
        · exact .inr ⟨y2, (Option.some.inj (((if_neg y).trans (if_pos y2)).symm.trans z)).symm⟩
        · exact nomatch ((if_neg y).trans (if_neg y2)).symm.trans z
    have pT : ∀ p ∈ cs, (fun b => if b = a then some (HO.frz { cls := .type "list", data := .seq vs.toArray } (.lst (ns.map V.int))) else if b ∈ cs.map (·.2) then some (.tbl #[]) else none : Hp) p.2 = some (.tbl #[]) := fun p hp =>
      (if_neg (show ¬ p.2 = a from fun z => aT (by rw [← z]; exact inT p hp))).trans (if_pos (inT p hp))
    refine law_tabs (H := fun b => if b = a then some (HO.frz { cls := .type "list", data := .seq vs.toArray } (.lst (ns.map V.int))) else if b ∈ cs.map (·.2) then some (.tbl #[]) else none) (vs := vs) KX hns hb hbb hlim hg hT C hbm hr F hbind pT (fun b => ?_) (hsp _ pT (.inl (.inr ⟨_, if_pos rfl⟩))) (fun b u z => ?_) (fun b z o e => ?_) (fun b z => ?_)
    · by_cases y : b = a
      · exact .inr (.inr ⟨_, _, if_pos y⟩)
      · by_cases y2 : b ∈ cs.map (·.2)
        · exact .inr (.inl y2)
        · exact .inl ((if_neg y).trans (if_neg y2))
    · rcases Hc z with ⟨rfl, rfl⟩ | ⟨y, rfl⟩
      · exact ⟨ha, by rw [List.length_map]; exact hl, vs, _, rv, ha⟩
      · exact (isT b y).1
    · cases q : (fun b => if b = a then some (HO.frz { cls := .type "list", data := .seq vs.toArray } (.lst (ns.map V.int))) else if b ∈ cs.map (·.2) then some (.tbl #[]) else none : Hp) b with
      | none => exact absurd q z
      | some u =>
        rcases Hc q with ⟨y, _⟩ | ⟨y, _⟩
        · rw [y, ha] at e
          cases e
          exact .inl rfl
        · rw [(isT b y).1] at e
          cases e
          exact .inr rfl
    · cases q : (fun b => if b = a then some (HO.frz { cls := .type "list", data := .seq vs.toArray } (.lst (ns.map V.int))) else if b ∈ cs.map (·.2) then some (.tbl #[]) else none : Hp) b with
      | none => exact absurd q z
      | some u =>
        rcases Hc q with ⟨y, _⟩ | ⟨y, _⟩
        · rw [y]
          exact hk
        · exact (isT b y).2
end
theorem tabIn_of {K : PySem.W.Frag} {nm : Str} {f c P : Addr} {oc lo : Value} {od ld : Option Addr} {fd : FuncData} {sl ls : Array (Option Value)} {lv : Array Value} (a : PySem.W.nsIn K mainGlobals nm = some (some (.ref f))) (l : K.lookup f = some ⟨oc, od, .func fd, sl⟩)
    (tc : K.lookup c = some ⟨lo, ld, .fields lv, ls⟩) (tp : lv[11]? = some (.ref P)) (hc : fd.code = .ref c := by rfl) : PySem.W.tabIn K nm = some (c, P) := by
  unfold PySem.W.tabIn
  rw [a]
  show (match K.lookup f with | some ⟨_, _, .func fd, _⟩ => _ | _ => _) = _
  rw [l]
  show (match fd.code with | .ref c => _ | _ => _) = _
  rw [hc]
  show (match K.lookup c with | some ⟨_, _, .fields vs, _⟩ => _ | _ => _) = _
  rw [tc]
  show (match (lv[11]? : Option Value) with | some (.ref P) => _ | _ => _) = _
  rw [tp]
/-- the start of a law with tables -/
def spLawL (K : PySem.W.Frag) (T : List (Addr × Str)) : Sp := fun vs H Q _ => ∃ (a : Addr) (ns : List Int), vs = [.ref a] ∧ SqL K H a (ns.map V.int) ∧ ns.length ≤ 63 ∧ (∀ p ∈ T, H p.1 = some (.tbl #[])) ∧ ∀ H', Q (.bl true) H'
theorem law_start {H : Hp} {T : List (Addr × Str)} (h : ∀ p ∈ T, H p.1 = some (.tbl #[])) (nd : (T.map (·.1)).Nodup) : NoTbl (strip H) ∧ Wd (strip H) (TabW T (strip H)) H := by
  refine ⟨strip_nt H, fun b o h => of_strip h, fun p hp => ?_, ?_⟩
  · obtain ⟨t, ht, rfl⟩ := tabW_mem hp
    have := h t ht
    refine ⟨?_, _, this, #[], rfl, ?_, fun pos cv hc => nomatch hc⟩
    · show strip H t.1 = none
      unfold strip
      rw [this]
    · exact trivial
  · rw [tabW_map]
    exact nd
theorem st_lam2 {G0 G H : Hp} {T : List (Addr × Str)} {Wr : Wl} {TT : (XK → Hp → VK → Prop) → Hp → VK → Prop} {t : XK → TE} {σ : L2.St} {Q : VK} (w : Wd G (TabW T G0 ++ Wr) H) (e : Same G0 G) (nt : NoTbl G0) (nx : NoX Wr)
    (k : ∀ G1 H1, Same G0 G1 → Same (strip G) G1 → NoTbl G1 → Wd G1 (TabW T G1 ++ Wr) H1 → TT (fun E H' Q' => t E σ H' Q') H1 Q) : tLam T TT t σ H Q :=
  st_lam (w.strip.tabUp (same_strip nt e)) nx (strip_nt G) fun G1 H1 e1 n1 w1 => k G1 H1 ((same_strip nt e).trans e1) e1 n1 w1
theorem walk_L {l : PySem.W.OpenLaw} {n k : Nat} {q : Program} {loose : List Str} {XP : (Str → Option Value) → Heap → Prop} {YP : World → Heap → Prop} {d : DefRec} {K : Params → PySem.W.Frag} {x : Str} {names : List Str} (hn : l.most = some n) (hn2 : n ≤ sizeLine) (hdf : d.params.defaults = [])
    (hr : Room k callerA) (hrec : ∀ nm ∈ names, ((recsOf q).any fun e => e.name == nm) = true) (hY : ∀ (w : World) (h : Heap), YP w h → (K w.params).In h)
    (F : ∀ (w : World) (mg : Str → Option Value) (fa : Addr) (h : Heap), (K w.params).In h → h.Ns mainGlobals mg → mg d.name = some (.ref fa) →
      ∃ (fd : FuncData) (cs : List (Addr × Addr)) (sp : Sp), (∀ (s : Shared) (u : Value), BindsTo s fd ⟨[u], []⟩ [(x, u)]) ∧ (∀ p ∈ cs, (∃ nm ∈ names, PySem.W.tabIn (K w.params) nm = some p) ∧ (K w.params).lookup p.2 = none) ∧
        (∀ (H : Hp) (a : Addr) (ns : List Int), ns.length ≤ n → (∀ p ∈ cs, H p.2 = some (.tbl #[])) → SqL (K w.params) H a (ns.map V.int) → sp [.ref a] H (fun v _ => v = .bl true) fun _ _ _ => False) ∧
        ∀ base : Heap, (K w.params).In base → base.Ns mainGlobals mg → (∀ p ∈ cs, TabB base mg p.1 p.2) → FnG l.prog w (K w.params) mg base k fa fd [x] sp) :
    PySem.W.WalkO q loose XP YP l.row.toRowW d [] (fun f vs => PySem.call f vs) := by
  refine Att.attach_call hn hdf fun w s₀ s₁ mg mb fa o pm cd doc a vs ns G Y ho hd hcd hmg hobj hints hlen hg => ?_
  have KX := hY w _ Y
  obtain ⟨fd, cs, sp, hb, hc, hsp, hF⟩ := F w mg fa _ KX G.T.g hmg
  have hc2 : ∀ p ∈ cs, PySem.W.CodeHd s₁.heap p.1 p.2 ∧ s₁.heap.get? p.2 = some { cls := .none, data := .fields #[] } := fun p hp => by
    obtain ⟨⟨nm, hnm, ht⟩, _⟩ := hc p hp
    obtain ⟨d', hd'⟩ : ∃ d', (recsOf q).find? (fun e => e.name == nm) = some d' := by
      exact Option.isSome_iff_exists.mp (List.find?_isSome.mpr (List.any_eq_true.mp (hrec nm hnm)))
    exact PySem.W.tab_of G.T KX hd' ht
  exact law_callL KX G.T.g G.T.b G.T.builtins G.T.nolimit hg (fun p hp => (hc2 p hp).2) (fun p hp => (hc p hp).2) (fun p hp => (hc2 p hp).1) G.T.bmain hobj hints (Nat.le_trans hlen hn2) hr hF hb (fun H hH hS => hsp H a ns hlen hH hS)
end Z

/-! own classes: truth by __len__, == with anything, != of other signs -/
namespace PySem
theorem zBoolNew {prog : Program} {w : World} (x : Value) : MeetsIn prog w (Builtin.«bool.__new__» ⟨[.type "bool", x], []⟩)
    (fun A R s => wpAny (model prog w) A.in1 (truthy x) (fun b s' => R (.ok (.ret (.bool b))) s') (fun e s' => R (.error e) s') s) :=
  .of_wp fun A R s h => by
    obtain ⟨hp, g, d, tk, os⟩ := s
    have f1 := F.conv_sub_bool
    repeat (any_goals (first | assumption | (with_reducible refine wpAny_bind (wpAny_mono h (fun b s' hb => ?_) fun _ _ e => e)) | wp_step))
    all_goals exact ⟨_, rfl, hb⟩
namespace W
open PySem.Calls PyProof.Rows Builtin
section
variable {prog : Program} {w : World} {A : Around} {E : Value → Shared → Prop} {s : Shared} {K : Frag} {x C L f : Addr} {h0 : Heap} {m : Str → Option Value} {ox : Obj} {od : Option Obj}
theorem zTruthLen {Q : Bool → Shared → Prop} (X : K.In s.heap) (I : InstAt s.heap x ox C od) (hs : findIn K (.ref C) "__bool__" = some none) (hl : findIn K (.ref C) "__len__" = some (some (.ref f))) (hf : isFn K (.ref f) = true)
    (h : wpAny (model prog w) A.in1 (call (.ref f) [.ref x]) (LenBack fun v s' => ∃ n t, v = .int n t ∧ Q (n != 0) s') E s) : wpAny (model prog w) A (truthy (.ref x)) Q E s := by
  unfold truthy
  refine wpAny_bind (m := callSpecial? (.ref x) (Str.ofString "__bool__")) (wpAny_bind (wpAny_bind (I.type.here ((looks_findIn X hs).here (wpAny_pure ?_)))))
  refine wpAny_bind (wpAny_bind (I.type.here ((looks_findIn X hl).here ?_)))
  show wpAny _ _ (if (some (Value.ref f)).isNone = true then _ else _) _ _ _
  rw [if_neg (by simp)]
  refine wpAny_bind (runValue_entry entry_len ?_)
  rw [show A.under (.builtin "len" ⟨[.ref x], []⟩) = A.in1 from Around.under_plainId plain_len _]
  unfold Builtin.«len»
  refine wpAny_bind (m := oneArg "len" _) (wpAny_pure ?_)
  refine wpAny_bind (m := callSpecial? (.ref x) (Str.ofString "__len__")) (special_fn X I hl (beq_iff_eq.mp hf) (wpAny_mono h (fun r s' hr => ?_) fun _ _ y => y))
  cases r <;> first | exact hr.elim | skip
  rename_i n u
  obtain ⟨⟨h1, h2⟩, n', t', e, hq⟩ := hr
  cases e
  refine wpAny_bind (wpAny_holding (wpAny_pure ?_))
  refine wpAny_bind (wpAny_letGo ?_)
  show wpAny _ _ (if n < 0 then _ else _) _ _ _
  rw [if_neg (by omega)]
  show wpAny _ _ (if n ≥ 2 ^ 63 then _ else _) _ _ _
  rw [if_neg (by omega)]
  refine wpAny_bind (wpAny_mkInt (wpAny_pure ⟨_, rfl, ?_⟩))
  exact wpAny_pure hq
end
end W
end PySem

namespace Z
open PySem PySem.Spec PyProof.Rows L2
section
variable {X : Cx} {k : Nat} {f C : Addr} {fd : FuncData} {ps : List Str} {sp : Sp}
/-- the truth of an instance, by its __len__ -/
def rTruO (C : Addr) (sp : Sp) : V → Hp → (Bool → Hp → Prop) → Prop := fun x H Q => ∃ a dx fs, x = .ref a ∧ H a = some (.ins C dx fs) ∧ sp [.ref a] H (fun v H2 => ∃ n : Int, v = .int n ∧ (0 ≤ n ∧ n < 2 ^ 63) ∧ Q (n != 0) H2) E0
theorem run_len {A1 : Around} {E1 : Value → Shared → Prop} {pins : List (Addr × Obj)} {σ : L2.St} {H : Hp} {s : Shared} {a : Addr} {R : Bool → Hp → Prop} {R' : Bool → Shared → Prop} (F : FnOk X.prog X.w X.K X.mg X.base CX0 k f fd ps sp) (hr : Room k A1) (e0 : Env0 X.prog X.w X.K X.mg X.base A1 X.stack s H)
    (hb : Binds X.K fd ps []) (I : Inv X pins σ H s) (q : sp [.ref a] H (fun v H2 => ∃ n : Int, v = .int n ∧ (0 ≤ n ∧ n < 2 ^ 63) ∧ R (n != 0) H2) E0) (hR : ∀ b H2 s2, Inv X pins σ H2 s2 → R b H2 → R' b s2) :
    wpAny (model X.prog X.w) A1 (call (.ref f) [.ref a]) (PySem.W.LenBack fun v s' => ∃ n t, v = .int n t ∧ R' (n != 0) s') E1 s :=
  wpAny_mono (run_own F hr e0 hb I (vals_a a) q) (fun v s' hv => by
    obtain ⟨v', H2, I2, rv, n, rfl, hn, q2⟩ := hv
    obtain ⟨t, rfl⟩ := rv
    exact ⟨hn, n, _, rfl, hR _ _ _ (I2.tok _) q2⟩) fun _ _ y => y
theorem tru_own (hb0 : PySem.W.findIn X.K (.ref C) "__bool__" = some none) (hm : Meth X.K C "__len__" f) (F : FnOk X.prog X.w X.K X.mg X.base CX0 k f fd ps sp) (hr : Room (k + 1) X.A) (hb : Binds X.K fd ps []) : TruR X (rTruO C sp) := by
  intro pins s σ H x v Q I rx h
  obtain ⟨a, dx, fs, rfl, ha, q⟩ := h
  cases rx
  obtain ⟨ox, od, J, _⟩ := StX.insC_at (C := C) I (.inr ⟨dx, fs, ha⟩)
  exact PySem.W.zTruthLen I.kIn J hb0 hm.at_ hm.fn (run_len F hr.in1 I.env0.in1 hb I q fun b H2 s2 I2 q2 => ⟨H2, I2, q2⟩)
/-- bool of an instance -/
def rBoolO (C : Addr) (sp : Sp) : List V → Hp → VK → Prop := fun vs H Q => ∃ x, vs = [x] ∧ rTruO C sp x H fun b H2 => Q (.bl b) H2
theorem call_boolO (hb0 : PySem.W.findIn X.K (.ref C) "__bool__" = some none) (hm : Meth X.K C "__len__" f) (F : FnOk X.prog X.w X.K X.mg X.base CX0 k f fd ps sp) (hr : Room (k + 1 + 1 + 1) X.A) (hb : Binds X.K fd ps []) : CallR X (.type "bool") (rBoolO C sp) := by
  intro pins s σ H vs us Q I r h
  obtain ⟨x, rfl, a, dx, fs, rfl, ha, q⟩ := h
  rw [Vals.ref1 r]
  obtain ⟨ox, od, J, _⟩ := StX.insC_at (C := C) I (.inr ⟨dx, fs, ha⟩)
  refine callType_newIn PySem.F.called_bool PySem.F.newNe_bool (PySem.F.typeCall_bool_1 _) (PySem.F.newCall_bool_1 _) (fun obj => PySem.F.args_object_init_2 obj _) PySem.F.entry_bool_new (PySem.zBoolNew (.ref a)) ?_
  refine wpAny_mono (PySem.W.zTruthLen (Q := fun b s2 => ∃ H2, Inv X pins σ H2 s2 ∧ Q (.bl b) H2) I.kIn J hb0 hm.at_ hm.fn (run_len (a := a) (R' := fun b s2 => ∃ H2, Inv X pins σ H2 s2 ∧ Q (.bl b) H2) F hr.in1.in1.in1 I.env0.in1.in1.in1 hb I q fun b H2 s2 I2 q2 => ⟨H2, I2, q2⟩)) (fun b s2 hb => ?_) (fun e s2 he => he)
  obtain ⟨H2, I2, q2⟩ := hb
  exact ⟨PySem.typeIs_bool _ _, .bl b, H2, I2, rfl, q2⟩
theorem pe_notR {a : Expr} {ta : TE} {r : V → Hp → (Bool → Hp → Prop) → Prop} {pos : Pos} (ha : PE X a ta) (hr : TruR X r) : PE X (.UnaryOp .Not a pos) (fun σ H Q => ta σ H fun x H1 => r x H1 fun b H2 => Q (.bl (!b)) H2) := by
  refine ⟨fun pins s σ H Q I h => ?_⟩
  refine UnaryOp_ (thn (ha.run pins s σ H _ I h) fun v s1 ⟨x, H1, I1, r1, q1⟩ => ?_)
  refine not_of (wpAny_mono (hr pins s1 σ H1 x v _ I1 r1 q1) (fun b s2 hb => ?_) fun _ _ y => y)
  obtain ⟨H2, I2, q2⟩ := hb
  exact ⟨.bl (!b), H2, I2, rfl, q2⟩
/-- a == y, a an instance of C -/
inductive Oth (K : PySem.W.Frag) (H : Hp) : V → Prop
  | int (i : Int) : Oth K H (.int i)
  | bl (b : Bool) : Oth K H (.bl b)
  | non : Oth K H .non
  | str (x : Str) : Oth K H (.str x)
  | lst {a : Addr} {xs : List V} (h : SqL K H a xs) : Oth K H (.ref a)
  | tup {a : Addr} {xs : List V} (h : SqT K H a xs) : Oth K H (.ref a)
def rEqX (K : PySem.W.Frag) (C : Addr) (sp : Sp) : R2 := fun x y H Q => ∃ a dx fs, x = .ref a ∧ H a = some (.ins C dx fs) ∧ Oth K H y ∧ sp [.ref a, y] H (fun v H2 => ∃ c, v = .bl c ∧ Q (.bl c) H2) E0
theorem oth_looks {pins : List (Addr × Obj)} {σ : L2.St} {H : Hp} {s : Shared} {y : V} {u : Value} (I : Inv X pins σ H s) (ry : RelV y u) (h : Oth X.K H y) (C : Addr) : ∃ t, PySem.W.Looks (model X.prog X.w) s.heap (typeOf u) t ∧ PySem.W.notFirst X.K C t = true := by
  have nf : ∀ n : String, (n = "int" ∨ n = "bool" ∨ n = "NoneType" ∨ n = "str" ∨ n = "list" ∨ n = "tuple") → PySem.W.notFirst X.K C (.type n) = true := fun n hn => by
    have : PySem.W.subIn X.K (.type n) (.ref C) = some false := by
      rcases hn with rfl | rfl | rfl | rfl | rfl | rfl <;> rfl
    unfold PySem.W.notFirst
    rw [this]
    rfl
  have at_ : ∀ {a : Addr} {o : Obj} {n : String}, s.heap.get? a = some o → o.cls = .type n → PySem.W.Looks (model X.prog X.w) s.heap (typeOf (.ref a)) (.type n) := fun {a o n} ho hc A Q E s k q => wpAny_typeOf_ref (k _ _ ho) (by rw [hc]; exact q)
  cases h with
  | int i =>
    obtain ⟨t, rfl⟩ := ry
    exact ⟨_, PySem.W.Looks.of_pure rfl, nf "int" (by simp)⟩
  | bl b =>
    cases ry
    exact ⟨_, PySem.W.Looks.of_pure rfl, nf "bool" (by simp)⟩
  | non =>
    cases ry
    exact ⟨_, PySem.W.Looks.of_pure rfl, nf "NoneType" (by simp)⟩
  | str x =>
    obtain ⟨t, rfl⟩ := ry
    exact ⟨_, PySem.W.Looks.of_pure rfl, nf "str" (by simp)⟩
  | lst h =>
    cases ry
    obtain ⟨its, _, pl, _⟩ := I.list h
    obtain ⟨o, ho, hc, _⟩ := pl.isList
    exact ⟨_, at_ ho hc, nf "list" (by simp)⟩
  | tup h =>
    cases ry
    obtain ⟨its, _, ⟨o, ho, hc, _⟩, _⟩ := I.tuple h
    exact ⟨_, at_ ho hc, nf "tuple" (by simp)⟩
theorem op_eqX (hm : Meth X.K C "__eq__" f) (F : FnOk X.prog X.w X.K X.mg X.base CX0 k f fd ps sp) (hr : Room k X.A) (hb : Binds X.K fd ps []) : OpR X (compareOp .Eq) (rEqX X.K C sp) := by
  intro pins s σ H x y v u Q I rx ry h
  obtain ⟨a, dx, fs, rfl, ha, ho, q⟩ := h
  cases rx
  obtain ⟨m, hF⟩ := I.fr
  obtain ⟨ox, od, J, _⟩ := StX.insC_at (C := C) I (.inr ⟨dx, fs, ha⟩)
  obtain ⟨t, ht, hn⟩ := oth_looks I ry ho C
  refine show wpAny _ _ (richCompare .Eq _ _) _ _ _ from PySem.W.cmp_K (op := .Eq) (tb := t) hr.units0 hF I.ok.mod.kin J ht hn hm.at_ hm.fn (wpAny_mono (run_own F hr I.env0 hb I (show Vals [V.ref a, y] [Value.ref a, u] from .cons rfl (.cons ry .nil)) q) (fun v s' hv => ?_) fun _ _ y => y)
  obtain ⟨v', H2, I2, rv, c, rfl, q2⟩ := hv
  cases rv
  exact ⟨V.bl c, H2, I2, rfl, q2⟩
theorem kit_own {K : PySem.W.Frag} {C : Addr} : PySem.W.kitOne K (.ref C) (.ref C) = some true := by
  unfold PySem.W.kitOne
  rw [if_pos (beq_self_eq_true _)]
/-- an own class, by itself not a metaclass's -/
structure PlainC (K : PySem.W.Frag) (C : Addr) : Prop where
  cls : (PySem.W.clsIn K C).isSome = true
  typ : PySem.W.typeIn K (.ref C) = some (.type "type")
theorem PlainC.no {K : PySem.W.Frag} {C : Addr} (p : PlainC K C) {n : String} (h : PySem.W.subIn K (.type n) (.ref C) = some false) : PySem.W.kitOne K (.type n) (.ref C) = some false := by
  unfold PySem.W.kitOne
  rw [show ((Value.type n) == (Value.ref C)) = false from rfl]
  show PySem.W.kitCls K (.type n) (.ref C) = some false
  unfold PySem.W.kitCls
  show (if ((PySem.W.clsIn K C).isSome && PySem.W.typeIn K (.ref C) == some (.type "type")) = true then _ else none) = some false
  rw [if_pos (by rw [p.cls, p.typ]; rfl)]
  exact h
theorem oth_ty {K : PySem.W.Frag} {H : Hp} {y : V} (h : Oth K H y) (C : Addr) : ∃ n, TyX K H y (.type n) ∧ PySem.W.subIn K (.type n) (.ref C) = some false := by
  cases h with
  | int i => exact ⟨"int", .base (.int i), rfl⟩
  | bl b => exact ⟨"bool", .base (.bl b), rfl⟩
  | non => exact ⟨"NoneType", .base .non, rfl⟩
  | str s => exact ⟨"str", .base (.str s), rfl⟩
  | lst h => exact ⟨"list", tyL h, rfl⟩
  | tup h => exact ⟨"tuple", tyT h, rfl⟩
/-- what == != + of instances, their truth and isinstance ask of the class -/
structure EqC (K : PySem.W.Frag) (C : Addr) : Prop where
  ca : PySem.W.findIn K (.ref C) "__class__" = some (some (.builtin "object.__class__"))
  cn : PySem.W.specialIn K (.builtin "object.__class__") "__get__" = some (some (.builtin "getset_descriptor.__get__"))
  ct : PySem.W.takesIn K (.builtin "object.__class__") = some true
  mr : PySem.W.mroIn K C (.type "object") = some true
  ne : PySem.W.findIn K (.ref C) "__ne__" = some (some (.builtin "object.__ne__"))
  b0 : PySem.W.findIn K (.ref C) "__bool__" = some none
  sf : PySem.W.selfFirst K C = true
  pc : PlainC K C
theorem EqC.nec {K : PySem.W.Frag} {C : Addr} (h : EqC K C) : NeC K C := ⟨h.ne, h.mr⟩
theorem EqC.ty {K : PySem.W.Frag} {C : Addr} (h : EqC K C) (cl : Cls K C) {H : Hp} {a dx : Addr} {fs : List (Str × V)} (e : H a = some (.ins C dx fs)) : TyX K H (.ref a) (.ref C) := .base (.ins e cl h.ca h.cn h.ct h.mr)
end
end Z

/-! sorted(list of data) -/
namespace Z
open PySem PySem.Spec PyProof.Rows L2
open PySem.W (AllAlike Sortable dataLe EachIs)
section
variable {X : Cx} {k : Nat}
def zipD (xs : List V) (ds : List PyData) : List (V × PyData) := xs.zip ds
/-- sorted(xs), xs a list of data that are alike -/
def rSortD (K : PySem.W.Frag) : List V → Hp → VK → Prop := fun vs H Q => ∃ (a : Addr) (xs : List V) (ds : List PyData), vs = [.ref a] ∧ SqL K H a xs ∧ DpAll K H xs ds ∧ AllAlike ds ∧ Sortable ds ∧ (∀ d ∈ ds, d.depth ≤ 30) ∧ xs.length ≤ 1000000 ∧
  ∀ p, H p = none → Q (.ref p) (upd H p (.lst (((zipD xs ds).mergeSort (dataLe false (·.2))).map (·.1))))
theorem zipD_snd {H : Hp} {K : PySem.W.Frag} : ∀ {xs : List V} {ds : List PyData}, DpAll K H xs ds → (zipD xs ds).map (·.2) = ds
  | _, _, .nil => rfl
  | _, _, .cons _ t => by
    show _ :: (zipD _ _).map (·.2) = _
    rw [zipD_snd t]
theorem zipD_fst {H : Hp} {K : PySem.W.Frag} : ∀ {xs : List V} {ds : List PyData}, DpAll K H xs ds → (zipD xs ds).map (·.1) = xs
  | _, _, .nil => rfl
  | _, _, .cons _ t => by
    show _ :: (zipD _ _).map (·.1) = _
    rw [zipD_fst t]
theorem each_rel {H : Hp} {K : PySem.W.Frag} : ∀ {xs : List V} {ds : List PyData} {vs : List Value}, DpAll K H xs ds → Vals xs vs → EachIs (fun v (b : V × PyData) => RelV b.1 v) vs (zipD xs ds)
  | _, _, _, .nil, .nil => .nil
  | _, _, _, .cons _ t, .cons r rs => .cons r (each_rel t rs)
theorem each_reads {pins : List (Addr × Obj)} {σ : L2.St} {H : Hp} {s : Shared} (I : Inv X pins σ H s) : ∀ {xs : List V} {ds : List PyData} {vs : List Value}, DpAll X.K H xs ds → Vals xs vs → EachIs (fun v (b : V × PyData) => ∃ as, Reads s.heap v b.2 as) vs (zipD xs ds)
  | _, _, _, .nil, .nil => .nil
  | _, _, _, .cons h t, .cons r rs => .cons (Dp.reads I _ _ _ h r) (each_reads I t rs)
theorem vals_each : ∀ {vs : List Value} {bs : List (V × PyData)}, EachIs (fun v (b : V × PyData) => RelV b.1 v) vs bs → Vals (bs.map (·.1)) vs
  | _, _, .nil => .nil
  | _, _, .cons h t => .cons h (vals_each t)
theorem cr_sortedD (hr : Room k X.A) : CallR X (.builtin "sorted") (rSortD X.K) := by
  intro pins s σ H vs us Q I r h
  obtain ⟨a, xs, ds, rfl, hs, hd, hal, hk, hdp, hz, q⟩ := h
  obtain ⟨its, rv, hl, _⟩ := I.list hs
  obtain ⟨u, rfl, ru⟩ := vals1 r
  obtain rfl : u = Value.ref a := ru
  have hu := hr.units
  have hsn := zipD_snd hd
  refine PySem.W.sorted_data (bs := zipD xs ds) (enc := (·.2)) hl.isList (each_rel hd rv) (each_reads I hd rv) (by rw [hsn]; exact hal) (by rw [hsn]; exact hk) ?_ (fun b hb => ?_) fun out hlen he => ?_
  · have : (zipD xs ds).length = xs.length := by rw [← List.length_map (f := (·.1)), zipD_fst hd]
    rw [this]
    exact small hz
  · have := hdp b.2 (by rw [← hsn]; exact List.mem_map.mpr ⟨b, hb, rfl⟩)
    omega
  · have ho : (((zipD xs ds).mergeSort (dataLe false (·.2))).map (·.1)).length ≤ sizeLine := by
      rw [List.length_map, List.length_mergeSort]
      have : (zipD xs ds).length = xs.length := by rw [← List.length_map (f := (·.1)), zipD_fst hd]
      rw [this]
      exact small hz
    obtain ⟨n, hn⟩ := PyProof.Rows.sortedAll_at s.heap its out.toArray
    exact ⟨.ref (s.heap.objs.size + 1), _, I.laid (t' := s.toks) (o := .lst _) (fun b o e => PyProof.Rows.sortedAll_old e) (Nat.le_succ _) ⟨ho, out, n, vals_each he, hn⟩, rfl, q _ (I.hok.fresh (Nat.le_succ _))⟩
end
end Z

/-! xs[::2], xs[1::2]; xs[i] op= y; comprehensions over lists, enumerate and zip with nested targets; mergeSort, one list alone -/
namespace Z
open PySem PySem.Spec PyProof.Rows L2
/-! ### every second one -/
def evO {α : Type} (o : Nat) (d : α) (xs : List α) : List α := (List.range ((xs.length + 1 - o) / 2)).map fun k => xs.getD (o + 2 * k) d
theorem evO_len {α : Type} {o : Nat} {d : α} {xs : List α} : (evO o d xs).length = (xs.length + 1 - o) / 2 := by
  unfold evO
  rw [List.length_map, List.length_range]
theorem evO_at {α : Type} {o i : Nat} {d x : α} {xs : List α} (h : xs[o + 2 * i]? = some x) : (evO o d xs)[i]? = some x := by
  have hlt := (List.getElem?_eq_some_iff.mp h).1
  unfold evO
  rw [List.getElem?_map, List.getElem?_range (by omega)]
  show some (xs.getD (o + 2 * i) d) = some x
  rw [List.getD_eq_getElem?_getD, h]
  rfl
theorem evO_of {α : Type} {o i : Nat} {d x : α} {xs : List α} (h : (evO o d xs)[i]? = some x) : o + 2 * i < xs.length ∧ xs[o + 2 * i]? = some x := by
  have hlt := (List.getElem?_eq_some_iff.mp h).1
  rw [evO_len] at hlt
  have h2 : o + 2 * i < xs.length := by omega
  refine ⟨h2, ?_⟩
  have := evO_at (d := d) (List.getElem?_eq_getElem h2)
  rw [h] at this
  rw [List.getElem?_eq_getElem h2]
  exact this.symm
theorem filterMap_getD {α : Type} {xs : List α} {d : α} : ∀ {js : List Nat}, (∀ j ∈ js, j < xs.length) → js.filterMap (xs[·]?) = js.map fun j => xs.getD j d
  | [], _ => rfl
  | j :: js, h => by
    have hj := h j List.mem_cons_self
    rw [List.filterMap_cons, List.map_cons, filterMap_getD fun j hj => h j (List.mem_cons_of_mem _ hj)]
    rw [List.getD_eq_getElem?_getD, List.getElem?_eq_getElem hj]
    rfl
theorem range2 (o n : Nat) (ho : o ≤ n) : sliceRange (o : Int) (n : Int) 2 = (List.range ((n + 1 - o) / 2)).map fun k => o + 2 * k := by
  unfold sliceRange
  by_cases h : (o : Int) < n
  · have e : ((n : Int) - o + 2 - 1) / 2 = (((n + 1 - o) / 2 : Nat) : Int) := by omega
    simp only [show (2 : Int) > 0 by decide, if_true, h, e, Int.toNat_natCast]
    apply List.map_congr_left
    intro k _
    omega
  · have e : (n + 1 - o) / 2 = 0 := by omega
    simp [h, e]
theorem pick2 (items : Array Value) (o : Nat) (lo : Option Int) (ho : o ≤ items.size) (hb : sliceBounds lo none (some 2) items.size = ((o : Int), (items.size : Int), 2)) : slicePick items lo none (some 2) = (evO o Value.none items.toList).toArray := by
  unfold slicePick
  rw [hb]
  show ((sliceRange (o : Int) (items.size : Int) 2).filterMap (items[·]?)).toArray = _
  rw [range2 _ _ ho]
  have e : (fun j : Nat => items[j]?) = (items.toList[·]?) := by
    funext j
    rw [Array.getElem?_toList]
  rw [e, filterMap_getD (d := Value.none) fun j hj => by
    obtain ⟨k, hk, rfl⟩ := List.mem_map.mp hj
    have := List.mem_range.mp hk
    rw [Array.length_toList]
    omega]
  unfold evO
  rw [List.map_map, Array.length_toList]
  rfl
theorem vals_evO {xs : List V} {us : List Value} (r : Vals xs us) (o : Nat) : Vals (evO o V.non xs) (evO o Value.none us) := by
  have hl := r.length
  unfold evO
  rw [← hl]
  have go : ∀ js : List Nat, (∀ k ∈ js, o + 2 * k < xs.length) → Vals (js.map fun k => xs.getD (o + 2 * k) V.non) (js.map fun k => us.getD (o + 2 * k) Value.none) := by
    intro js
    induction js with
    | nil => exact fun _ => .nil
    | cons k js ih =>
      intro h
      have hk := h k List.mem_cons_self
      obtain ⟨u, hu, rv⟩ := r.get (List.getElem?_eq_getElem hk)
      rw [List.map_cons, List.map_cons]
      refine .cons ?_ (ih fun k hk => h k (List.mem_cons_of_mem _ hk))
      rw [List.getD_eq_getElem?_getD, List.getElem?_eq_getElem hk, List.getD_eq_getElem?_getD, hu]
      exact rv
  exact go _ fun k hk => by
    have := List.mem_range.mp hk
    omega
section
variable {X : Cx}
def tEv (K : PySem.W.Frag) (o : Nat) (te : TE) : TE := fun σ H Q => te σ H fun x H1 => ∃ a xs, x = .ref a ∧ SqL K H1 a xs ∧ o ≤ xs.length ∧ ∀ p, H1 p = none → Q (.ref p) (upd H1 p (.lst (evO o V.non xs)))
theorem pe_ev0 {e : Expr} {te : TE} {k : Nat} {p1 p3 pos : Pos} (he : PE X e te) : PE X (.Subscript e (.Slice none none (some (.Constant (.int 2) k p1)) p3) pos) (tEv X.K 0 te) := by
  refine ⟨fun pins s σ H Q I h => ?_⟩
  refine Subscript_ (thn (he.run pins s σ H _ I h) fun v s1 ⟨x, H1, I1, r1, q1⟩ => ?_)
  obtain ⟨a, xs, ex, hx, ho, q⟩ := q1
  subst ex
  cases r1
  have hst : PO X (some (.Constant (.int 2) k p1)) (tPart (tC (.int 2))) := po_some pe_int
  refine wpAny_Slice (thn (po_none.run pins s1 σ H1 (fun o H2 => o = none ∧ H2 = H1) I1 ⟨rfl, rfl⟩) fun vl s2 ⟨l, H2, I2, pl, el, e2⟩ => ?_)
  subst el e2
  refine thn (po_none.run pins s2 σ H2 (fun o H3 => o = none ∧ H3 = H2) I2 ⟨rfl, rfl⟩) fun vu s3 ⟨u, H3, I3, pu, eu, e3⟩ => ?_
  subst eu e3
  refine thn (hst.run pins s3 σ H3 (fun o H4 => o = some 2 ∧ H4 = H3) I3 ⟨2, rfl, rfl, rfl⟩) fun vs s4 ⟨o, H4, I4, ps, eo, e4⟩ => ?_
  subst eo e4
  have I5 : Inv X pins σ H4 { s4 with heap := s4.heap.push { cls := .type "slice", data := .fields #[vl, vu, vs] } } := I4.kept (t' := s4.toks) fun b ob q => Heap.get?_push_of_some _ q
  obtain ⟨its, r, ht, hz⟩ := I5.list hx
  have hlen := r.length
  show wpAny (model X.prog X.w) X.A (subscriptTail e (.Slice none none (some (.Constant (.int 2) k p1)) p3) (.ref a) (.ref s4.heap.objs.size)) (EP X pins σ Q) X.xe { s4 with heap := s4.heap.push { cls := .type "slice", data := .fields #[vl, vu, vs] } }
  refine tail_any (ops := [.ref a, .ref s4.heap.objs.size]) ht.isList.typeIs (PySem.slot_list_getitem.lookup) ?_ (by with_unfolding_all rfl)
  refine wpAny_getItem_list_slice ht.isList (Heap.IsSliceOf.new _ vl vu vs) pl pu ps (by decide) ?_ (by rw [List.size_toArray]; omega)
  rw [pick2 _ 0 none (Nat.zero_le _) (by rfl)]
  refine ⟨.ref _, _, I5.laid (t' := s4.toks) (o := .lst (evO 0 V.non xs)) (fun b ob q => Heap.get?_push_of_some _ q) (Nat.le_refl _) ?_, rfl, q _ (I5.hok.fresh (Nat.le_refl _))⟩
  exact ⟨by rw [evO_len]; omega, _, 0, vals_evO r 0, Heap.get?_push_size _ rfl⟩
theorem pe_ev1 {e : Expr} {te : TE} {k k2 : Nat} {p1 p2 p3 pos : Pos} (he : PE X e te) : PE X (.Subscript e (.Slice (some (.Constant (.int 1) k2 p2)) none (some (.Constant (.int 2) k p1)) p3) pos) (tEv X.K 1 te) := by
  refine ⟨fun pins s σ H Q I h => ?_⟩
  refine Subscript_ (thn (he.run pins s σ H _ I h) fun v s1 ⟨x, H1, I1, r1, q1⟩ => ?_)
  obtain ⟨a, xs, ex, hx, ho, q⟩ := q1
  subst ex
  cases r1
  have hst : PO X (some (.Constant (.int 2) k p1)) (tPart (tC (.int 2))) := po_some pe_int
  have hlo : PO X (some (.Constant (.int 1) k2 p2)) (tPart (tC (.int 1))) := po_some pe_int
  refine wpAny_Slice (thn (hlo.run pins s1 σ H1 (fun o H2 => o = some 1 ∧ H2 = H1) I1 ⟨1, rfl, rfl, rfl⟩) fun vl s2 ⟨l, H2, I2, pl, el, e2⟩ => ?_)
  subst el e2
  refine thn (po_none.run pins s2 σ H2 (fun o H3 => o = none ∧ H3 = H2) I2 ⟨rfl, rfl⟩) fun vu s3 ⟨u, H3, I3, pu, eu, e3⟩ => ?_
  subst eu e3
  refine thn (hst.run pins s3 σ H3 (fun o H4 => o = some 2 ∧ H4 = H3) I3 ⟨2, rfl, rfl, rfl⟩) fun vs s4 ⟨o, H4, I4, ps, eo, e4⟩ => ?_
  subst eo e4
  have I5 : Inv X pins σ H4 { s4 with heap := s4.heap.push { cls := .type "slice", data := .fields #[vl, vu, vs] } } := I4.kept (t' := s4.toks) fun b ob q => Heap.get?_push_of_some _ q
  obtain ⟨its, r, ht, hz⟩ := I5.list hx
  have hlen := r.length
  show wpAny (model X.prog X.w) X.A (subscriptTail e (.Slice (some (.Constant (.int 1) k2 p2)) none (some (.Constant (.int 2) k p1)) p3) (.ref a) (.ref s4.heap.objs.size)) (EP X pins σ Q) X.xe { s4 with heap := s4.heap.push { cls := .type "slice", data := .fields #[vl, vu, vs] } }
  refine tail_any (ops := [.ref a, .ref s4.heap.objs.size]) ht.isList.typeIs (PySem.slot_list_getitem.lookup) ?_ (by with_unfolding_all rfl)
  refine wpAny_getItem_list_slice ht.isList (Heap.IsSliceOf.new _ vl vu vs) pl pu ps (by decide) ?_ (by rw [List.size_toArray]; omega)
  have hsz : (1 : Int) ≤ its.toArray.size := by rw [List.size_toArray]; omega
  rw [pick2 _ 1 (some 1) (by omega) (by
    unfold sliceBounds
    simp only [Option.getD_some]
    have h1 : ¬ ((1 : Int) < 0) := by decide
    simp only [h1, if_false, show (2 : Int) > 0 by decide, if_true]
    congr 1
    omega)]
  refine ⟨.ref _, _, I5.laid (t' := s4.toks) (o := .lst (evO 1 V.non xs)) (fun b ob q => Heap.get?_push_of_some _ q) (Nat.le_refl _) ?_, rfl, q _ (I5.hok.fresh (Nat.le_refl _))⟩
  exact ⟨by rw [evO_len]; omega, _, 0, vals_evO r 1, Heap.get?_push_size _ rfl⟩
/-- xs[i], by values -/
theorem pget_list : PGet X (fun x y H Q => ∃ p xs i z, x = .ref p ∧ y = .int i ∧ 0 ≤ i ∧ SqL X.K H p xs ∧ atI xs i = some z ∧ Q z H) := by
  intro pins s σ H x y v u Q I rx ry h
  obtain ⟨p, xs, i, z, rfl, rfl, h0, hq, he, q⟩ := h
  cases rx
  obtain ⟨t, rfl⟩ := ry
  obtain ⟨its, r, pl, hz⟩ := I.list hq
  obtain ⟨j, h1, h2, h3, h4, h5⟩ := atI_get he
  obtain ⟨w, ew, rw'⟩ := r.get h2
  have hl := r.length
  have hn := line63
  have fin : EP X pins σ Q w s := ⟨z, H, I, rw', q⟩
  have hj : i.toNat = j := by
    rw [seqIndex_of h0 h5] at h1
    exact Option.some.inj h1
  exact wpAny_getItem_list (x := w) pl.isList h0 (by omega) (by rw [hj]; simpa using ew) fin
theorem ip_ext : PIp X .Add rExt2 := fun pins s σ H x y v u Q I rx ry h => iop_ext pins s σ H x y v u Q I rx ry h
end
/-! ### comprehensions, any target -/
section
variable {K : PySem.W.Frag} {σ : L2.St} {H G : Hp} {W : Wl} {g : TG} {tt : TT} {te : TE} {vs : List Nat} {Q : VK} {a b : Addr} {xs ys : List V}
/-- what one turn has to do -/
def LcT (I : Nat → List V → Hp → Prop) (G : Hp) (W : Wl) (g : TG) (tt : TT) (te : TE) (vs : List Nat) (σ : L2.St) (D : Addr) (i : Nat) (x : V) (H' : Hp) : Prop :=
  g x (wipe σ vs) H' fun σ2 H2 => wipe σ2 vs = wipe σ vs ∧ tt σ2 H2 fun b H3 => if b = true then te σ2 H3 fun y H4 => ∃ acc, H4 D = some (.lst acc) ∧ acc.length < sizeLine ∧ LcB I G W D (i + 1) (upd H4 D (.lst (acc ++ [y]))) else LcB I G W D (i + 1) H3
theorem lc_lG (hx : SqL K G a xs) (I : Nat → List V → Hp → Prop) (w : Wd G W H) (h0 : I 0 [] G)
    (hs : ∀ (i : Nat) x D G' H' acc, xs[i]? = some x → Same G G' → Wd G' ((D, Is (.lst acc)) :: W) H' → I i acc G' → LcT I G W g tt te vs σ D i x H')
    (hd : ∀ D G' H' acc, Same G G' → Wd G' ((D, Is (.lst acc)) :: W) H' → I xs.length acc G' → Q (.ref D) H') : ∃ a', V.ref a = .ref a' ∧ (∃ xs, SqL K H a' xs) ∧ LcQ (Itl K a') g tt te vs σ H Q :=
  ⟨a, rfl, ⟨xs, seq_up w hx⟩, lc_go walk_list I w (fun _ _ _ e w' => seq_up w' (e.seq hx)) h0 (fun i x D G' H' H'' acc _ e w' h y => by
    obtain ⟨rfl, y⟩ := y
    exact hs i x D G' H'' acc y e w' h) hd⟩
/-- over enumerate; the pair's tuple stands for good -/
theorem lc_enumG (hx : SqL K G a xs ∨ SqT K G a xs) (I : Nat → List V → Hp → Prop) (w : Wd G W H) (h0 : I 0 [] G)
    (hs : ∀ (i : Nat) x T D G' G'' H' acc, xs[i]? = some x → Same G G' → I i acc G' → Same G' G'' → Wd G'' ((D, Is (.lst acc)) :: W) H' → G'' T = some (.tup [.int (i : Int), x]) → LcT I G W g tt te vs σ D i (.ref T) H')
    (hd : ∀ D G' H' acc, Same G G' → Wd G' ((D, Is (.lst acc)) :: W) H' → I xs.length acc G' → Q (.ref D) H') :
    ∃ a' ys, [V.ref a] = [.ref a'] ∧ ((SqL K H a' ys ∧ LcQ (Ite K a') g tt te vs σ H Q) ∨ (SqT K H a' ys ∧ LcQ (IteT K a') g tt te vs σ H Q)) := by
  have step : ∀ (i : Nat) (x : V) (D : Addr) (G' H' H'' : Hp) (acc : List V), i < xs.length → Same G G' → Wd G' ((D, Is (.lst acc)) :: W) H' → I i acc G' → YPair (fun i => some (.int (i : Nat))) (fun i => xs[i]?) i H' x H'' → LcT I G W g tt te vs σ D i x H'' := fun i x D G' H' H'' acc _ e w' h y => by
    obtain ⟨T, x1, x2, rfl, hn, rfl, e1, e2⟩ := y
    cases e1
    exact hs i x2 T D G' _ _ acc e2 e h (same_upd (w'.free hn)) (w'.new hn) upd_same
  rcases hx with hx | hx
  · exact ⟨a, xs, rfl, .inl ⟨seq_up w hx, lc_go walk_enum I w (fun _ _ _ e w' => seq_up w' (e.seq hx)) h0 step hd⟩⟩
  · exact ⟨a, xs, rfl, .inr ⟨tup_up w hx, lc_go walk_enumT I w (fun _ _ _ e w' => tup_up w' (seqT e hx)) h0 step hd⟩⟩
theorem lc_zipG (hx : SqL K G a xs) (hy : SqL K G b ys) (I : Nat → List V → Hp → Prop) (w : Wd G W H) (h0 : I 0 [] G)
    (hs : ∀ (i : Nat) x y T D G' G'' H' acc, xs[i]? = some x → ys[i]? = some y → Same G G' → I i acc G' → Same G' G'' → Wd G'' ((D, Is (.lst acc)) :: W) H' → G'' T = some (.tup [x, y]) → LcT I G W g tt te vs σ D i (.ref T) H')
    (hd : ∀ D G' H' acc, Same G G' → Wd G' ((D, Is (.lst acc)) :: W) H' → I (min xs.length ys.length) acc G' → Q (.ref D) H') :
    ∃ a' b' xs ys, [V.ref a, V.ref b] = [.ref a', .ref b'] ∧ SqL K H a' xs ∧ SqL K H b' ys ∧ LcQ (Itz K a' b') g tt te vs σ H Q :=
  ⟨a, b, xs, ys, rfl, seq_up w hx, seq_up w hy, lc_go (walk_zip (xs := xs) (ys := ys) rfl) I w (fun _ _ _ e w' => ⟨seq_up w' (e.seq hx), seq_up w' (e.seq hy)⟩) h0 (fun i x D G' H' H'' acc _ e w' h y => by
    obtain ⟨T, x1, x2, rfl, hn, rfl, e1, e2⟩ := y
    exact hs i x1 x2 T D G' _ _ acc e1 e2 e h (same_upd (w'.free hn)) (w'.new hn) upd_same) hd⟩
end
/-! ### sorted lists, one alone -/
theorem sorted_one {α : Type} {le : α → α → Prop} : ∀ {l m : List α}, l.Perm m → (∀ x ∈ l, ∀ y ∈ l, le x y → le y x → x = y) → l.Pairwise le → m.Pairwise le → l = m
  | [], m, h, _, _, _ => (List.Perm.eq_nil h.symm).symm
  | x :: l, [], h, _, _, _ => absurd h.length_eq (by simp)
  | x :: l, y :: m, h, ha, hl, hm => by
    have hx : x ∈ y :: m := h.mem_iff.mp List.mem_cons_self
    have hy : y ∈ x :: l := h.mem_iff.mpr List.mem_cons_self
    have e : x = y := by
      rcases List.mem_cons.mp hx with e | hx
      · exact e
      · rcases List.mem_cons.mp hy with e | hy
        · exact e.symm
        · exact ha x List.mem_cons_self y (List.mem_cons_of_mem _ hy) ((List.pairwise_cons.mp hl).1 y hy) ((List.pairwise_cons.mp hm).1 x hx)
    subst e
    rw [sorted_one h.cons_inv (fun a ha1 b hb1 => ha a (List.mem_cons_of_mem _ ha1) b (List.mem_cons_of_mem _ hb1)) (List.pairwise_cons.mp hl).2 (List.pairwise_cons.mp hm).2]
end Z

/-! a dict with tuple keys while a loop walks it; get with two; sorted from above -/
namespace Z
open PySem PySem.Spec PyProof.Rows L2
section
variable {K : PySem.W.Frag} {σ : L2.St} {H G : Hp} {W : Wl} {g : TG} {tb : TS} {nx : L2.St → Hp → Prop} {rt : VK} {Q : VK} {n : Nat}
/-- a loop whose walked thing may be among what changes -/
theorem loop_goI {J : It} {Gp : Hp → Prop} {Y : Nat → Hp → V → Hp → Prop} (wk : Walk J n Gp Y) (I : Nat → L2.St → Hp → Wl → Prop) (w : Wd G W H) (hG : ∀ i σ' G' W' H', Same G G' → Wd G' W' H' → I i σ' G' W' → Gp H') (h0 : I 0 σ G W)
    (hs : ∀ i x σ' G' W' H' H'', i < n → Same G G' → Wd G' W' H' → I i σ' G' W' → Y i H' x H'' → g x σ' H'' fun σ2 H2 => tb ⟨Btw I G (i + 1), rt, nx, Btw I G (i + 1)⟩ σ2 H2)
    (hd : ∀ σ' G' W' H', Same G G' → Wd G' W' H' → I n σ' G' W' → nx σ' H') : LoopQ J g tb nx rt σ H :=
  for_it (D := ⟨nx, rt, nx, nx⟩) wk (Btw I G) ⟨G, W, Same.refl _, w, h0⟩ (fun _ _ _ _ ⟨_, _, e, w', h⟩ => hG _ _ _ _ _ e w' h) (fun i x σ' H' H'' hi ⟨G', W', e, w', h⟩ y => hs i x σ' G' W' H' H'' hi e w' h y) fun σ' H' ⟨G', W', e, w', h⟩ => hd σ' G' W' H' e w' h
/-- for k in a dict with tuple keys -/
theorem for_keysT {kvs : List (List Key × V)} {d : Addr} {od : Obj} (I : Nat → L2.St → Hp → Wl → Prop) (w : Wd G W H) (hI : ∀ i σ' G' W', I i σ' G' W' → (d, Is (.frz od (.dT kvs))) ∈ W') (h0 : I 0 σ G W)
    (hs : ∀ i k v q σ' G' W' H', kvs[i]? = some (k, v) → H' q = some (.tup (k.map kV)) → Same G G' → Wd G' W' H' → I i σ' G' W' → g (.ref q) σ' H' fun σ2 H2 => tb ⟨Btw I G (i + 1), rt, nx, Btw I G (i + 1)⟩ σ2 H2)
    (hd : ∀ σ' G' W' H', Same G G' → Wd G' W' H' → I kvs.length σ' G' W' → nx σ' H') :
    ∃ d' o, V.ref d = .ref d' ∧ ((∃ kvs, H d' = some (.frz o (.dK kvs)) ∧ LoopQ (Itk d' o kvs) g tb nx rt σ H) ∨ ∃ kvs, H d' = some (.frz o (.dT kvs)) ∧ LoopQ (Itkt d' o kvs) g tb nx rt σ H) := by
  have hat : ∀ {i σ' G' W' H'}, Wd G' W' H' → I i σ' G' W' → H' d = some (.frz od (.dT kvs)) := fun {i σ' G' W' H'} w' h => by
    obtain ⟨o, ho, rfl⟩ := w'.get (hI i σ' G' W' h)
    exact ho
  refine ⟨d, od, rfl, .inr ⟨kvs, hat w h0, loop_goI walk_keysT I w (fun i σ' G' W' H' _ w' h => hat w' h) h0 (fun i x σ' G' W' H' H'' _ e w' h y => ?_) hd⟩⟩
  obtain ⟨rfl, k, v, q, h1, rfl, h3⟩ := y
  exact hs i k v q σ' G' W' H'' h1 h3 e w' h
theorem st_keys {td : TE} {R : It → Hp → Prop} (h : td σ H fun x H1 => ∃ d o, x = .ref d ∧ ((∃ kvs, H1 d = some (.frz o (.dK kvs)) ∧ R (Itk d o kvs) H1) ∨ ∃ kvs, H1 d = some (.frz o (.dT kvs)) ∧ R (Itkt d o kvs) H1)) : iKeys td σ H R := h
/-- the loop's dict is locked -/
theorem st_lockT {t : TS} {D : Ends} {d : Addr} {kvs : List (List Key × V)} (w : Wd G ((d, Is (.dT kvs)) :: W) H)
    (h : ∀ od H', Wd G ((d, Is (.frz od (.dT kvs))) :: W) H' → t ⟨fun σ' H' => H' d = some (.frz od (.dT kvs)) ∧ D.nx σ' (upd H' d (.dT kvs)), fun v H' => H' d = some (.frz od (.dT kvs)) ∧ D.rt v (upd H' d (.dT kvs)),
      fun σ' H' => H' d = some (.frz od (.dT kvs)) ∧ D.bk σ' (upd H' d (.dT kvs)), fun σ' H' => H' d = some (.frz od (.dT kvs)) ∧ D.ct σ' (upd H' d (.dT kvs))⟩ σ H') : tLock t D σ H := by
  refine ⟨d, _, Wd.is1 w, trivial, fun od => h od _ (Wd.put1 w)⟩
theorem Wd.unlock {d : Addr} {u : HO} {od : Obj} (w : Wd G ((d, Is (.frz od u)) :: W) H) : H d = some (.frz od u) ∧ Wd G ((d, Is u) :: W) (upd H d u) := ⟨Wd.is1 w, Wd.put1 w⟩
theorem st_dget2 {td ty tx : TE} (h : td σ H fun x H1 => ∃ a, x = .ref a ∧ IsD H1 a ∧ ty σ H1 fun y H2 => tx σ H2 fun z H3 => ∃ o, DGet H3 a y o ∧ Q (o.getD z) H3) : tDGet2 td ty tx σ H Q := h
theorem st_cKw {r : List V → List V → Hp → VK → Prop} {t tk : TA} (h : t σ H fun vs H1 => tk σ H1 fun zs H2 => r vs zs H2 Q) : tCKw r t tk σ H Q := h
/-- the rows of a dict -/
abbrev Row := (Nat × Nat) × Int
def kyP (k : Nat × Nat) : List Key := [Sum.inl (k.1 : Int), Sum.inl (k.2 : Int)]
def encR (p : Row) : List Key × V := (kyP p.1, .int p.2)
theorem kyP_inj {a b : Nat × Nat} : kyP a = kyP b ↔ a = b := by
  constructor
  · intro h
    unfold kyP at h
    injection h with h1 h2
    injection h2 with h2 _
    injection h1 with h1
    injection h2 with h2
    exact Prod.ext (by omega) (by omega)
  · rintro rfl
    rfl
theorem kyP_map (k : Nat × Nat) : (kyP k).map kV = [V.int (k.1 : Int), .int (k.2 : Int)] := rfl
end
end Z

/-! d.setdefault(k, x) of a dict with tuple keys; a local name that holds a def, called with keywords; o.f += e -/
namespace Z
open PySem PySem.Spec PyProof.Rows L2
section
variable {X : Cx} {pins : List (Addr × Obj)} {σ : L2.St} {H : Hp} {s : Shared} {a : Addr} {u r : Value} {A : Around} {E : Value → Shared → Prop}
theorem d_setdT {kvs : List (List Key × V)} {k : List Key} {b : Addr} {d : V} {Q : Value → Shared → Prop} (hu : A.units + 1 < cLine) (I : Inv X pins σ H s) (e : H a = some (.dT kvs)) (eb : H b = some (.tup (k.map kV))) (rd : RelV d r) (hl : kvs.length < sizeLine)
    (h1 : ∀ v, valV kvs k = some v → ∀ (w' : Value) (s' : Shared), Inv X pins σ H s' → RelV v w' → Q w' s') (h2 : valV kvs k = none → ∀ (w' : Value) (s' : Shared), Inv X pins σ (upd H a (.dT (putK kvs k d))) s' → RelV d w' → Q w' s') :
    wpAny (model X.prog X.w) A (call (.builtin "dict.setdefault") [.ref a, .ref b, r]) Q E s := by
  obtain ⟨z, hd, xs, rel, dd⟩ := dt_of I.hok e
  have hz : xs.length ≤ sizeLine := by rw [← Paired.length rel]; exact z
  refine call_setdefault_heap (hsz := hz) (tupleKind_room_in1 hu) (key_of I.hok eb) hd dd (fun p hp => ?_) fun hn h' dd' hs => ?_
  · have q := rel.val k
    rw [hp] at q
    cases q0 : valV kvs k with
    | none =>
      rw [q0] at q
      exact (show False from q).elim
    | some v0 =>
      rw [q0] at q
      exact h1 v0 q0 _ _ (I.tok _) q
  · have q := rel.val k
    rw [hn] at q
    cases q0 : valV kvs k with
    | some v0 =>
      rw [q0] at q
      exact (show False from q).elim
    | none =>
      have hl2 : (putK kvs k d).length ≤ sizeLine := by
        have := length_putK kvs k d
        omega
      refine h2 q0 _ _ ?_ rd
      obtain ⟨q, es, ep, hq, h2, h3, h4, _, h5⟩ := dd'
      refine d_write I (by rw [e]; exact True.intro) hs ⟨q, hq⟩ ⟨hl2, hd, _, (rel.put k eb rd).keeps fun c ys ec => ?_, q, es, ep, hq, h2, h3, h4, h5⟩
      rw [upd_ne (ne_of ec e (fun z => nomatch z))]
      exact ec
end
/-- d.setdefault(y, z), the keys tuples -/
def tDSetdT (td ty tx : TE) : TE := fun σ H Q => td σ H fun x H1 => ∃ a, x = .ref a ∧ IsD H1 a ∧ ty σ H1 fun y H2 => tx σ H2 fun z H3 => ∃ (kvs : List (List Key × V)) (k : List Key) (b : Addr), H3 a = some (.dT kvs) ∧ y = .ref b ∧ H3 b = some (.tup (k.map kV)) ∧ kvs.length < sizeLine ∧
  (∀ v, valV kvs k = some v → Q v H3) ∧ (valV kvs k = none → Q z (upd H3 a (.dT (putK kvs k z))))
section
variable {X : Cx} {o e f : Expr} {td ty tx : TE} {apos cpos : Pos}
theorem pe_dsetdT (hu : X.A.units + 1 < cLine) (ho : PE X o td) (he : PE X e ty) (hf : PE X f tx) (m : M2 X o "setdefault" apos e f cpos) : PE X (.Call (.Attribute o "setdefault" apos) [e, f] [] cpos) (tDSetdT td ty tx) := by
  refine ⟨fun pins s σ H Q I h => ?_⟩
  refine wpAny_Call_method m.base m.few m.line PySem.F.plainAttrs_dict PySem.F.slot_dict_setdefault PySem.F.type_dict_setdefault (thn (ho.run pins s σ H _ I h) fun u s1 ⟨x, H1, I1, rx, a, ex, d, q1⟩ => ?_)
  subst ex
  obtain rfl : u = Value.ref a := rx
  obtain ⟨t1, t2, _⟩ := isD_at I1 d
  refine ⟨t1, t2, ?_⟩
  rw [m.trees]
  refine Calls.callWith_builtin rfl (Calls.evalArgs_plain (Calls.spliced_cons (thn (he.run pins s1 σ H1 _ I1 q1) fun iv s2 ⟨y, H2, I2, ry, q2⟩ =>
    Calls.spliced_cons (thn (hf.run pins s2 σ H2 _ I2 q2) fun fv s3 ⟨z, H3, I3, rz, kvs, k, b, ea, ey, eb, hl, q3, q4⟩ => Calls.spliced_nil ?_))))
  subst ey
  cases (show iv = Value.ref b from ry)
  exact d_setdT hu I3 ea eb rz hl (fun v hv w' s4 I4 rw' => ⟨v, _, I4, rw', q3 v hv⟩) fun hn w' s4 I4 rw' => ⟨z, _, I4, rw', q4 hn⟩
end
section
variable {K : PySem.W.Frag} {x qual : Str} {params : Arguments} {body : List Stmt} {scope : Scope} {kws : List (Str × V)} {f : Addr} {fd : FuncData} {ps ks : List Str} {n : Nat}
/-- some keyword-only parameters are given, the others (ms) have their defaults -/
theorem kbnKM (F : FunD K x qual params body scope [] kws f fd) (ms : List (Str × V)) (hk : kws ≠ []) (hms : ∀ q ∈ ms, q ∈ kws) (gg : List Value → List Value → List Value → List Value) {gV : List V → List V → List V}
    (rel : ∀ {vs zs : List V} {us mv ws : List Value}, Vals vs us → Vals (ms.map (·.2)) mv → Vals zs ws → Vals (gV vs zs) (gg us mv ws))
    (h : ∀ (D : Addr) (doc pm : Value) (an : Option Addr) (cdv ct : Value) (us mv ws : List Value), us.length = n → mv.length = ms.length → ws.length = ks.length →
      KwChain D ((ms.map (·.1)).zip mv) (bindArgs (PySem.W.fnOf x qual params body scope .none (.ref D) doc pm an cdv ct) ⟨us, ks.zip ws⟩) (ps.zip (gg us mv ws))) : ∃ g', KBn K fd ps n ks g' gV := by
  obtain ⟨oc, od, dV, kV, doc, pm, an, cdv, ct, osl, rfl, lk, hcd, hD, hK⟩ := F.ex
  rcases hD with ⟨_, rfl⟩ | ⟨e, _⟩
  · rcases hK with e | ⟨D, rfl, hq⟩
    · exact absurd e hk
    · obtain ⟨mv, hl, rk, hks⟩ := kwd_vals (ms := ms) fun q hm => hq q (hms q hm)
      exact ⟨fun us ws => gg us mv ws, fun s us ws X l1 l2 => BindsTo.of_looks fun M => KwChain.looks X hks (h D doc pm an cdv ct us mv ws l1 hl l2), fun r1 r2 => rel r1 rk r2⟩
  · exact absurd rfl e
end
/-- the i-th slot holds the def at f; keywords behind the given ones -/
def tCallNL (i : Nat) (f : Addr) (n m : Nat) (sp : Sp) (gV : List V → List V → List V) (E : XK) (t tk : TA) : TE := fun σ H Q => σ[i]? = some (some (.ref f)) ∧ tCallN n m sp gV E t tk σ H Q
section
variable {X : Cx} {CX : CXT} {k i n : Nat} {f : Addr} {fd : FuncData} {ps ks : List Str} {sp : Sp} {E : XK} {x : Str} {p pos : Pos} {e : Expr} {es : List Expr} {t tk : TA} {kws : List Keyword} {g : List Value → List Value → List Value} {gV : List V → List V → List V}
theorem pe_callNL (F : FnOk X.prog X.w X.K X.mg X.base CX k f fd ps sp) (hr : Room k X.A) (hN : X.N[i]? = some x) (hv : Vis X.env.scope x) (hk : PySem.W.keepIn X.K (.ref f) = true) (hb : KBn X.K fd ps n ks g gV) (hx : Passes CX X E)
    (ha : PA X (e :: es) t) (hkw : PK X kws tk) (hall : (backToKw pos (keywordEach kws X.env)).all (·.1.isSome) = true := by rfl) (hks : (backToKw pos (keywordEach kws X.env)).filterMap (·.1) = ks := by rfl)
    (hdb : (x == ("__debug__" : Str)) = false := by decide) (hcd : (x == ("__classdict__" : Str)) = false := by decide)
    (he : starEach (e :: es) X.env = (false, eval e X.env) :: starEach es X.env := by rfl)
    (hpl : ((backTo pos (starEach (e :: es) X.env)).any (·.1) || (backToKw pos (keywordEach kws X.env)).any (·.1.isNone)) = false := by rfl) :
    PE X (.Call (.Name x p) (e :: es) kws pos) (tCallNL i f n ks.length sp gV E t tk) := by
  refine ⟨fun pins s σ H Q I h => ?_⟩
  obtain ⟨hs, h⟩ := h
  refine wpAny_Call_Name_kw (thn ((pe_var (pos := p) hN hv hdb hcd).run pins s σ H (fun v H1 => v = .ref f ∧ H1 = H) I ⟨.ref f, hs, rfl, rfl⟩) fun u s0 ⟨v, H0, I0, r0, q0⟩ => ?_)
  obtain ⟨rfl, rfl⟩ := q0
  cases r0
  refine PySem.W.callWith_KW (h₀ := X.base) I0.ok.mod.kin hk hall (thn (ha.run pos pins s0 σ _ _ I0 h) fun us s1 ⟨vs, H1, I1, r, q⟩ => ?_) hpl he
  refine thn (hkw.run pos pins s1 σ H1 _ I1 q) fun ws s2 ⟨zs, H2, I2, rz, l1, l2, q2⟩ => ⟨I2.kIn, ?_⟩
  rw [hks]
  exact run_fnN F hr hb hx I2 r rz l1 l2 q2
end
section
variable {K : PySem.W.Frag} {σ : L2.St} {H : Hp} {Q : VK}
theorem st_dsetdT {td ty tx : TE} (h : td σ H fun x H1 => ∃ a, x = .ref a ∧ IsD H1 a ∧ ty σ H1 fun y H2 => tx σ H2 fun z H3 => ∃ (kvs : List (List Key × V)) (k : List Key) (b : Addr), H3 a = some (.dT kvs) ∧ y = .ref b ∧ H3 b = some (.tup (k.map kV)) ∧ kvs.length < sizeLine ∧
  (∀ v, valV kvs k = some v → Q v H3) ∧ (valV kvs k = none → Q z (upd H3 a (.dT (putK kvs k z))))) : tDSetdT td ty tx σ H Q := h
theorem st_aug {i : Nat} {te : TE} {ti : TIp} {nx bk ct : L2.St → Hp → Prop} {rt : VK} {x : V} (hx : σ[i]? = some (some x)) (h : te σ H fun y H1 => ti x y H1 fun z H2 => nx (σ.set i (some z)) H2) : tAug i te ti ⟨nx, rt, bk, ct⟩ σ H := ⟨x, hx, h⟩
theorem st_revL {te : TE} (h : te σ H fun x H1 => ∃ a xs, x = .ref a ∧ SqL K H1 a xs ∧ ∀ p, H1 p = none → Q (.ref p) (upd H1 p (.lst xs.reverse))) : tRevL K te σ H Q := h
theorem st_ipI {f : Int → Int → Int} {i j : Int} (q : Q (.int (f i j)) H) : ipI f (.int i) (.int j) H Q := ⟨i, j, rfl, rfl, q⟩
theorem st_callNL {i : Nat} {f : Addr} {n m : Nat} {sp : Sp} {gV : List V → List V → List V} {E : XK} {t tk : TA} (h : σ[i]? = some (some (.ref f))) (q : tCallN n m sp gV E t tk σ H Q) : tCallNL i f n m sp gV E t tk σ H Q := ⟨h, q⟩
theorem st_fldaug {ta tv : TE} {rd : V → V → Hp → VK → Prop} {f : Str} {nx bk ct : L2.St → Hp → Prop} {rt : VK} (h : ta σ H fun x H1 => ∃ a C dx fs v, x = .ref a ∧ H1 a = some (.ins C dx fs) ∧ Cls K C ∧ NoAttr K C f ∧ fs.lookup f = some v ∧
  tv σ H1 fun y H2 => rd v y H2 fun z H3 => ∃ dx' fs', H3 a = some (.ins C dx' fs') ∧ fs'.length < 1000 ∧ nx σ (upd H3 a (.ins C dx' (putF f z fs')))) : sFldAug K ta tv rd f ⟨nx, rt, bk, ct⟩ σ H := h
end
end Z

/-! isinstance(e, (C1, C2, ..)) of the caught exception -/
namespace Z
open PySem PySem.Spec PyProof.Rows L2
/-- isinstance(e, t), e the exception that the suite holds, t a tuple of classes on the heap -/
def rIsEdT (K : PySem.W.Frag) (D a : Addr) (cls : Value) (d : Option Addr) : List V → Hp → VK → Prop := fun xs H Q => ∃ (tp : Addr) (cs : List V) (us : List Value) (b : Bool) (dd : Addr) (fs : List (Str × V)), xs = [.ref a, .ref tp] ∧ cls = .ref D ∧ d = some dd ∧ H dd = some (.xd fs) ∧ H tp = some (.tup cs) ∧ Paired ClsV cs us ∧ PySem.W.kitAny K (.ref D) us = some b ∧ Q (.bl b) H
theorem call_isEdT {X : Cx} {a D : Addr} {oe : Obj} {cls : Value} {d : Option Addr} {pn : List (Addr × Obj)} (C : ExcC X.K D) (hz : Zc cls d oe) (hf : ∃ vs, oe.data = .fields vs) : CallR (X.suite a ((a, oe) :: pn)) (.builtin "isinstance") (rIsEdT X.K D a cls d) := by
  intro pins s σ H xs us Q I r h
  obtain ⟨tp, cs, ks, b, dd, fs, rfl, rfl, rfl, ea, hT, hk, e, q⟩ := h
  obtain ⟨u1, u2, rfl, r1, r2⟩ := vals2 r
  cases r1
  cases (show u2 = Value.ref tp from r2)
  have hget := (I.pin (a, oe) (List.mem_append.mpr (.inl List.mem_cons_self))).1
  obtain ⟨vs, hv⟩ := hf
  obtain ⟨mA, hns, _⟩ : ObjOk _ _ _ _ dd (.xd fs) := I.hok dd _ ea
  obtain ⟨od, ho, _⟩ := lookIn_ns hns
  have J : PySem.W.InstAt s.heap a oe D (some od) := ⟨hget, hz.1, by unfold PySem.W.notCls; rw [hv] <;> rfl, by rw [hz.2]; exact ho⟩
  obtain ⟨_, its, rv, t, g1, g2, n, g3⟩ : ObjOk _ _ _ _ tp (.tup cs) := I.hok tp _ hT
  have es := ClsV.all hk rv
  subst es
  rcases t with ⟨tc, td, tdata, tsl⟩
  dsimp only at g2 g3
  cases g2
  cases g3
  exact PySem.W.kia_tup (PySem.W.z_kit C) I.kIn ⟨_, J⟩ g1 e (fun z => nomatch z) fun tk => ⟨.bl b, H, I.kept (t' := tk) fun _ _ z => z, rfl, q⟩
theorem kitAny_no {K : PySem.W.Frag} {t u v : Value} (h1 : PySem.W.kitOne K t u = some false) (h2 : PySem.W.kitOne K t v = some false) : PySem.W.kitAny K t [u, v] = some false := by
  unfold PySem.W.kitAny
  rw [h1]
  show PySem.W.kitAny K t [v] = _
  unfold PySem.W.kitAny
  rw [h2]
  rfl
end Z

/-! len(set(xs)) of a list of tuples of ints that differ, up to 300 of them: the tables up to 512 slots -/
namespace Z
open PySem PySem.Spec PyProof.Rows L2
/-! ### the masks: each slot is met -/
def Msk (m : Nat) : Prop := m = 7 ∨ m = 31 ∨ m = 127 ∨ m = 511
/-- the n numbers that come from x on -/
def orb (m : Nat) : Nat → Nat → List Nat
  | 0, _ => []
  | n + 1, x => x :: orb m n ((x * 5 + 1) % (m + 1))
def ite5 (m : Nat) : Nat → Nat → Nat
  | 0, x => x
  | k + 1, x => ite5 m k ((x * 5 + 1) % (m + 1))
theorem orb_at (m : Nat) : ∀ (n x k : Nat), k < n → (orb m n x)[k]? = some (ite5 m k x)
  | 0, _, _, h => absurd h (Nat.not_lt_zero _)
  | n + 1, x, 0, _ => rfl
  | n + 1, x, k + 1, h => orb_at m n _ k (Nat.lt_of_succ_lt_succ h)
theorem ite5_add (m : Nat) : ∀ (a b x : Nat), ite5 m (a + b) x = ite5 m b (ite5 m a x)
  | 0, b, x => by rw [Nat.zero_add]; rfl
  | a + 1, b, x => by
    rw [Nat.succ_add]
    exact ite5_add m a b _
theorem ite5_lcg (m : Nat) : ∀ (k x : Nat), lcgI m x k = ite5 m k x
  | 0, _ => rfl
  | k + 1, x => by
    show (lcgI m x k * 5 + 1) % (m + 1) = _
    rw [ite5_lcg m k x, ite5_add m k 1 x]
    rfl
def meets (m : Nat) : Bool := (List.range (m + 1)).all fun j => (orb m (m + 1) 0).contains j
theorem meets7 : meets 7 = true := by decide +kernel
theorem meets31 : meets 31 = true := by decide +kernel
theorem meets127 : meets 127 = true := by decide +kernel
theorem meets511 : meets 511 = true := by decide +kernel
theorem back511 : ite5 511 512 0 = 0 := by decide +kernel
theorem Msk.all {m : Nat} (h : Msk m) : meets m = true ∧ ite5 m (m + 1) 0 = 0 := by
  rcases h with rfl | rfl | rfl | rfl
  · exact ⟨meets7, by decide +kernel⟩
  · exact ⟨meets31, by decide +kernel⟩
  · exact ⟨meets127, by decide +kernel⟩
  · exact ⟨meets511, back511⟩
theorem Msk.from0 {m j : Nat} (h : Msk m) (hj : j ≤ m) : ∃ b, b ≤ m ∧ ite5 m b 0 = j := by
  have h1 := List.all_eq_true.mp h.all.1 j (List.mem_range.mpr (Nat.lt_succ_of_le hj))
  obtain ⟨b, hb, e⟩ := List.getElem_of_mem (List.contains_iff_mem.mp h1)
  have hl : ∀ n x, (orb m n x).length = n := by
    intro n
    induction n with
    | zero => intro x; rfl
    | succ n ih => intro x; exact congrArg Nat.succ (ih _)
  rw [hl] at hb
  refine ⟨b, Nat.le_of_lt_succ hb, ?_⟩
  have := orb_at m (m + 1) 0 b hb
  rw [List.getElem?_eq_getElem (by rw [hl]; exact hb), e] at this
  exact (Option.some.inj this).symm
theorem Msk.any {m i j : Nat} (h : Msk m) (hi : i ≤ m) (hj : j ≤ m) : ∃ k, k ≤ m ∧ lcgI m i k = j := by
  obtain ⟨a, ha, ea⟩ := h.from0 hi
  obtain ⟨b, hb, eb⟩ := h.from0 hj
  rcases Nat.lt_or_ge b a with c | c
  · refine ⟨m + 1 - a + b, by omega, ?_⟩
    rw [ite5_lcg, ← ea, ← ite5_add, show a + (m + 1 - a + b) = m + 1 + b by omega, ite5_add, h.all.2, eb]
  · refine ⟨b - a, by omega, ?_⟩
    rw [ite5_lcg, ← ea, ← ite5_add, show a + (b - a) = b by omega, eb]
theorem Msk.run {m : Nat} (hm : Msk m) (h : Int) {j : Nat} (hj : j ≤ m) : ∃ n, n ≤ m + 12 ∧ runI m (SetTable.bits h) n = j := by
  obtain ⟨k, hk, e⟩ := hm.any (runI_le m (SetTable.bits h) 12) hj
  exact ⟨12 + k, by omega, by rw [runI_tail (bits_lt h), e]⟩
theorem Msk.way {m : Nat} (hm : Msk m) (h : Int) {j : Nat} (hj : j ≤ m) : ∃ k, k < 10 * SetTable.turns m ∧ way m h k = j := by
  obtain ⟨n, hn, e⟩ := hm.run h hj
  obtain ⟨k, hk, e2⟩ := run_nth m (SetTable.bits h) n
  refine ⟨k, by unfold SetTable.turns; omega, ?_⟩
  show (nth m (runAt m (SetTable.bits h % (m + 1)) (SetTable.bits h)) k).j = j
  rw [e2]
  exact e
theorem way_in (m : Nat) (h : Int) (k : Nat) : way m h k ≤ m := by
  have hi : SetTable.bits h % (m + 1) ≤ m := Nat.le_of_lt_succ (Nat.mod_lt _ (Nat.succ_pos _))
  have r := runEnd_bd hi
  have q := nth_in (m := m) k (runAt m (SetTable.bits h % (m + 1)) (SetTable.bits h)) (by unfold runAt; dsimp only; omega)
  exact Nat.le_trans (Nat.le_add_right _ _) q
/-! ### a table of n slots taken -/
structure Tb (t : SetTable) (n : Nat) : Prop where
  ris : Ris t.place.toList
  dm : t.dummies = #[]
  sz : t.place.size = n
  msk : Msk t.mask
theorem Tb.first {t : SetTable} {n : Nat} (T : Tb t n) (hl : n ≤ t.mask) (h : Int) : ∃ K, K < 10 * SetTable.turns t.mask ∧ way t.mask h K ∉ t.place.toList ∧ ∀ k, k < K → way t.mask h k ∈ t.place.toList := by
  obtain ⟨j, hj, hn⟩ := st_missing t.place.toList (t.mask + 1) (by rw [Array.length_toList, T.sz]; omega)
  obtain ⟨k, hk, e⟩ := T.msk.way h (Nat.le_of_lt_succ hj)
  obtain ⟨K, h1, h2, h3⟩ := st_least (p := fun k => way t.mask h k ∉ t.place.toList) k (by show way t.mask h k ∉ _; rw [e]; exact hn)
  exact ⟨K, Nat.lt_of_le_of_lt h1 hk, h2, fun k' hk' => Classical.not_not.mp (h3 k' hk')⟩
theorem Tb.put {t : SetTable} {n : Nat} (T : Tb t n) {j : Nat} (hj : j ∉ t.place.toList) : SetTable.below t.place j ≤ n ∧ Tb (t.put j).1 (n + 1) := by
  obtain ⟨c1, _, _⟩ := below_cut T.ris j
  have hp : SetTable.below t.place j ≤ t.place.toList.length := by
    rw [Array.length_toList]
    exact c1
  refine ⟨by rw [← T.sz]; exact c1, ris_insert T.ris (fun e => hj (List.mem_of_getElem? (by rw [Array.getElem?_toList]; exact e))), put_dm T.dm j, ?_, T.msk⟩
  rw [← Array.length_toList, put_place, len_ins _ hp, Array.length_toList, T.sz]
theorem Tb.fill {t : SetTable} {n : Nat} (T : Tb t n) : t.fill = n := by
  unfold SetTable.fill
  rw [T.sz, T.dm]
  rfl
/-! ### the table laid anew -/
/-- n owners sit, each at one slot -/
structure Sit (m n : Nat) (owner : Array (Option Nat)) : Prop where
  sz : owner.size = m + 1
  all : ∀ k, k < n → ∃ j, j ≤ m ∧ oAt owner j = some k
  ps : ∃ ps : List Nat, ps.length = n ∧ ∀ j, j ≤ m → oAt owner j ≠ none → j ∈ ps
theorem free_at {m : Nat} (hm : Msk m) (owner : Array (Option Nat)) (h : Int) {j : Nat} (hj : j ≤ m) (hf : oAt owner j = none) :
    ∃ i, i ≤ m ∧ oAt owner i = none ∧ SetTable.layClean.free m owner (SetTable.turns m) (SetTable.bits h % (m + 1)) (SetTable.bits h) = some i := by
  obtain ⟨n, hn, e⟩ := hm.run h hj
  have hw : way m h (off m (SetTable.bits h % (m + 1)) (SetTable.bits h) n) = j := by
    show (nth m (runAt m (SetTable.bits h % (m + 1)) (SetTable.bits h)) _).j = j
    rw [nth_off, itL_run]
    exact e
  obtain ⟨K, k1, k2, k3⟩ := st_least (p := fun k => oAt owner (way m h k) = none) (off m (SetTable.bits h % (m + 1)) (SetTable.bits h) n) (by show oAt owner (way m h _) = none; rw [hw]; exact hf)
  refine ⟨way m h K, way_in m h K, k2, ?_⟩
  refine free_spec m owner (SetTable.turns m) n _ _ K (by unfold SetTable.turns; omega) k1 (fun k hk => ?_) (by rw [show oAt owner (nth m (runAt m (SetTable.bits h % (m + 1)) (SetTable.bits h)) K).j = none from k2]; rfl)
  have q := k3 k hk
  cases z : oAt owner (nth m (runAt m (SetTable.bits h % (m + 1)) (SetTable.bits h)) k).j with
  | none => exact absurd z q
  | some _ => rfl
theorem Sit.step {m n : Nat} (hm : Msk m) {owner : Array (Option Nat)} (W : Sit m n owner) (hl : n ≤ m) (h : Int) :
    ∃ owner', stepF m (some (owner, n)) h = some (owner', n + 1) ∧ Sit m (n + 1) owner' := by
  obtain ⟨ps, hps, hin⟩ := W.ps
  obtain ⟨j0, h0, hn0⟩ := st_missing ps (m + 1) (by omega)
  have hj0 : oAt owner j0 = none := Classical.not_not.mp fun z => hn0 (hin j0 (Nat.le_of_lt_succ h0) z)
  obtain ⟨i, hi, hn, e⟩ := free_at hm owner h (Nat.le_of_lt_succ h0) hj0
  have his : i < owner.size := by
    rw [W.sz]
    exact Nat.lt_succ_of_le hi
  refine ⟨_, stepF_some e, by rw [Array.size_setIfInBounds]; exact W.sz, fun k hk => ?_, i :: ps, by rw [List.length_cons, hps], fun j hj z => ?_⟩
  · rcases Nat.lt_or_ge k n with c | c
    · obtain ⟨j, hj, ej⟩ := W.all k c
      refine ⟨j, hj, ?_⟩
      rw [oAt_set_ne _ (fun z => by rw [z, hn] at ej; exact nomatch ej)]
      exact ej
    · obtain rfl : k = n := by omega
      exact ⟨i, hi, oAt_set_self _ his⟩
  · by_cases c : j = i
    · rw [c]
      exact List.mem_cons_self
    · rw [oAt_set_ne _ c] at z
      exact List.mem_cons_of_mem _ (hin j hj z)
theorem Sit.fold {m : Nat} (hm : Msk m) : ∀ (hs : List Int) (n : Nat) (owner : Array (Option Nat)), Sit m n owner → n + hs.length ≤ m → ∃ owner', hs.foldl (stepF m) (some (owner, n)) = some (owner', n + hs.length) ∧ Sit m (n + hs.length) owner'
  | [], n, owner, W, _ => ⟨owner, rfl, W⟩
  | h :: hs, n, owner, W, hl => by
    rw [List.length_cons] at hl ⊢
    obtain ⟨o1, e1, W1⟩ := W.step hm (by omega) h
    obtain ⟨o2, e2, W2⟩ := Sit.fold hm hs (n + 1) o1 W1 (by omega)
    rw [show n + (hs.length + 1) = n + 1 + hs.length by omega, List.foldl_cons, e1]
    exact ⟨o2, e2, W2⟩
theorem laid_anew (t : SetTable) {hs : Array Int} {wanted M : Nat} (hw : SetTable.sizeAbove wanted - 1 = M) (hM : Msk M) (hn : hs.size ≤ M) :
    ∃ t' order, t.relaid hs wanted = some (t', order) ∧ order.toList.Perm (List.range hs.size) ∧ Tb t' hs.size ∧ t'.mask = M ∧ t'.led = t.led ∧ t'.plain = t.plain := by
  have W0 : Sit M 0 (Array.replicate (M + 1) none) := ⟨by simp, fun k hk => absurd hk (Nat.not_lt_zero _), [], rfl, fun j hj z => absurd (oAt_init hj) z⟩
  obtain ⟨owner, e, W⟩ := Sit.fold hM hs.toList 0 _ W0 (by rw [Array.length_toList]; omega)
  rw [Array.length_toList, Nat.zero_add] at e W
  have ec : SetTable.layClean M hs = some owner := by
    rw [layClean_eq, e]
    rfl
  have hr : t.relaid hs wanted = some (tabOf t M owner, ((liveOf M owner).map (·.2)).toArray) := by
    rw [relaid_eq, hw, ec]
    rfl
  have ris := ris_live (fun j => owner.getD j none) (List.range (M + 1)) (show Ris _ from List.pairwise_lt_range)
  have r1 : Ris ((liveOf M owner).map (·.1)) := ris.1
  have nd : ((liveOf M owner).map (·.1)).Nodup := r1.imp fun h => Nat.ne_of_lt h
  obtain ⟨ps, p1, p2⟩ := W.ps
  have le1 := nat_nodup_len ((liveOf M owner).map (·.1)) ps nd fun x hx => by
    obtain ⟨⟨y, k⟩, hq, rfl⟩ := List.mem_map.mp hx
    obtain ⟨b1, b2⟩ := (mem_live W.sz).1 hq
    exact p2 y b1 (by rw [b2]; exact fun z => nomatch z)
  have hall : ∀ k, k < hs.size → k ∈ (liveOf M owner).map (·.2) := fun k hk => by
    obtain ⟨j, b1, b2⟩ := W.all k hk
    exact List.mem_map.mpr ⟨(j, k), (mem_live W.sz).2 ⟨b1, b2⟩, rfl⟩
  have le2 := nat_nodup_len (List.range hs.size) ((liveOf M owner).map (·.2)) List.nodup_range fun k hk => hall k (List.mem_range.mp hk)
  rw [List.length_map] at le1 le2
  rw [List.length_range] at le2
  have hlen : (liveOf M owner).length = hs.size := by omega
  refine ⟨_, _, hr, perm_range hs.size _ (by rw [List.length_map]; exact hlen) hall, ⟨r1, rfl, ?_, hM⟩, rfl, rfl, rfl⟩
  show ((liveOf M owner).map (·.1)).toArray.size = hs.size
  rw [List.size_toArray, List.length_map, hlen]
/-! ### the set of n tuples that differ -/
structure SetU (P : Program) (w : World) (h : Heap) (a : Addr) (L : List (Addr × List Int)) (es : Array (Int × Value)) (ep : Nat) (t : SetTable) : Prop where
  ob : ∃ o, h.get? a = some o ∧ o.ExactSet ∧ o.data = .set es ep t
  rows : es.toList = rowsOf P w L
  tab : Tb t L.length
  tup : ∀ p ∈ L, IsT P w h p.2 p.1
  plain : t.plain = true
  led : w.params.followText "set-order" = true ∨ t.led = true
  room : L.length * 5 < t.mask * 3
section
variable {P : Program} {w : World} {A : Around} {E : Value → Shared → Prop} {s : Shared} {a : Addr} {L : List (Addr × List Int)} {es : Array (Int × Value)} {ep : Nat} {t : SetTable}
theorem rows_size (h : es.toList = rowsOf P w L) : es.size = L.length := by
  have e := congrArg List.length h
  unfold rowsOf at e
  rw [List.length_map] at e
  exact e
theorem rows_get (h : es.toList = rowsOf P w L) {i : Nat} {p : Addr × List Int} (hp : L[i]? = some p) : es[i]? = some (thash P w p.2, Value.ref p.1) := by
  rw [← Array.getElem?_toList, h]
  unfold rowsOf
  rw [List.getElem?_map, hp]
  rfl
theorem Tb.fits {n : Nat} (T : Tb t n) (h : n * 5 < t.mask * 3) : t.fits n = true := by
  unfold SetTable.fits
  rw [T.fill, T.sz, Bool.and_eq_true]
  exact ⟨beq_self_eq_true _, decide_eq_true (by omega)⟩
theorem Tb.odd {n : Nat} (T : Tb t n) : ¬ t.gaveWay = true := by
  have : t.mask % 2 = 1 := by rcases T.msk with e | e | e | e <;> rw [e]
  unfold SetTable.gaveWay
  rw [this]
  decide
theorem Tb.turns {n : Nat} (T : Tb t n) : 10 * SetTable.turns t.mask ≤ 6000 := by
  unfold SetTable.turns
  rcases T.msk with e | e | e | e <;> omega
/-- the state of a search behind c steps -/
abbrev stp (m : Nat) (h : Int) (c : Nat) : SetTable.Probe := nth m (runAt m (SetTable.bits h % (m + 1)) (SetTable.bits h)) c
theorem adv_dummy {m : Nat} {p : SetTable.Probe} (h : p.dummy = none) : (adv m p).dummy = none := by
  unfold adv
  split <;> exact h
theorem nth_dummy {m : Nat} : ∀ (n : Nat) {p : SetTable.Probe}, p.dummy = none → (nth m p n).dummy = none
  | 0, _, h => h
  | n + 1, _, h => nth_dummy n (adv_dummy h)
theorem stp_add (m : Nat) (h : Int) (c q : Nat) : nth m (stp m h c) q = stp m h (c + q) := (nth_add m c _ q).symm
/-- a tuple that isn't in the set: the search comes to the free slot K -/
theorem search_new (R : SetU P w s.heap a L es ep t) {x : Addr} {k : List Int} (hx : IsT P w s.heap k x) (hk : k ∉ L.map (·.2)) (hu : A.units < cLine) {K : Nat} (hKf : K < 10 * SetTable.turns t.mask)
    (hK : way t.mask (thash P w k) K ∉ t.place.toList) (hKb : ∀ c, c < K → way t.mask (thash P w k) c ∈ t.place.toList) {Q : SetFound → Shared → Prop} (q : Q (.free (way t.mask (thash P w k) K) false) s) :
    ∀ (f c : Nat) (stand : Option SetTable.Probe), stand.getD (t.probeStart (thash P w k)) = stp t.mask (thash P w k) c → c ≤ K → K - c < f →
      wpAny (model P w) A (setSearchFrom a (.ref x) (thash P w k) true f stand) Q E s
  | 0, _, _, _, _, hf => absurd hf (Nat.not_lt_zero _)
  | f + 1, c, stand, hst, hc, hf => by
    obtain ⟨o, ho, hex, hd⟩ := R.ob
    have hsz := rows_size R.rows
    have hfit : t.fits es.size = true := by
      rw [hsz]
      exact R.tab.fits R.room
    rw [setSearchFrom_succ]
    refine wpAny_bind (wpAny_setState_of ho hd hfit ?_)
    dsimp only
    refine wp_if_neg R.tab.odd ?_
    try refine wpAny_bind (wpAny_pure ?_)
    have hj : ∀ i, (nth t.mask (stp t.mask (thash P w k) c) i).j = way t.mask (thash P w k) (c + i) := fun i => congrArg SetTable.Probe.j (stp_add _ _ _ _)
    have spec := go_spec t R.tab.ris R.tab.dm (fun i => (es[i]?.map (·.1)).getD 0) (thash P w k) (10 * SetTable.turns t.mask) (K - c) (stp t.mask (thash P w k) c) (nth_dummy c rfl) (by omega)
      (fun i hi => by rw [hj]; exact hKb _ (by omega)) (by rw [hj, show c + (K - c) = K by omega]; exact hK)
    rcases spec with ⟨i, e, hi, hie, _, _, hpr⟩ | ⟨_, hpr⟩
    · rw [hj] at hpr hie
      rw [stp_add] at hpr
      have hpr' : t.probe (fun i => (es[i]?.map (·.1)).getD 0) (thash P w k) (stand.getD (t.probeStart (thash P w k))) = some (.candidate (way t.mask (thash P w k) (c + i)) e (stp t.mask (thash P w k) (c + (i + 1)))) := by
        rw [hst]
        exact hpr
      rw [hpr']
      dsimp only
      have hel : e < L.length := by
        have h1 := (List.getElem?_eq_some_iff.mp hie).1
        rw [Array.length_toList, R.tab.sz] at h1
        exact h1
      have hp : L[e]? = some L[e] := List.getElem?_eq_getElem hel
      generalize L[e] = p at hp
      have hmem : p ∈ L := List.mem_of_getElem? hp
      have hne : ¬ p.2 = k := fun z => hk (List.mem_map.mpr ⟨p, hmem, z⟩)
      have hen := rows_get R.rows hp
      have rest : wpAny (model P w) A (searchRest a (.ref x) (thash P w k) true f es t (way t.mask (thash P w k) (c + i)) e (stp t.mask (thash P w k) (c + (i + 1)))) Q E s := by
        unfold searchRest
        rw [hen]
        dsimp only
        refine wpAny_bind (wpAny_holding (wpAny_eqBool_tuple hu (R.tup p hmem) hx ?_))
        refine wpAny_bind (wpAny_setState_of ho hd hfit ?_)
        dsimp only
        refine wp_if_neg (by simp [hne]) ?_
        try refine wpAny_bind (wpAny_pure ?_)
        rw [sameMem]
        dsimp only
        simp only [if_true, slot_live R.tab.ris hie, hen]
        refine wpAny_bind (wpAny_isSame_ref_self (wpAny_bind (wpAny_pure ?_)))
        simp only [if_true]
        refine wp_if_neg (by simp [hne]) ?_
        exact search_new R hx hk hu hKf hK hKb q f (c + (i + 1)) _ rfl (by omega) (by omega)
      by_cases hl : t.led = true
      · refine wp_if_neg (by simp [hl]) ?_
        try refine wpAny_bind (wpAny_pure ?_)
        exact rest
      · refine wp_if_pos (by simp [hl]) ?_
        refine wpAny_bind (seen_tup hx (fun y hy => ?_) ?_)
        · obtain ⟨en, he, rfl⟩ := List.mem_map.mp hy
          have he2 : en ∈ es.toList := by
            have : en ∈ es ∧ en.1 = thash P w k := by simpa using he
            exact Array.mem_def.mp this.1
          rw [R.rows] at he2
          obtain ⟨p2, hp2, rfl⟩ := List.mem_map.mp he2
          exact ⟨p2.2, p2.1, rfl, R.tup p2 hp2⟩
        · refine wp_if_neg (by decide) ?_
          try refine wpAny_bind (wpAny_pure ?_)
          exact rest
    · rw [hj, show c + (K - c) = K by omega] at hpr
      have hpr' : t.probe (fun i => (es[i]?.map (·.1)).getD 0) (thash P w k) (stand.getD (t.probeStart (thash P w k))) = some (.empty (way t.mask (thash P w k) K) none) := by
        rw [hst]
        exact hpr
      rw [hpr']
      exact wpAny_pure q
/-- the table is laid anew, larger -/
theorem relay_new {o : Obj} (ho : s.heap.get? a = some o) (hex : o.ExactSet) (hd : o.data = .set es ep t) (hrows : es.toList = rowsOf P w L) (T : Tb t L.length) (hfl : L.length ≤ t.mask)
    (tup : ∀ p ∈ L, IsT P w s.heap p.2 p.1) (pl : t.plain = true) (ld : w.params.followText "set-order" = true ∨ t.led = true) {wanted M : Nat} (hw : SetTable.sizeAbove wanted - 1 = M) (hM : Msk M) (hn : L.length * 5 < M * 3) {Q : Unit → Shared → Prop}
    (hQ : ∀ h' L' es' ep' t', Heap.SameBut a s.heap h' → SetU P w h' a L' es' ep' t' → L'.Perm L → Q () { s with heap := h' }) : wpAny (model P w) A (setRelay a wanted) Q E s := by
  have hsl := rows_size hrows
  have hM5 : M ≤ 511 := by rcases hM with e | e | e | e <;> omega
  have hfits : t.fits es.size = true := by
    unfold SetTable.fits
    rw [T.fill, T.sz, hsl, Bool.and_eq_true]
    exact ⟨beq_self_eq_true _, decide_eq_true hfl⟩
  obtain ⟨t', order, e, hp, T', em, el, epl⟩ := laid_anew t (hs := es.map (·.1)) hw hM (by rw [Array.size_map, hsl]; omega)
  rw [Array.size_map, hsl] at hp T'
  obtain ⟨L2, r1, r2, _⟩ := order_rows L es order hrows hp
  have hs2 : (order.filterMap (es[·]?)).size = L.length := by rw [rows_size r1, r2.length_eq]
  rw [setRelay_eq]
  refine wpAny_bind (wpAny_setState_of ho hd hfits ?_)
  dsimp only
  refine wp_if_neg (by rw [sizeLine_eq]; omega) ?_
  try refine wpAny_bind (wpAny_pure ?_)
  rw [e]
  dsimp only
  refine wpAny_bind ?_
  refine wp_if_neg (by rw [hs2, hsl]; simp) ?_
  try refine wpAny_bind (wpAny_pure ?_)
  refine wpAny_pure ?_
  dsimp only
  refine wpAny_storeSet_of ho hd ?_ (by rw [hs2, sizeLine_eq]; omega)
  have sb : Heap.SameBut a s.heap (s.heap.update a (Obj.putSet (order.filterMap (es[·]?)) t')) := Heap.SameBut.update ..
  refine hQ _ L2 _ (ep + 1) t' sb ⟨⟨_, store_at ho hd, ⟨hex.1, hex.2.1, hex.2.2⟩, rfl⟩, r1, by rw [r2.length_eq]; exact T', fun p hpm => isT_same (tup p (r2.mem_iff.mp hpm)) ho hd sb, by rw [epl]; exact pl, by rw [el]; exact ld, by rw [r2.length_eq, em]; exact hn⟩ r2
theorem grown5 : SetTable.sizeAbove (SetTable.grown 5) - 1 = 31 := by decide +kernel
theorem grown19 : SetTable.sizeAbove (SetTable.grown 19) - 1 = 127 := by decide +kernel
theorem grown77 : SetTable.sizeAbove (SetTable.grown 77) - 1 = 511 := by decide +kernel
/-- one more -/
theorem add_new (R : SetU P w s.heap a L es ep t) {x : Addr} {k : List Int} (hx : IsT P w s.heap k x) (hk : k ∉ L.map (·.2)) (hu : A.units < cLine) (hfew : L.length + 1 ≤ 300) {Q : Bool → Shared → Prop}
    (hQ : ∀ h' L' es' ep' t', Heap.SameBut a s.heap h' → SetU P w h' a L' es' ep' t' → L'.Perm ((x, k) :: L) → Q true { s with heap := h' }) :
    wpAny (model P w) A (setAddHashed a (.ref x) (thash P w k)) Q E s := by
  obtain ⟨o, ho, hex, hd⟩ := R.ob
  have hsl := rows_size R.rows
  have hroom := R.room
  have hfit : t.fits es.size = true := by
    rw [hsl]
    exact R.tab.fits hroom
  obtain ⟨K, hKf, hK, hKb⟩ := R.tab.first (by omega) (thash P w k)
  have hturn := R.tab.turns
  unfold setAddHashed
  refine wpAny_holding ?_
  rw [show (100000 : Nat) = 99999 + 1 from rfl, setAddHashedIn_succ]
  refine wpAny_bind (wpAny_setState_of ho hd hfit ?_)
  dsimp only
  refine wp_if_neg (by simp [byScan, Value.scannable]) ?_
  try refine wpAny_bind (wpAny_pure ?_)
  refine wpAny_bind (m := setSearch a (.ref x) (thash P w k) true) ?_
  unfold setSearch
  refine search_new R hx hk hu hKf hK hKb ?_ 100000 0 none rfl (Nat.zero_le _) (by omega)
  dsimp only
  refine wpAny_bind (wpAny_setState_of ho hd hfit ?_)
  dsimp only
  obtain ⟨q2, q3⟩ := R.tab.put hK
  have q1 : (t.put (way t.mask (thash P w k) K)).2 = SetTable.below t.place (way t.mask (thash P w k) K) := rfl
  have q4 : (t.put (way t.mask (thash P w k) K)).1.mask = t.mask := rfl
  have q5 : (t.put (way t.mask (thash P w k) K)).1.led = t.led := rfl
  have hp1 : (t.put (way t.mask (thash P w k) K)).1.plain = true := R.plain
  generalize t.put (way t.mask (thash P w k) K) = pt at q1 q3 q4 q5 hp1 ⊢
  obtain ⟨t1, p⟩ := pt
  dsimp only at q1 q3 q4 q5 hp1 ⊢
  subst q1
  first
    | (refine wpAny_bind ?_; refine wp_if_pos hp1 ?_; refine hashBy_tup hx ?_)
    | refine wp_if_pos hp1 (wpAny_bind (hashBy_tup hx ?_))
  simp only [if_true]
  have hin : (SetTable.insertAt es (SetTable.below t.place (way t.mask (thash P w k) K)) (thash P w k, Value.ref x)).toList = rowsOf P w (L.take (SetTable.below t.place (way t.mask (thash P w k) K)) ++ (x, k) :: L.drop (SetTable.below t.place (way t.mask (thash P w k) K))) := by
    rw [SetTable.toList_insertAt, rows_put, R.rows]
  generalize SetTable.below t.place (way t.mask (thash P w k) K) = p at hin ⊢
  have pm := put_perm L p (x, k)
  have hlen : (L.take p ++ (x, k) :: L.drop p).length = L.length + 1 := pm.length_eq
  generalize L.take p ++ (x, k) :: L.drop p = L1 at pm hlen hin
  have hes := rows_size hin
  generalize SetTable.insertAt es p (thash P w k, Value.ref x) = es1 at hin hes ⊢
  refine wpAny_bind (wpAny_storeSet_of ho hd ?_ (by rw [hes, hlen, sizeLine_eq]; omega))
  have sb : Heap.SameBut a s.heap (s.heap.update a (Obj.putSet es1 t1)) := Heap.SameBut.update ..
  have ho1 := store_at (es' := es1) (t' := t1) ho hd
  generalize s.heap.update a (Obj.putSet es1 t1) = h1 at sb ho1 ⊢
  have tup1 : ∀ p ∈ L1, IsT P w h1 p.2 p.1 := fun p hp => by
    rcases List.mem_cons.mp (pm.mem_iff.mp hp) with rfl | hp
    · exact isT_same hx ho hd sb
    · exact isT_same (R.tup p hp) ho hd sb
  have ld1 : w.params.followText "set-order" = true ∨ t1.led = true := by
    rw [q5]
    exact R.led
  rw [← hlen] at q3
  by_cases hf : t1.tooFull = true
  · first
      | (refine wpAny_bind ?_; refine wp_if_pos (by simp [hf]) ?_)
      | (refine wp_if_pos (by simp [hf]) ?_; refine wpAny_bind ?_)
    have hfull : (L.length + 1) * 5 ≥ t.mask * 3 := by
      have h := hf
      unfold SetTable.tooFull at h
      rw [decide_eq_true_eq, q3.fill, hlen, q4] at h
      exact h
    obtain ⟨M, hM, hw, hn⟩ : ∃ M, Msk M ∧ SetTable.sizeAbove (SetTable.grown (L.length + 1)) - 1 = M ∧ (L.length + 1) * 5 < M * 3 := by
      rcases R.tab.msk with e | e | e | e
      · rw [e] at hfull hroom
        rw [show L.length = 4 by omega]
        exact ⟨31, .inr (.inl rfl), grown5, by decide⟩
      · rw [e] at hfull hroom
        rw [show L.length = 18 by omega]
        exact ⟨127, .inr (.inr (.inl rfl)), grown19, by decide⟩
      · rw [e] at hfull hroom
        rw [show L.length = 76 by omega]
        exact ⟨511, .inr (.inr (.inr rfl)), grown77, by decide⟩
      · exfalso
        rw [e] at hfull
        omega
    rw [hsl]
    refine relay_new (s := { s with heap := h1 }) ho1 ⟨hex.1, hex.2.1, hex.2.2⟩ rfl hin q3 (by rw [hlen, q4]; omega) tup1 hp1 ld1 hw hM (by rw [hlen]; exact hn) ?_
    intro h2 L2 es2 ep2 t2 sb2 R2 pm2
    exact wpAny_pure (hQ h2 L2 es2 ep2 t2 (sb.trans sb2) R2 (pm2.trans pm))
  · first
      | refine wp_if_neg (by simp [hf]) ?_
      | (refine wpAny_bind ?_; refine wp_if_neg (by simp [hf]) ?_; refine wpAny_pure ?_)
    refine wpAny_pure (hQ h1 L1 es1 (ep + 1) t1 sb ⟨⟨_, ho1, ⟨hex.1, hex.2.1, hex.2.2⟩, rfl⟩, hin, q3, tup1, hp1, ld1, ?_⟩ pm)
    have h := hf
    unfold SetTable.tooFull at h
    rw [decide_eq_true_eq, q3.fill] at h
    omega
end
section
variable {P : Program} {w : World} {A : Around} {E : Value → Shared → Prop} {s : Shared}
theorem SetU.at {h h' : Heap} {a : Addr} {L : List (Addr × List Int)} {es : Array (Int × Value)} {ep : Nat} {t : SetTable} (R : SetU P w h a L es ep t) (ha : ∀ o, h.get? a = some o → h'.get? a = some o) (ht : ∀ p ∈ L, IsT P w h' p.2 p.1) : SetU P w h' a L es ep t :=
  let ⟨o, ho, r⟩ := R.ob
  ⟨⟨o, ha o ho, r⟩, R.rows, R.tab, ht, R.plain, R.led, R.room⟩
theorem setU_empty {h : Heap} {a : Addr} (ho : h.get? a = some { cls := .type "set", dict := none, data := .set #[] 0 (.fresh 0 0 (!w.params.followText "set-order")) }) : SetU P w h a [] #[] 0 (.fresh 0 0 (!w.params.followText "set-order")) where
  ob := ⟨_, ho, ⟨rfl, rfl, rfl⟩, rfl⟩
  rows := rfl
  tab := ⟨List.Pairwise.nil, rfl, rfl, .inl rfl⟩
  tup := fun p hp => nomatch hp
  plain := rfl
  led := by
    show _ ∨ (!w.params.followText "set-order") = true
    cases w.params.followText "set-order"
    · exact .inr rfl
    · exact .inl rfl
  room := show 0 * 5 < 7 * 3 by decide
theorem new_key {ks L : List (Addr × List Int)} (nd : (ks.map (·.2)).Nodup) {i : Nat} {p : Addr × List Int} (hp : ks[i]? = some p) (pm : L.Perm (ks.take i)) : p.2 ∉ L.map (·.2) := fun hm => by
  have hm2 := (pm.map (·.2)).mem_iff.mp hm
  rw [List.map_take] at hm2
  obtain ⟨j, hj⟩ := List.mem_iff_getElem?.mp hm2
  rw [List.getElem?_take] at hj
  split at hj
  · rename_i hji
    have h1 : (ks.map (·.2))[i]? = some p.2 := by rw [List.getElem?_map, hp]; rfl
    obtain ⟨a1, b1⟩ := List.getElem?_eq_some_iff.mp hj
    obtain ⟨a2, b2⟩ := List.getElem?_eq_some_iff.mp h1
    exact List.pairwise_iff_getElem.mp nd j i a1 a2 hji (b1.trans b2.symm)
  · exact nomatch hj
/-- the loop of set.update -/
theorem update_new {I : Addr} {fp wr : List Addr} {G : Array GenState → Array GenState → Prop} {n : Nat} {Pv : Nat → Value → Prop} {St : Nat → Shared → Prop} {R : Result → Shared → Prop}
    (W : WalksS P w A.in1 I fp wr G n Pv St) (S : Addr) (hS : S ∉ fp) (ks : List (Addr × List Int)) (hn : n = ks.length) (hfew : ks.length ≤ 300) (nd : (ks.map (·.2)).Nodup) (hval : ∀ i v, Pv i v → ∃ p, ks[i]? = some p ∧ v = .ref p.1)
    (h0 : Heap) (hk : ∀ p ∈ ks, IsT P w h0 p.2 p.1) (hS0 : h0.get? S = none) (hw0 : ∀ b ∈ wr, h0.get? b = none) (hu : A.in1.units < cLine) (m : Nat) :
    ∀ (i : Nat) (s : Shared) (L : List (Addr × List Int)) (es : Array (Int × Value)) (ep : Nat) (t : SetTable), i + m = n → St i s → (∀ b o, h0.get? b = some o → s.heap.get? b = some o) → SetU P w s.heap S L es ep t → L.Perm (ks.take i) →
      (∀ s' L es ep t, Moved (S :: wr) G s s' → SetU P w s'.heap S L es ep t → L.Perm ks → (∀ b o, h0.get? b = some o → s'.heap.get? b = some o) → R (.ok (.ret .none)) s') →
      codeAny (model P w) A (.builtin "set.update.loop" ⟨[.ref S, .ref I], []⟩) R s := by
  have hSw : S ∉ wr := fun h => hS (W.sub _ h)
  have wide : ∀ {s s' : Shared}, Moved wr G s s' → Moved (S :: wr) G s s' := fun hm => hm.mono fun b hb => List.mem_cons_of_mem _ hb
  have kept : ∀ {s s' : Shared}, Moved wr G s s' → (∀ b o, h0.get? b = some o → s.heap.get? b = some o) → ∀ b o, h0.get? b = some o → s'.heap.get? b = some o := fun hm hkp b o e =>
    hm.heap b o (fun hb => by rw [hw0 b hb] at e; exact nomatch e) (hkp b o e)
  have inks : ∀ {i : Nat} {L : List (Addr × List Int)}, L.Perm (ks.take i) → ∀ p ∈ L, p ∈ ks := fun pm p hp => List.mem_of_mem_take (pm.mem_iff.mp hp)
  induction m with
  | zero =>
    intro i s L es ep t hi hst hkp hU pm hR
    obtain rfl : i = n := by omega
    refine codeAny_builtin F.entry_set_update_loop ?_
    rw [Around.under_plainId F.plain_set_update_loop _]
    show wpAny _ A.in1 (pyNext (.ref I) >>= _) _ _ s
    refine wpAny_bind (W.done s _ _ hst fun s' hm => ?_)
    show wpAny _ A.in1 (ret Value.none) _ _ s'
    have hkp' := kept hm hkp
    refine wpAny_pure (hR s' L es ep t (wide hm) (hU.at (fun o e => hm.heap S o hSw e) fun p hp => isT_keep (hk p (inks pm p hp)) hkp') ?_ hkp')
    rw [hn, List.take_length] at pm
    exact pm
  | succ m ih =>
    intro i s L es ep t hi hst hkp hU pm hR
    refine codeAny_builtin F.entry_set_update_loop ?_
    rw [Around.under_plainId F.plain_set_update_loop _]
    show wpAny _ A.in1 (pyNext (.ref I) >>= _) _ _ s
    refine wpAny_bind (W.item i s _ _ (by omega) hst fun v s' hP hst' hm => ?_)
    obtain ⟨p, hp, rfl⟩ := hval i v hP
    have hkp' := kept hm hkp
    have hU' : SetU P w s'.heap S L es ep t := hU.at (fun o e => hm.heap S o hSw e) fun q hq => isT_keep (hk q (inks pm q hq)) hkp'
    have hx : IsT P w s'.heap p.2 p.1 := isT_keep (hk p (List.mem_of_getElem? hp)) hkp'
    show wpAny _ A.in1 (holding [Value.ref p.1] (setAdd S (.ref p.1)) >>= _) _ _ s'
    refine wpAny_bind (wpAny_holding ?_)
    unfold setAdd
    refine wpAny_holding ?_
    refine wpAny_bind (wpAny_pyHash_tuple hu hx ?_)
    have hil : i < ks.length := (List.getElem?_eq_some_iff.mp hp).1
    refine add_new (s := { s' with toks := s'.toks + (p.2.length + 1) }) hU' hx (new_key nd hp pm) hu (by rw [pm.length_eq, List.length_take]; omega) fun h' L' es' ep' t' hsb hU2 pm2 => ?_
    have hkp2 : ∀ b o, h0.get? b = some o → h'.get? b = some o := fun b o e => (hsb.2 b (fun z => by rw [z, hS0] at e; exact nomatch e)).trans (hkp' b o e)
    refine wpAny_pure ⟨plainId_quiet F.plain_set_update_loop _, ih (i + 1) _ L' es' ep' t' (by omega) (W.frame _ s' _ _ hst' (Nat.le_add_right _ _) fun b hb o e => ?_) hkp2 hU2 ?_ fun s'' L2 es2 ep2 t2 hm'' hU'' pm'' hkp'' => ?_⟩
    · rw [hsb.2 b (fun h : b = S => hS (by rw [← h]; exact hb))]
      exact e
    · rw [take_next hp]
      exact pm2.trans ((pm.cons _).trans (List.perm_append_singleton _ _).symm)
    · refine hR s'' L2 es2 ep2 t2 (Moved.trans W.gtrans ((wide hm).then_heap (Nat.le_add_right _ _) fun b o hb e => ?_) hm'') hU'' pm'' hkp''
      rw [hsb.2 b (fun h : b = S => hb (by rw [h]; exact List.mem_cons_self))]
      exact e
/-- the set that is made first -/
abbrev newS (w : World) : Obj := { cls := .type "set", dict := none, data := .set #[] 0 (.fresh 0 0 (!w.params.followText "set-order")) }
/-- set(xs) -/
theorem call_set_new {l : Addr} {items : Array Value} (ks : List (Addr × List Int)) {Q : Value → Shared → Prop} (hh : A.handled = none) (hl : s.heap.IsList l items) (hit : items.toList = ks.map fun p => Value.ref p.1)
    (hk : ∀ p ∈ ks, IsT P w s.heap p.2 p.1) (nd : (ks.map (·.2)).Nodup) (hfew : ks.length ≤ 300) (hu : A.units + 3 < cLine)
    (h : ∀ (h' : Heap) (tk : Nat) L es ep t, SetU P w h' s.heap.objs.size L es ep t → L.Perm ks → (∀ b o, s.heap.get? b = some o → h'.get? b = some o) → Q (.ref s.heap.objs.size) { s with heap := h', toks := tk }) :
    wpAny (model P w) A (call (.type "set") [.ref l]) Q E s := by
  have hisz : items.size = ks.length := by
    have q := congrArg List.length hit
    rw [Array.length_toList, List.length_map] at q
    exact q
  have hval : ∀ (i : Nat) (v : Value), items[i]? = some v → ∃ p, ks[i]? = some p ∧ v = .ref p.1 := fun i v hv => by
    rw [← Array.getElem?_toList, hit, List.getElem?_map] at hv
    obtain ⟨p, hp, e⟩ := Option.map_eq_some_iff.mp hv
    exact ⟨p, hp, e.symm⟩
  obtain ⟨c, tl, hmro⟩ := F.called_set.mro
  have hmade := F.called_set.made
  have hsub := F.called_set.sub
  refine wpAny_call (codeAny_of_tree ?_)
  show wpAny _ _ (callAny (.type "set") _) _ _ _
  refine wpAny_pure ⟨Code.quiet_builtin _ (by decide +kernel), codeAny_builtin F.entry_type_call ?_⟩
  rw [Around.under_plain (weight_type_call_type "set" [.ref l] []) rfl]
  have h1 := F.called_set.notType
  have h2 := F.called_set.canCreate
  have hct := F.typeCall_set_1 (.ref l)
  repeat (any_goals (first | assumption | wp_step))
  have hS : (s.heap.push (newS w)).get? s.heap.objs.size = some (newS w) := Heap.get?_push_size _ rfl
  refine codeAny_mono (code_set_led1 (.ref l) (E := E) (Q₁ := fun obj s₁ => obj = .ref s.heap.objs.size ∧ s₁ = { s with heap := s.heap.push (newS w) }) ⟨rfl, rfl⟩) fun r s₁ hr => ?_
  have hro : ∃ obj, r = .ok (.ret obj) ∨ ∃ e, r = .error e := by
    cases r with
    | error e => exact ⟨.none, .inr ⟨e, rfl⟩⟩
    | ok fl =>
      cases fl with
      | ret obj => exact ⟨obj, .inl rfl⟩
      | _ => exact hr.elim
  obtain ⟨obj, rfl | ⟨e, rfl⟩⟩ := hro
  · obtain ⟨rfl, rfl⟩ := hr
    have hT : Shared.TypeIs { s with heap := s.heap.push (newS w) } (.ref s.heap.objs.size) "set" := ⟨_, hS, rfl⟩
    have hli := F.called_set.init.lookup
    have hbi := F.called_set.init.bind (.ref s.heap.objs.size)
    repeat (any_goals (first | assumption | wp_step))
    refine codeAny_mono (codeAny_call_builtin (R := wants (fun r s₂ => r = .none ∧ ∃ h' tk L es ep t, s₂ = { s with heap := h', toks := tk } ∧ SetU P w h' s.heap.objs.size L es ep t ∧ L.Perm ks ∧ (∀ b o, s.heap.get? b = some o → h'.get? b = some o)) E)
      F.called_set.init.plain F.entry_set_init (check_set_init_1 hT ?_)) fun r₂ s₂ hr₂ => ?_
    · obtain ⟨⟨ocls, odict, odata, oslots⟩, hol, hcl, nl, hdl⟩ := hl
      dsimp only at hcl hdl
      subst hcl
      subst hdl
      have hol' : (s.heap.push (newS w)).get? l = some { cls := .type "list", dict := odict, data := .seq items nl, slots := oslots } := Heap.get?_push_of_some _ hol
      have hl1 : (s.heap.push (newS w)).IsList l items := ⟨_, hol', rfl, nl, rfl⟩
      have hsls := F.sub_list_set
      have hslf := F.sub_list_frozenset
      have hne : (Value.type "list" == Value.type "dict") = false := by decide
      unfold Builtin.«set.__init__» noKeywords Builtin.Frozenset.updateFrom
      generalize hPI : pyIter = PI
      wp_walk
      subst hPI
      refine wpAny_pyIter_list hl1 ?_
      refine wpAny_bind (wpAny_runValue ?_)
      have hlS : l < s.heap.objs.size := Heap.lt_size hol
      have hz1 : (s.heap.push (newS w)).objs.size = s.heap.objs.size + 1 := Heap.size_push ..
      have free : ∀ b, s.heap.objs.size ≤ b → s.heap.get? b = none := fun b hb => by
        cases q : s.heap.get? b with
        | none => rfl
        | some o => exact absurd (Nat.lt_of_lt_of_le (Heap.lt_size q) hb) (Nat.lt_irrefl _)
      refine update_new ((Walks.list (show A.in1.in1.in1.handled = none by simp [hh]) _ l (by rw [hz1]; exact Nat.ne_of_lt (Nat.lt_succ_of_lt hlS)) items).toS) s.heap.objs.size
        (by rw [hz1]; simp only [List.mem_cons, List.not_mem_nil, or_false, not_or]; exact ⟨Nat.ne_of_lt (Nat.lt_succ_self _), Nat.ne_of_gt hlS⟩) ks hisz hfew nd hval s.heap hk (free _ (Nat.le_refl _)) (fun b hb => free b (by rw [List.mem_singleton.mp hb, hz1]; exact Nat.le_succ _)) hu items.size 0 _ [] #[] 0 _ (Nat.zero_add _)
        ⟨⟨_, Heap.get?_push_size _ rfl, rfl, rfl⟩, hl1.push _⟩ (fun b o e => Heap.get?_push_of_some _ (Heap.get?_push_of_some _ e)) (setU_empty (Heap.get?_push_of_some _ hS)) (List.Perm.refl _) ?_
      intro s' L es ep t hm hU pm hkp
      obtain ⟨h', g2, d', tk', os'⟩ := s'
      have eg : g2 = s.gens := hm.gens
      have ed : d' = s.drawn := hm.drawn
      have eo : os' = s.os := hm.os
      subst eg
      subst ed
      subst eo
      show wpAny _ _ _ _ _ _
      refine wpAny_pure ?_
      show wpAny _ _ (ret Value.none) _ _ _
      exact wpAny_pure ⟨rfl, h', tk', L, es, ep, t, rfl, hU, pm, hkp⟩
    · cases r₂ with
      | error e => exact hr₂
      | ok fl₂ =>
        cases fl₂ with
        | ret r =>
          obtain ⟨rfl, h', tk, L, es, ep, t, rfl, hU, pm, hk'⟩ := hr₂
          repeat (any_goals (first | assumption | wp_step))
          exact h _ _ _ _ _ _ hU pm hk'
        | _ => exact hr₂.elim
  · exact hr
end
/-! ### len(set(xs)) -/
section
variable {X : Cx}
/-- the items of xs are tuples of these ints, all different -/
def tLenSetT (K : PySem.W.Frag) (ta : TE) : TE := fun σ H Q => ta σ H fun x H1 => ∃ (l : Addr) (ks : List (Addr × List Int)), x = V.ref l ∧ SqL K H1 l (ks.map fun p => V.ref p.1) ∧ (∀ p ∈ ks, SqT K H1 p.1 (p.2.map V.int)) ∧ (ks.map (·.2)).Nodup ∧ ks.length ≤ 300 ∧ Q (.int ks.length) H1
theorem pe_lenSetT {a : Expr} {ta : TE} {p p2 q pos : Pos} (hc : X.calm = true) (hu : X.A.units + 64 < cLine) (hg : Gl X "len") (hm : X.mg "len" = none) (hg2 : Gl X "set") (hm2 : X.mg "set" = none) (ha : PE X a ta)
    (na : starEach [a] X.env = (false, eval a X.env) :: starEach [] X.env := by rfl) : PE X (.Call (.Name "len" p) [.Call (.Name "set" p2) [a] [] q] [] pos) (tLenSetT X.K ta) := by
  refine ⟨fun pins s σ H Q I h => ?_⟩
  refine Call_ (ld_blt I hg hm PySem.boot_len ?_)
  refine PyProof.Rows.callWith_builtin1 (PyProof.Rows.args_cons ?_ rfl) rfl rfl
  refine Call_ (ld_blt I hg2 hm2 PyProof.Rows.boot_set ?_)
  refine PyProof.Rows.callWith_type1 (PyProof.Rows.args_cons (thn (ha.run pins s σ H _ I h) fun v s1 ⟨x, H1, I1, r1, q1⟩ => PyProof.Rows.args_nil ?_) na) na rfl
  obtain ⟨l, ks, rfl, hl, hk, nd, hf, q1⟩ := q1
  rw [show v = Value.ref l from r1]
  obtain ⟨its, rv, pl, hz⟩ := I1.list hl
  refine call_set_new (P := X.prog) (w := X.w) ks (I1.ok.hd hc) pl.isList (by simpa using refs_of_vals rv) (fun p hp => I1.isT (hk p hp)) nd hf (by omega) fun h' tk L es ep t U pm k => ?_
  refine PyProof.Rows.args_nil ?_
  obtain ⟨o, ho, hex, hd⟩ := U.ob
  have hsz := rows_size U.rows
  have hlen := pm.length_eq
  have I2 : Inv X pins σ H1 { s1 with heap := h', toks := tk } := I1.kept fun b o e => k b o e
  refine call_len_set ho hex hd (by rw [hsz]; exact U.tab.fits U.room) (by rw [hsz]; omega) ⟨.int ks.length, H1, I2.tok _, ⟨_, by rw [hsz, hlen]⟩, q1⟩
end
theorem st_lenSetT {K : PySem.W.Frag} {ta : TE} {σ : L2.St} {H : Hp} {Q : VK} (h : ta σ H fun x H1 => ∃ (l : Addr) (ks : List (Addr × List Int)), x = V.ref l ∧ SqL K H1 l (ks.map fun p => V.ref p.1) ∧ (∀ p ∈ ks, SqT K H1 p.1 (p.2.map V.int)) ∧ (ks.map (·.2)).Nodup ∧ ks.length ≤ 300 ∧ Q (.int ks.length) H1) : tLenSetT K ta σ H Q := h
end Z
namespace Z
open PySem PySem.Spec PyProof.Rows L2
section
variable {G H : Hp} {W : Wl} {Q : VK} {σ : L2.St} {vs : List Nat} {tt : TT} {te : TE}
/-- [.. for i in range(lo, z)], the variable at slot j -/
theorem lc_r2 {lo z : Int} {j : Nat} (hz : -(2 ^ 62) ≤ lo ∧ lo < 2 ^ 62 ∧ -(2 ^ 62) ≤ z ∧ z < 2 ^ 62) (I : Nat → List V → Hp → Prop) (w : Wd G W H) (h0 : I 0 [] G) (hw : ∀ x, wipe ((wipe σ vs).set j x) vs = wipe σ vs)
    (hs : ∀ (i : Nat) D G' H' acc, lo + (i : Int) < z → Same G G' → Wd G' ((D, Is (.lst acc)) :: W) H' → I i acc G' → tt ((wipe σ vs).set j (some (.int (lo + (i : Int))))) H' fun b H3 =>
      if b = true then te ((wipe σ vs).set j (some (.int (lo + (i : Int))))) H3 fun y H4 => ∃ acc, H4 D = some (.lst acc) ∧ acc.length < sizeLine ∧ LcB I G W D (i + 1) (upd H4 D (.lst (acc ++ [y]))) else LcB I G W D (i + 1) H3)
    (hd : ∀ D G' H' acc, Same G G' → Wd G' ((D, Is (.lst acc)) :: W) H' → I (z - lo).toNat acc G' → Q (.ref D) H') :
    ∃ i j' : Int, [V.int lo, V.int z] = [.int i, .int j'] ∧ (-(2 ^ 62) ≤ i ∧ i < 2 ^ 62 ∧ -(2 ^ 62) ≤ j' ∧ j' < 2 ^ 62) ∧ LcQ (Itr i (j' - i).toNat) (gName j) tt te vs σ H Q :=
  ⟨lo, z, rfl, hz, lc_go walk_range I w (fun _ _ _ _ _ => trivial) h0 (fun i x D G' H' H'' acc hi e w' h y => by
    obtain ⟨rfl, rfl⟩ := y
    exact ⟨hw _, hs i D G' H'' acc (by omega) e w' h⟩) hd⟩
end
end Z

/-! min(x, y, key=f), f a def -/
namespace Z
open PySem PySem.Spec PyProof.Rows L2
theorem args_min2_key (a b v : Value) : argsOk "min" ⟨[a, b], [(Str.ofString "key", v)]⟩ := by unfold argsOk; kernel_rfl
def rMinK2 (f : Addr) (sp : Sp) (dvs : List V) : List V → List V → Hp → VK → Prop := fun xs zs H Q => ∃ (a b : Addr) (c1 c2 : Int), xs = [.ref a, .ref b] ∧ zs = [.ref f] ∧
  (∀ Q' : VK, Q' (.int c1) H → sp ([.ref a] ++ dvs) H Q' E0) ∧ (∀ Q' : VK, Q' (.int c2) H → sp ([.ref b] ++ dvs) H Q' E0) ∧ Q (.ref (if c2 < c1 then b else a)) H
theorem cr_min2K {X : Cx} {k : Nat} {f : Addr} {fd : FuncData} {ps : List Str} {sp : Sp} {dvs : List V} {ds : List Value} (Fn : FnOk X.prog X.w X.K X.mg X.base CX0 k f fd ps sp) (hr : Room (k + 1) X.A) (hb : Binds X.K fd ps ds) (hd : Vals dvs ds) :
    CallRK X (.builtin "min") [Str.ofString "key"] (rMinK2 f sp dvs) := by
  intro pins s σ H xs zs us ws Q I r rz h
  obtain ⟨a, b, c1, c2, rfl, rfl, h1, h2, q⟩ := h
  obtain ⟨u1, u2, rfl, r1, r2⟩ := vals2 r
  obtain rfl : u1 = Value.ref a := r1
  obtain rfl : u2 = Value.ref b := r2
  obtain ⟨u3, rfl, r3⟩ := vals1 rz
  obtain rfl : u3 = Value.ref f := r3
  show wpAny _ _ (call (.builtin "min") [.ref a, .ref b] [(Str.ofString "key", .ref f)]) _ _ s
  refine PyProof.Rows.kmk_tree F.kind_min F.plain_min F.entry_min (args_min2_key _ _ _) ?_
  have hH0 : ∀ n, s.heap.objs.size ≤ n → H n = none := fun n hn => I.hok.fresh hn
  show wpAny _ X.A.in1 (Builtin.Builtins.bindParams "min" ["key", "default"] 0 ⟨[], [(Str.ofString "key", .ref f)]⟩ >>= _) _ _ s
  refine wpAny_bind (wpAny_of_eq (show Builtin.Builtins.bindParams "min" ["key", "default"] 0 ⟨[], [(Str.ofString "key", .ref f)]⟩ = pure [some (.ref f), none] from rfl) ?_)
  show wpAny _ X.A.in1 (newTuple [.ref a, .ref b] >>= _) _ _ s
  refine wpAny_bind (wpAny_newObj_type ?_)
  have hT : (s.heap.push { cls := .type "tuple", data := .seq #[Value.ref a, .ref b] }).IsTuple s.heap.objs.size #[Value.ref a, .ref b] := ⟨_, Heap.get?_push_size _ rfl, rfl, 0, rfl⟩
  refine wpAny_bind (wpAny_pyIter_tuple (s := { s with heap := s.heap.push { cls := .type "tuple", data := .seq #[Value.ref a, .ref b] } }) hT ?_)
  refine wpAny_bind (wpAny_newObj_type ?_)
  have z1 : (s.heap.push { cls := .type "tuple", data := .seq #[Value.ref a, .ref b] }).objs.size = s.heap.objs.size + 1 := Heap.size_push ..
  dsimp only
  have hIt : ((s.heap.push { cls := .type "tuple", data := .seq #[Value.ref a, .ref b] }).push { cls := .type "tuple_iterator", data := .fields #[.ref s.heap.objs.size, .int 0 0] }).IsTupleIter (s.heap.objs.size + 1) s.heap.objs.size 0 := by
    rw [← z1]
    exact ⟨_, Heap.get?_push_size _ rfl, rfl, rfl⟩
  have z2 : ((s.heap.push { cls := .type "tuple", data := .seq #[Value.ref a, .ref b] }).push { cls := .type "tuple_iterator", data := .fields #[.ref s.heap.objs.size, .int 0 0] }).objs.size = s.heap.objs.size + 2 := by
    rw [Heap.size_push, z1]
  rw [z1]
  have hT2 := hT.push { cls := .type "tuple_iterator", data := .fields #[.ref s.heap.objs.size, .int 0 0] }
  have kp2 : ∀ c o, s.heap.get? c = some o → ((s.heap.push { cls := .type "tuple", data := .seq #[Value.ref a, .ref b] }).push { cls := .type "tuple_iterator", data := .fields #[.ref s.heap.objs.size, .int 0 0] }).get? c = some o := fun c o e => Heap.get?_push_of_some _ (Heap.get?_push_of_some _ e)
  generalize (s.heap.push { cls := .type "tuple", data := .seq #[Value.ref a, .ref b] }).push { cls := .type "tuple_iterator", data := .fields #[.ref s.heap.objs.size, .int 0 0] } = h2' at hIt z2 hT2 kp2 ⊢
  have hS3 : (h2'.push { cls := .type "list", data := .seq ([] : List Value).toArray }).get? (s.heap.objs.size + 2) = some { cls := .type "list", dict := none, data := .seq #[] 0, slots := #[] } := by
    rw [← z2]
    exact Heap.get?_push_size _ rfl
  have hname : (toString "min" ++ toString ".loop" : String) = "min.loop" := by decide
  rw [hname, z2]
  have kp3 : ∀ c o, s.heap.get? c = some o → (h2'.push { cls := .type "list", data := .seq ([] : List Value).toArray }).get? c = some o := fun c o e => Heap.get?_push_of_some _ (kp2 c o e)
  have hIt3 := hIt.at (h' := h2'.push { cls := .type "list", data := .seq ([] : List Value).toArray }) fun o e => Heap.get?_push_of_some _ e
  have hT3 := hT2.push { cls := .type "list", data := .seq ([] : List Value).toArray }
  generalize h2'.push { cls := .type "list", data := .seq ([] : List Value).toArray } = h3 at hS3 kp3 hIt3 hT3 ⊢
  obtain ⟨tp, htp⟩ : ∃ tp, tp = s.heap.objs.size := ⟨_, rfl⟩
  have fpT := I.fpOk (H' := H) (b := tp) (by omega) (hH0 _ (by omega))
  have fpI := I.fpOk (H' := H) (b := tp + 1) (by omega) (hH0 _ (by omega))
  have fpS := I.fpOk (H' := H) (b := tp + 2) (by omega) (hH0 _ (by omega))
  rw [← htp] at hIt3 hT3 hS3 ⊢
  have I3 : Inv X pins σ H { s with heap := h3 } := I.kept (t' := s.toks) kp3
  clear hIt hT hT2 kp2 hH0 htp
  have W := (Walks.tuple (prog := X.prog) (w := X.w) (A := X.A.in1) hr.hd (tp + 1) tp (Nat.ne_of_lt (Nat.lt_succ_self _)) #[Value.ref a, Value.ref b]).toS
  have stays : ∀ {s1 s2 : Shared} {Q' : VK} {u : Value}, Inv X pins σ H s1 → CE X.stack X.prog X.w H s1 Q' u s2 → ∀ c o, FpOk X pins H c → s1.heap.get? c = some o → s2.heap.get? c = some o := fun {s1 s2 Q' u} J hq c o fc e => by
    obtain ⟨_, _, _, _, un, _⟩ := hq
    refine un.keep c o e fc.1 (fun hm => ?_) (by simp)
    rcases List.mem_cons.mp (J.stkSub c hm) with z | z
    · exact fc.2.1 z
    · exact fc.2.2.1 z
  have KR : KeyRun X.prog X.w X.A.in1 (.ref f) .Lt (tp + 2) [tp + 1] (fun a b => b = a) 2 (fun i v => (#[Value.ref a, Value.ref b])[i]? = some v) (fun i s => s.heap.IsTupleIter (tp + 1) tp i ∧ s.heap.IsTuple tp #[Value.ref a, Value.ref b])
      (fun s => Inv X pins σ H s) (fun i v _ => ∃ t, v = Value.int (if i = 0 then c1 else c2) t) (fun i j => decide ((if i = 0 then c1 else c2) < (if j = 0 then c1 else c2))) := by
    refine ⟨fun s1 s2 J hm => ?_, fun _ _ _ _ h _ => h, fun i v s1 o Q' E' hi hP J hst hS hk => ?_, fun i j ki kj s1 Q' E' J h1 h2 hq => ?_⟩
    · obtain ⟨h', g', d', tk', os'⟩ := s2
      have eg : g' = s1.gens := hm.gens
      have ed : d' = s1.drawn := hm.drawn
      have eo : os' = s1.os := hm.os
      subst eg
      subst ed
      subst eo
      refine J.turnedL (t' := tk') (ch := [tp + 2, tp + 1]) (fun b o hb e => hm.heap b o hb e) fun b hb => ?_
      rcases List.mem_cons.mp hb with rfl | hb
      · exact fpS
      · rw [List.mem_singleton.mp hb]
        exact fpI
    · obtain ⟨x, cx, rfl, hsp, hcx⟩ : ∃ (x : Addr) (cx : Int), v = .ref x ∧ (∀ Q' : VK, Q' (.int cx) H → sp ([.ref x] ++ dvs) H Q' E0) ∧ (if i = 0 then c1 else c2) = cx := by
        match i, hi, hP with
        | 0, _, hP =>
          cases hP
          exact ⟨a, c1, rfl, h1, rfl⟩
        | 1, _, hP =>
          cases hP
          exact ⟨b, c2, rfl, h2, rfl⟩
      have hs := hsp (fun u _ => u = .int cx) rfl
      have r2 : Vals ([.ref x] ++ dvs) ([.ref x] ++ ds) := (show Vals [V.ref x] [Value.ref x] from .cons rfl .nil).append hd
      have hl : ([Value.ref x] ++ ds).length = ps.length := by rw [← r2.length]; exact Fn.len _ _ _ _ hs
      refine wpAny_call (codeAny_mono (Fn.run X.A.in1 X.stack s1 H ⟨[.ref x], []⟩ ([.ref x] ++ ds) ([.ref x] ++ dvs) (fun u H' => u = .int cx ∧ H' = H) E0 hr.in1 J.env0.in1 (hb s1 [.ref x] J.kIn hl) r2 (hsp _ ⟨rfl, rfl⟩)) fun r s2 hq => ?_)
      cases r with
      | error e => exact False.elim hq
      | ok fl =>
        cases fl with
        | ret u =>
          have hq : CE X.stack X.prog X.w H s1 (fun u H' => u = .int cx ∧ H' = H) u s2 := hq
          obtain ⟨vu, H', J2, ru, rfl, rfl⟩ := J.after hq
          obtain ⟨tu, rfl⟩ := (show ∃ t, u = Value.int cx t from ru)
          refine hk _ s2 J2 ⟨hst.1.at fun o e => stays J hq _ o fpI e, hst.2.at fun o e => stays J hq _ o fpT e⟩ (stays J hq _ o fpS hS) ⟨tu, by rw [hcx]⟩ fun _ _ h => h
        | next => exact False.elim hq
        | brk => exact False.elim hq
        | cont => exact False.elim hq
    · obtain ⟨t1, rfl⟩ := h1
      obtain ⟨t2, rfl⟩ := h2
      exact (show wpAny _ _ (compareOp .Lt (.int _ t1) (.int _ t2)) _ _ _ from PyProof.Rows.lt_int hq)
  refine wpAny_pure ⟨plainId_quiet F.plain_min_loop _, codeAny_min_loop_firstK W (tp + 2) (by simp) KR _ (show 0 < 2 by decide) I3 ⟨hIt3, hT3⟩ hS3 fun v s' hP J => ?_⟩
  have hv : v = .ref (if c2 < c1 then b else a) := by
    by_cases hc : c2 < c1
    · rw [if_pos hc]
      have e : argBest (fun i j => decide ((if i = 0 then c1 else c2) < (if j = 0 then c1 else c2))) ((#[Value.ref a, Value.ref b] : Array Value).size - 1) = 1 := by simp [argBest, hc]
      rw [e] at hP
      cases hP
      rfl
    · rw [if_neg hc]
      have e : argBest (fun i j => decide ((if i = 0 then c1 else c2) < (if j = 0 then c1 else c2))) ((#[Value.ref a, Value.ref b] : Array Value).size - 1) = 0 := by simp [argBest, hc]
      rw [e] at hP
      cases hP
      rfl
  rw [hv]
  exact ⟨.ref (if c2 < c1 then b else a), H, J, rfl, q⟩
end Z
/-! enumerate(xs, 1) of a list -/
namespace PySem
open AutoSeq1 (wpAny_loadPart')
theorem typeCall_enum2 (a b : Value) : checkTypeCall "enumerate" ⟨[a, b], []⟩ = pure () := by kernel_rfl
theorem newCall_enum2 (a b : Value) : checkBuiltinCall "enumerate.__new__" ⟨[.type "enumerate", a, b], []⟩ = pure () := by kernel_rfl
theorem args_object_init_3 (a b c : Value) : argsOk "object.__init__" ⟨[a, b, c], []⟩ := by
  unfold argsOk; rw [signature?_of (id := "object.__init__") (n := ['_', '_', 't', 'i', 'n', 'i', '_', '_']) (o := ['t', 'c', 'e', 'j', 'b', 'o']) (by kernel_rfl) PySem.F.owner_object]; kernel_rfl
theorem oneEnumNew (l : Addr) (its : Array Value) (n : Nat) (dd : Option Addr) (sl : Array (Option Value)) (t1 : Tok) :
    Meets (Builtin.«enumerate.__new__» ⟨[.type "enumerate", .ref l, .int 1 t1], []⟩) (fun _ R s => s.heap.get? l = some { cls := .type "list", dict := dd, data := .seq its n, slots := sl } ∧
      R (.ok (.ret (.ref (s.heap.push { cls := .type "list_iterator", data := .fields #[.ref l, .int 0 0] }).objs.size)))
        { s with heap := (s.heap.push { cls := .type "list_iterator", data := .fields #[.ref l, .int 0 0] }).push { cls := .type "enumerate", data := .fields #[.none, .bool false, .ref s.heap.objs.size, rawInt 1, .none, .none] } }) :=
  .of_wp fun prog w A R s q => by
    obtain ⟨hp, g, d, tk, os⟩ := s
    obtain ⟨hl, hR⟩ := q
    have hsub := sub_enumerate
    have hT : Heap.IsList (Shared.heap ⟨hp, g, d, tk, os⟩) l its := ⟨_, hl, rfl, n, rfl⟩
    wp_walk using wpAny_loadPart' hl
    refine wpAny_stack_any fun st => wpAny_pure ?_
    split
    · rename_i c _ _ _ _ _
      cases (c == Value.type "enumerate") <;> (wp_walk using wpAny_loadPart' hl, wpAny_pyIter_list hT; exact ⟨_, rfl, hR⟩)
    · wp_walk using wpAny_loadPart' hl, wpAny_pyIter_list hT
      exact ⟨_, rfl, hR⟩
end PySem
namespace PySem
theorem oneEnumCall {prog : Program} {w : World} {A : Around} {E : Value → Shared → Prop} {s : Shared} {l : Addr} {its : Array Value} {t1 : Tok} {Q : Value → Shared → Prop} (hL : s.heap.IsList l its)
    (k : ∀ h', IsEnum h' (s.heap.objs.size + 1) s.heap.objs.size 1 .none → h'.IsListIter s.heap.objs.size l 0 → h'.IsList l its → (∀ b o, s.heap.get? b = some o → h'.get? b = some o) →
      Q (.ref (s.heap.objs.size + 1)) { s with heap := h' }) : wpAny (model prog w) A (call (.type "enumerate") [.ref l, .int 1 t1]) Q E s := by
  have hL0 := hL
  obtain ⟨⟨c, dd, dt, sl⟩, hl, hc, n, hd⟩ := hL
  obtain rfl : c = .type "list" := hc
  obtain rfl : dt = .seq its n := hd
  refine callType_new F.called_enumerate (by decide) (typeCall_enum2 _ _) (newCall_enum2 _ _) (fun obj => args_object_init_3 obj _ _) F.entry_enumerate_new (oneEnumNew l its n dd sl t1) ⟨hl, ?_⟩
  have hz : (s.heap.push { cls := .type "list_iterator", data := .fields #[.ref l, .int 0 0] }).objs.size = s.heap.objs.size + 1 := Heap.size_push ..
  show _ ∧ _
  rw [hz]
  have he : IsEnum ((s.heap.push { cls := .type "list_iterator", data := .fields #[.ref l, .int 0 0] }).push { cls := .type "enumerate", data := .fields #[.none, .bool false, .ref s.heap.objs.size, rawInt 1, .none, .none] })
      (s.heap.objs.size + 1) s.heap.objs.size 1 .none := hz ▸ Heap.get?_push_size _ rfl
  exact ⟨⟨_, he, rfl⟩, k _ he ⟨_, Heap.get?_push_of_some _ (Heap.get?_push_size _ rfl), rfl, rfl⟩ ((hL0.push _).push _) fun b o x => Heap.get?_push_of_some _ (Heap.get?_push_of_some _ x)⟩
/-- a list's iterator, told one number higher -/
theorem Draws.later {prog : Program} {w : World} {A : Around} (hh : A.handled = none) (it l : Addr) (hne : l ≠ it) (items : Array Value) :
    Draws prog w A it [it, l] (items.size + 1) (fun i v => ∃ j, i = j + 1 ∧ items[j]? = some v) (fun i h => ∃ j, i = j + 1 ∧ h.IsListIter it l j ∧ h.IsList l items) where
  live := fun _ _ ⟨_, _, st, _⟩ => let ⟨o, ho, _⟩ := st; ⟨o, ho⟩
  frame := fun _ _ _ ⟨j, e, st⟩ hk => ⟨j, e, st.1.at fun o e => hk it (by simp) o e, st.2.at fun o e => hk l (by simp) o e⟩
  item := fun i s Q E hi ⟨j, e, st⟩ hQ => by
    subst e
    refine (Draws.list (prog := prog) (w := w) hh it l hne items).item j s Q E (by omega) st fun x h' tk hP hst hs => hQ x h' tk ⟨j, rfl, hP⟩ ⟨j + 1, rfl, hst⟩ hs
  done := fun s Q E ⟨j, e, st⟩ hE => by
    obtain rfl : j = items.size := by omega
    exact (Draws.list (prog := prog) (w := w) hh it l hne items).done s Q E st hE
end PySem
namespace Z
open PySem PySem.Spec PyProof.Rows L2
def Ite1 (K : PySem.W.Frag) (a : Addr) : It :=
  ⟨fun i H => ∃ (xs : List V) (x : V), SqL K H a xs ∧ xs[i]? = some x, fun i H v H' => ∃ T x, v = .ref T ∧ H T = none ∧ H' = upd H T (.tup [.int ((i + 1 : Nat) : Int), x]) ∧ ∀ xs, SqL K H a xs → xs[i]? = some x,
    fun i H => ∃ xs : List V, SqL K H a xs ∧ xs.length ≤ i⟩
theorem lst_ne {h : Heap} {a b : Addr} {its : Array Value} {o : Obj} {n : String} (p : h.IsList a its) (ho : h.get? b = some o) (hc : o.cls = .type n) (hn : n ≠ "list") : a ≠ b := fun z => by
  obtain ⟨o', e, c, _⟩ := p
  rw [z, ho] at e
  cases e
  have c : o.cls = .type "list" := c
  rw [hc] at c
  exact hn (by injection c)
theorem turn_enum1 {P : Program} {w : World} {K : PySem.W.Frag} {elts : List Expr} {kk : Nat} {tpos : Pos} (a e it : Addr) :
    Turn P w K (.Tuple elts kk tpos) (Ite1 K a) [e, it] e (fun i h => (∃ old, IsEnum h e it ((i + 1 : Nat) : Int) old) ∧ h.IsListIter it a i ∧ e ≠ it) where
  mem := List.mem_cons_self
  obj := fun i h st b hb => by
    obtain ⟨⟨old, he⟩, ⟨o, ho, hc, hd⟩, _⟩ := st
    rcases (show b = e ∨ b = it by simpa using hb) with z | z
    · exact z ▸ ⟨_, he, fun v q => nomatch q⟩
    · exact z ▸ ⟨o, ho, fun v q => by rw [hd] at q; cases q⟩
  keep := fun i h h' st k => let ⟨⟨old, he⟩, hi, hne⟩ := st; ⟨⟨old, k e List.mem_cons_self _ he⟩, hi.at fun o q => k it (by simp) o q, hne⟩
  item := by
    intro X hP hw hK hc i pins s σ H E I hf st hg
    cases hP; cases hw; cases hK
    obtain ⟨⟨old, he⟩, hit, hne⟩ := st
    obtain ⟨xs, x, hq, hx⟩ := hg
    obtain ⟨its, rv, p, hz⟩ := I.list hq
    obtain ⟨u, hu, ru⟩ := rv.get hx
    obtain ⟨oi, hoi, hci, _⟩ := id hit
    have pl : s.heap.IsList a its.toArray := p.isList
    have nai : a ≠ it := lst_ne pl hoi hci (by decide)
    have nae : a ≠ e := lst_ne pl he rfl (by decide)
    have hel := Heap.lt_size he
    have hil := Heap.lt_size hoi
    have hlt : i < its.length := (List.getElem?_eq_some_iff.mp hu).1
    refine wpAny_pyNext_enum_itemD (Draws.later (A := X.A.in1) (I.ok.hd hc) it a nai its.toArray) he ⟨i, rfl, hit, pl⟩ (by simpa using hlt) hne (by simp [hne, nae.symm]) fun v h' tk hv ho hst hT hsz hk => ?_
    obtain ⟨j, hj, hv⟩ := hv
    obtain rfl : j = i := by omega
    obtain rfl : u = v := by
      have hv' : its[j]? = some v := by simpa using hv
      rw [hu] at hv'
      exact Option.some.inj hv'
    refine ⟨_, rfl, wpAny_letOwnedTupleGo_enum (s := { s with heap := h', toks := tk + 1 }) ho fun h'' he' sb => ?_⟩
    have hT2 := (sb.2 _ (Nat.ne_of_gt hel)).trans hT
    have new : ObjOk X.prog X.w (upd H s.heap.objs.size (.tup [.int ((j + 1 : Nat) : Int), x])) h'' s.heap.objs.size (.tup [.int ((j + 1 : Nat) : Int), x]) :=
      ⟨by show 2 ≤ sizeLine; decide, [.int ((j + 1 : Nat) : Int) tk, u], .cons ⟨_, rfl⟩ (.cons ru .nil), ⟨_, hT2, rfl, _, rfl⟩⟩
    have I1 := I.turnedNew (t' := tk + 1) (ch := [e, it]) (fun b ob hb q => (sb.2 b (fun z => hb (by simp [z]))).trans (hk b ob (fun z => hb (by simp [z])) (fun z => hb (by simp [z])) q)) hf (Nat.le_refl _) new
    obtain ⟨j2, hj2, hst2, _⟩ := hst
    obtain rfl : j2 = j + 1 := by omega
    refine ⟨.ref s.heap.objs.size, _, I1, rfl, ⟨_, x, rfl, I.hok.fresh (Nat.le_refl _), rfl, fun ys hy => by rw [I.list_inj hy hq]; exact hx⟩, ⟨⟨u, ?_⟩, hst2.at fun o q => (sb.2 it (Ne.symm hne)).trans q, hne⟩, fun b hb => ?_⟩
    · rw [show ((j + 1 + 1 : Nat) : Int) = ((j + 1 : Nat) : Int) + 1 by omega]
      exact he'
    · have hb' : b < s.heap.objs.size := by
        rcases (show b = e ∨ b = it by simpa using hb) with z | z
        · exact z ▸ hel
        · exact z ▸ hil
      rw [upd_ne (Nat.ne_of_lt hb')]
      exact (hf b hb).1
  done := by
    intro X hP hw hK hc i pins s σ H E I hf st hg
    cases hP; cases hw; cases hK
    obtain ⟨⟨old, he⟩, hit, hne⟩ := st
    obtain ⟨xs, hq, hx⟩ := hg
    obtain ⟨its, rv, p, hz⟩ := I.list hq
    obtain ⟨oi, hoi, hci, hdi⟩ := id hit
    obtain ⟨f0, f1, f2, f3, f4, f5⟩ := hf it (by simp)
    have hl := rv.length
    have nai : a ≠ it := lst_ne p.isList hoi hci (by decide)
    have ty : s.TypeIs (.ref e) "enumerate" := ⟨_, he, rfl⟩
    unfold pyNext
    refine wpAny_bind (wpAny_attempt (wpAny_callSpecial?_slot (name := Str.ofString "__next__") ty F.slot_enumerate_next (wpAny_call_entry F.slot_enumerate_next ty F.entry_enumerate_next ?_ (F.args_enumerate_next_1 _))))
    show wpAny _ _ (field (.ref e) 2 >>= _) _ _ _
    refine wpAny_bind (wpAny_field he rfl (x := .ref it) rfl (wpAny_bind (wpAny_nextOf_list_end (I.ok.hd hc) hit p.isList (by simp; omega) fun h' x he' ⟨o, ho, hc⟩ => ?_)))
    exact wpAny_bind (wpAny_isInstance (T := "StopIteration") (b := true) ⟨o, ho, hc⟩ isSubtype_stop (wpAny_pure ⟨rfl, I.turned (t' := s.toks) (fun b o hb q => he' b o hb q) f0 f1 f3 f4 f5⟩))
  self := fun A i s Q E st h => let ⟨⟨_, he⟩, _⟩ := st; wpAny_pyIter_enum he h
def iEnum1 (K : PySem.W.Frag) (ta : TA) : TI := fun σ H R => ta σ H fun vs H1 => ∃ a xs, vs = [.ref a, .int 1] ∧ SqL K H1 a xs ∧ R (Ite1 K a) H1
theorem pi_enum1 {X : Cx} {e1 e2 : Expr} {ta : TA} {p pos tpos : Pos} {elts : List Expr} {kk : Nat} (hg : Gl X "enumerate") (hm : X.mg "enumerate" = none) (ha : PA X [e1, e2] ta)
    (hs : starEach [e1, e2] X.env = (false, eval e1 X.env) :: starEach [e2] X.env := by rfl) (hpl : (backTo pos (starEach [e2] X.env)).any (·.1) = false := by rfl) :
    PI X (.Tuple elts kk tpos) (.Call (.Name "enumerate" p) [e1, e2] [] pos) (iEnum1 X.K ta) := by
  refine ⟨fun pins s σ H R I h => Call_ (ld_blt I hg hm boot_enumerate (PyProof.Rows.callWith_type1 (thn (ha.run pos pins s σ H _ I h) fun us s1 ⟨vs, H1, I1, r1, a, xs, ex, hq, q⟩ => ?_) hs hpl))⟩
  subst ex
  obtain ⟨u1, u2, rfl, ra, rb⟩ := vals2 r1
  obtain rfl : u1 = Value.ref a := ra
  obtain ⟨t1, rfl⟩ := (show ∃ t, u2 = Value.int 1 t from rb)
  have fp : ∀ b ∈ [s1.heap.objs.size + 1, s1.heap.objs.size], FpOk X pins H1 b := fun b hb => by
    have hle : s1.heap.objs.size ≤ b := by
      rcases (show b = s1.heap.objs.size + 1 ∨ b = s1.heap.objs.size by simpa using hb) with z | z
      · exact z ▸ Nat.le_add_right _ _
      · exact z ▸ Nat.le_refl _
    exact I1.fpOk hle (I1.hok.fresh hle)
  obtain ⟨its, rv, p', hz⟩ := I1.list hq
  refine oneEnumCall p'.isList fun h' he hit hl hk => wpAny_pyIter_enum he ?_
  exact ⟨s1.heap.objs.size + 1, _, _, _, H1, rfl, I1.kept (t' := s1.toks) hk, turn_enum1 a (s1.heap.objs.size + 1) s1.heap.objs.size, ⟨⟨.none, he⟩, hit, Nat.succ_ne_self _⟩, fp, q⟩
theorem walk_enum1 {K : PySem.W.Frag} {a : Addr} {xs : List V} : Walk (Ite1 K a) xs.length (fun H => SqL K H a xs) (YPair (fun i => some (.int ((i + 1 : Nat) : Int))) (fun i => xs[i]?)) :=
  ⟨fun i H hi g => ⟨xs, xs[i], g, by simp [hi]⟩, fun H g => ⟨xs, g, Nat.le_refl _⟩, fun i H x H' hi g y => by
    obtain ⟨T, z, e1, e2, e3, e4⟩ := y
    exact ⟨T, _, z, e1, e2, e3, rfl, e4 xs g⟩⟩
end Z

/-! enumerate(xs, 1) in a loop; dict comprehensions; a dict for good that is locked for a comprehension over its keys -/
namespace Z
open PySem PySem.Spec PyProof.Rows L2
section
variable {K : PySem.W.Frag} {σ : L2.St} {H G : Hp} {W : Wl} {g : TG} {tb : TS} {nx : L2.St → Hp → Prop} {rt : VK} {Q : VK} {a b : Addr} {xs ys : List V} {n : Nat} {vs : List Nat} {tt : TT} {te : TE}
theorem st_iEnum1 {ta : TA} {R : It → Hp → Prop} (h : ta σ H fun vs H1 => ∃ a xs, vs = [.ref a, .int 1] ∧ SqL K H1 a xs ∧ R (Ite1 K a) H1) : iEnum1 K ta σ H R := h
/-- for i, x in enumerate(a list, 1) -/
theorem for_enum1 (hx : SqL K G a xs) {i1 i2 : Nat} (I : Nat → L2.St → Hp → Wl → Prop) (w : Wd G W H) (h0 : I 0 σ G W)
    (hs : ∀ (i : Nat) x σ' G' G'' W' H', xs[i]? = some x → Same G G' → I i σ' G' W' → Same G' G'' → Wd G'' W' H' → tb ⟨Btw I G (i + 1), rt, nx, Btw I G (i + 1)⟩ ((σ'.set i1 (some (.int ((i + 1 : Nat) : Int)))).set i2 (some x)) H')
    (hd : ∀ σ' G' W' H', Same G G' → Wd G' W' H' → I xs.length σ' G' W' → nx σ' H') :
    ∃ a' ys, [V.ref a, .int 1] = [.ref a', .int 1] ∧ SqL K H a' ys ∧ LoopQ (Ite1 K a') (gTup K 2 (gCons (gName i1) (gCons (gName i2) gNil))) tb nx rt σ H :=
  ⟨a, xs, rfl, seq_up w hx, loop_go walk_enum1 I w (fun _ _ _ e w' => seq_up w' (e.seq hx)) h0 (fun i x σ' G' W' H' H'' _ e w' h y => by
    obtain ⟨T, x1, x2, rfl, hn, rfl, e1, e2⟩ := y
    cases e1
    refine ⟨T, _, rfl, SqT.of upd_same, rfl, _, _, rfl, ?_⟩
    refine ⟨_, _, rfl, ?_⟩
    exact ⟨rfl, hs i x2 σ' G' _ W' _ e2 e h (same_upd (w'.free hn)) (w'.new hn)⟩) hd⟩
theorem st_lstRg {te : L2.St → Hp → (Int → Int → Hp → Prop) → Prop} (h : te σ H fun a b H1 => RgOk a b ∧ NewO (.lst (rgV a b)) H1 Q) : tLstRg te σ H Q := h
theorem st_orT {ta tb : TE} (h : ta σ H fun x H1 => ∃ k, TruV K x H1 k ∧ if k = true then Q x H1 else tb σ H1 Q) : tOrT K ta tb σ H Q := h
theorem st_rg2 {ta tb : TE} {R : Int → Int → Hp → Prop} (h : ta σ H fun x H1 => tb σ H1 fun y H2 => ∃ i j, x = .int i ∧ y = .int j ∧ R i j H2) : tRg2 ta tb σ H R := h
theorem st_min2K {f : Addr} {sp : Sp} {dvs : List V} {c1 c2 : Int} (h1 : ∀ Q' : VK, Q' (.int c1) H → sp ([.ref a] ++ dvs) H Q' E0) (h2 : ∀ Q' : VK, Q' (.int c2) H → sp ([.ref b] ++ dvs) H Q' E0) (q : Q (.ref (if c2 < c1 then b else a)) H) :
    rMinK2 f sp dvs [.ref a, .ref b] [.ref f] H Q := ⟨a, b, c1, c2, rfl, rfl, h1, h2, q⟩
/-! ### a dict for good, locked -/
theorem st_lockG {t : TS} {D : Ends} {d : Addr} {kvs : List (Key × V)} (w : Wd G W H) (hd : G d = some (.dK kvs))
    (h : ∀ od H', Wd (del G d) ((d, Is (.frz od (.dK kvs))) :: W) H' → t ⟨fun σ' H' => H' d = some (.frz od (.dK kvs)) ∧ D.nx σ' (upd H' d (.dK kvs)), fun v H' => H' d = some (.frz od (.dK kvs)) ∧ D.rt v (upd H' d (.dK kvs)),
      fun σ' H' => H' d = some (.frz od (.dK kvs)) ∧ D.bk σ' (upd H' d (.dK kvs)), fun σ' H' => H' d = some (.frz od (.dK kvs)) ∧ D.ct σ' (upd H' d (.dK kvs))⟩ σ H') : tLock t D σ H :=
  have w1 := w.thaw hd
  ⟨d, _, Wd.is1 w1, trivial, fun od => h od _ (Wd.put1 w1)⟩
theorem Wd.unlockG {G2 : Hp} {d : Addr} {u : HO} {od : Obj} (hd : G d = some u) (e : Same (del G d) G2) (w : Wd G2 ((d, Is (.frz od u)) :: W) H) :
    H d = some (.frz od u) ∧ ∃ G3, Same G G3 ∧ Same G2 G3 ∧ G3 d = some u ∧ Wd G3 W (upd H d u) := by
  have w2 := (Wd.unlock w).2
  obtain ⟨o, h1, h2, e2, w3⟩ := w2.freeze1
  obtain rfl := h1
  refine ⟨Wd.is1 w, _, fun b o hb => ?_, e2, upd_same, w3⟩
  by_cases hbd : b = d
  · subst hbd
    rw [upd_same, ← hd, hb]
  · exact e2 _ _ (e _ _ (del_at hb hbd))
theorem del_rd {d : Addr} {o : HO} {kvs : List (Key × V)} (hd : G d = some (.dK kvs)) (h : Rd G a o) (hn : ∀ kvs, o ≠ .dK kvs) : Rd (del G d) a o := by
  have hne : a ≠ d := by
    rintro rfl
    rcases h with h | ⟨od, h⟩
    · rw [hd] at h
      cases h
      exact hn _ rfl
    · rw [hd] at h
      cases h
  exact h.imp (fun h => del_at h hne) fun ⟨od, h⟩ => ⟨od, del_at h hne⟩
theorem del_seq {d : Addr} {kvs : List (Key × V)} (hd : G d = some (.dK kvs)) (h : SqL K G a xs) : SqL K (del G d) a xs := h.imp (fun h => del_rd hd h fun _ e => nomatch e) id
/-! ### a comprehension over the keys of a locked dict -/
theorem lc_keys {kvs : List (Key × V)} {d : Addr} {od : Obj} {j : Nat} (I : Nat → List V → Hp → Prop) (w : Wd G W H) (hm : (d, Is (.frz od (.dK kvs))) ∈ W) (h0 : I 0 [] G) (hw : ∀ x, wipe ((wipe σ vs).set j x) vs = wipe σ vs)
    (hs : ∀ (i : Nat) k v D G' H' acc, kvs[i]? = some (k, v) → Same G G' → Wd G' ((D, Is (.lst acc)) :: W) H' → I i acc G' → tt ((wipe σ vs).set j (some (kV k))) H' fun b H3 =>
      if b = true then te ((wipe σ vs).set j (some (kV k))) H3 fun y H4 => ∃ acc, H4 D = some (.lst acc) ∧ acc.length < sizeLine ∧ LcB I G W D (i + 1) (upd H4 D (.lst (acc ++ [y]))) else LcB I G W D (i + 1) H3)
    (hd : ∀ D G' H' acc, Same G G' → Wd G' ((D, Is (.lst acc)) :: W) H' → I kvs.length acc G' → Q (.ref D) H') :
    ∃ d' o, V.ref d = .ref d' ∧ ((∃ kvs, H d' = some (.frz o (.dK kvs)) ∧ LcQ (Itk d' o kvs) (gName j) tt te vs σ H Q) ∨ ∃ kvs, H d' = some (.frz o (.dT kvs)) ∧ LcQ (Itkt d' o kvs) (gName j) tt te vs σ H Q) := by
  have hat : ∀ {W' G' H'}, (d, Is (.frz od (.dK kvs))) ∈ W' → Wd G' W' H' → H' d = some (.frz od (.dK kvs)) := fun hm w' => by
    obtain ⟨o, ho, rfl⟩ := w'.get hm
    exact ho
  refine ⟨d, od, rfl, .inl ⟨kvs, hat hm w, fun D hD => lc_it walk_keys (LcB I G W D) ⟨G, [], Same.refl _, w.newM hD rfl, h0⟩ (fun _ _ _ ⟨_, _, e, w', _⟩ => hat (List.mem_cons_of_mem _ hm) w') (fun i x H' H'' hi ⟨G', acc, e, w', h⟩ y => ?_) fun H' ⟨G', acc, e, w', h⟩ => hd D G' H' acc e w' h⟩⟩
  obtain ⟨rfl, k, v, h1, rfl⟩ := y
  exact ⟨hw _, hs i k v D G' H'' acc h1 e w' h⟩
/-! ### dict comprehensions -/
def DcQ (J : It) (g : TG) (tt : TT) (tk tv : TE) (vs : List Nat) (σ : L2.St) (H1 : Hp) (Q : VK) : Prop := ∀ D, H1 D = none → ∃ W : Nat → Nat → Hp → Prop, (∃ m, W 0 m (upd H1 D (.dK []))) ∧ ∀ i m H, W i m H →
  (J.stop i H ∧ Q (.ref D) H) ∨ (J.go i H ∧ ∃ Nx : Hp → Prop, (∀ H', Nx H' → ∃ m', m' < m ∧ W (i + 1) m' H') ∧ ∀ x H', J.yld i H x H' → g x (wipe σ vs) H' fun σ2 H2 => wipe σ2 vs = wipe σ vs ∧ tt σ2 H2 fun b H3 =>
    if b = true then tk σ2 H3 fun y H4 => tv σ2 H4 fun z H5 => ∃ kvs k, y = kV k ∧ H5 D = some (.dK kvs) ∧ kvs.length < sizeLine ∧ Nx (upd H5 D (.dK (putK kvs k z))) else Nx H3)
theorem st_dc {wi : TI} {tk tv : TE} (h : wi σ H fun J H1 => DcQ J g tt tk tv vs σ H1 Q) : tDc wi g tt tk tv vs σ H Q := h
def DcB (I : Nat → List (Key × V) → Hp → Prop) (G : Hp) (W : Wl) (D : Addr) (i : Nat) : Hp → Prop := fun H => ∃ G' kvs, Same G G' ∧ Wd G' ((D, Is (.dK kvs)) :: W) H ∧ I i kvs G'
theorem dc_go {J : It} {Gp : Hp → Prop} {Y : Nat → Hp → V → Hp → Prop} {tk tv : TE} (wk : Walk J n Gp Y) (I : Nat → List (Key × V) → Hp → Prop) (w : Wd G W H) (hG : ∀ G' W' H', Same G G' → Wd G' W' H' → Gp H') (h0 : I 0 [] G)
    (hs : ∀ i x D G' H' H'' kvs, i < n → Same G G' → Wd G' ((D, Is (.dK kvs)) :: W) H' → I i kvs G' → Y i H' x H'' → g x (wipe σ vs) H'' fun σ2 H2 => wipe σ2 vs = wipe σ vs ∧ tt σ2 H2 fun b H3 =>
      if b = true then tk σ2 H3 fun y H4 => tv σ2 H4 fun z H5 => ∃ kvs k, y = kV k ∧ H5 D = some (.dK kvs) ∧ kvs.length < sizeLine ∧ DcB I G W D (i + 1) (upd H5 D (.dK (putK kvs k z))) else DcB I G W D (i + 1) H3)
    (hd : ∀ D G' H' kvs, Same G G' → Wd G' ((D, Is (.dK kvs)) :: W) H' → I n kvs G' → Q (.ref D) H') : DcQ J g tt tk tv vs σ H Q := fun D hD => by
  refine ⟨fun i m H => m = n - i ∧ i ≤ n ∧ DcB I G W D i H, ⟨n, by simp, Nat.zero_le _, ⟨G, [], Same.refl _, w.newM hD rfl, h0⟩⟩, ?_⟩
  rintro i m H ⟨rfl, hi, p⟩
  obtain ⟨G', kvs, e, w', h⟩ := id p
  have q : Gp H := hG _ _ _ e w'
  by_cases hlt : i < n
  · refine .inr ⟨wk.goes i H hlt q, DcB I G W D (i + 1), fun H' p' => ⟨n - (i + 1), by omega, rfl, hlt, p'⟩, fun x H' y => hs i x D G' H H' kvs hlt e w' h (wk.yields i H x H' hlt q y)⟩
  · have ei : i = n := by omega
    subst ei
    exact .inl ⟨wk.stops H q, hd D G' H kvs e w' h⟩
theorem dc_put {I : Nat → List (Key × V) → Hp → Prop} {G' : Hp} {i : Nat} {kvs : List (Key × V)} {k : Key} {y z : V} {D : Addr} (w : Wd G' ((D, Is (.dK kvs)) :: W) H) (e : Same G G') (hk : y = kV k) (hl : kvs.length < 1000000) (h : I i (putK kvs k z) G') :
    ∃ kvs k, y = kV k ∧ H D = some (.dK kvs) ∧ kvs.length < sizeLine ∧ DcB I G W D i (upd H D (.dK (putK kvs k z))) := by
  obtain ⟨o, ho, rfl⟩ := w.get List.mem_cons_self
  exact ⟨kvs, k, hk, ho, small' (Nat.le_of_lt hl), G', putK kvs k z, e, Wd.put (W1 := []) w rfl, h⟩
/-- {.. for i in range(lo, z)}, the variable at slot j -/
theorem dc_r2 {lo z : Int} {j : Nat} {tk tv : TE} (hz : -(2 ^ 62) ≤ lo ∧ lo < 2 ^ 62 ∧ -(2 ^ 62) ≤ z ∧ z < 2 ^ 62) (I : Nat → List (Key × V) → Hp → Prop) (w : Wd G W H) (h0 : I 0 [] G) (hw : ∀ x, wipe ((wipe σ vs).set j x) vs = wipe σ vs)
    (hs : ∀ (i : Nat) D G' H' kvs, lo + (i : Int) < z → Same G G' → Wd G' ((D, Is (.dK kvs)) :: W) H' → I i kvs G' → tt ((wipe σ vs).set j (some (.int (lo + (i : Int))))) H' fun b H3 =>
      if b = true then tk ((wipe σ vs).set j (some (.int (lo + (i : Int))))) H3 fun y H4 => tv ((wipe σ vs).set j (some (.int (lo + (i : Int))))) H4 fun u H5 => ∃ kvs k, y = kV k ∧ H5 D = some (.dK kvs) ∧ kvs.length < sizeLine ∧ DcB I G W D (i + 1) (upd H5 D (.dK (putK kvs k u))) else DcB I G W D (i + 1) H3)
    (hd : ∀ D G' H' kvs, Same G G' → Wd G' ((D, Is (.dK kvs)) :: W) H' → I (z - lo).toNat kvs G' → Q (.ref D) H') :
    ∃ i j' : Int, [V.int lo, V.int z] = [.int i, .int j'] ∧ (-(2 ^ 62) ≤ i ∧ i < 2 ^ 62 ∧ -(2 ^ 62) ≤ j' ∧ j' < 2 ^ 62) ∧ DcQ (Itr i (j' - i).toNat) (gName j) tt tk tv vs σ H Q :=
  ⟨lo, z, rfl, hz, dc_go walk_range I w (fun _ _ _ _ _ => trivial) h0 (fun i x D G' H' H'' kvs hi e w' h y => by
    obtain ⟨rfl, rfl⟩ := y
    exact ⟨hw _, hs i D G' H'' kvs (by omega) e w' h⟩) hd⟩
/-- {.. for x in a list} -/
theorem dc_l {j : Nat} {tk tv : TE} (hx : SqL K G a xs) (I : Nat → List (Key × V) → Hp → Prop) (w : Wd G W H) (h0 : I 0 [] G) (hw : ∀ x, wipe ((wipe σ vs).set j x) vs = wipe σ vs)
    (hs : ∀ (i : Nat) x D G' H' kvs, xs[i]? = some x → Same G G' → Wd G' ((D, Is (.dK kvs)) :: W) H' → I i kvs G' → tt ((wipe σ vs).set j (some x)) H' fun b H3 =>
      if b = true then tk ((wipe σ vs).set j (some x)) H3 fun y H4 => tv ((wipe σ vs).set j (some x)) H4 fun u H5 => ∃ kvs k, y = kV k ∧ H5 D = some (.dK kvs) ∧ kvs.length < sizeLine ∧ DcB I G W D (i + 1) (upd H5 D (.dK (putK kvs k u))) else DcB I G W D (i + 1) H3)
    (hd : ∀ D G' H' kvs, Same G G' → Wd G' ((D, Is (.dK kvs)) :: W) H' → I xs.length kvs G' → Q (.ref D) H') : ∃ a', V.ref a = .ref a' ∧ (∃ xs, SqL K H a' xs) ∧ DcQ (Itl K a') (gName j) tt tk tv vs σ H Q :=
  ⟨a, rfl, ⟨xs, seq_up w hx⟩, dc_go walk_list I w (fun _ _ _ e w' => seq_up w' (e.seq hx)) h0 (fun i x D G' H' H'' kvs _ e w' h y => by
    obtain ⟨rfl, y⟩ := y
    exact ⟨hw _, hs i x D G' H'' kvs y e w' h⟩) hd⟩
/-- keys put one after another: a row behind -/
theorem putK_new {v : V} {k : Key} {kvs : List (Key × V)} (h : ∀ p ∈ kvs, p.1 ≠ k) : putK kvs k v = kvs ++ [(k, v)] := by
  unfold putK
  rw [if_neg]
  intro he
  obtain ⟨p, hp, e⟩ := List.any_eq_true.mp he
  exact h p hp (of_decide_eq_true e)
end
end Z

local macro_rules | `(tactic| walk_at "cond") => `(tactic| first
  | (show (0 : Int) < _; first | decide | omega) | (show (0 : Int) ≤ _; first | decide | omega) | ((refine (show L2.CDiv _ _ from ⟨?_, ?_⟩)) <;> omega) | ((refine (show L2.CMul _ _ from Or.inl ⟨?_, ?_⟩)) <;> omega) | ((refine (show L2.CMul _ _ from Or.inr ⟨?_, ?_⟩)) <;> omega)
  | (refine (show Z.CPowW _ _ from ⟨?_, ?_⟩) <;> decide) | (refine (show L2.CPow _ _ from ⟨?_, ?_, ?_⟩); omega; omega; decide))
local macro_rules | `(tactic| walk_at "z") => `(tactic| first
  | with_reducible refine Z.st_seq ?_ | with_reducible refine Z.st_asg ?_ | with_reducible refine Z.st_if ?_ | with_reducible refine Z.st_ret ?_ | with_reducible refine Z.st_drop ?_ | with_reducible refine Z.st_next ?_ | with_reducible refine Z.st_retN ?_ | with_reducible refine Z.st_brk ?_ | with_reducible refine Z.st_cont ?_
  | with_reducible refine Z.st_gname ?_ | with_reducible refine Z.st_par ?_ | with_reducible refine Z.st_two ?_
  | ((with_reducible refine' Z.st_var ?hv ?hq); (case hv => exact rfl)) | with_reducible refine Z.st_c ?_ | with_reducible refine Z.st_op ?_ | with_reducible refine Z.st_un ?_ | with_reducible refine Z.st_i0 ?_ | with_reducible refine Z.st_u ?_
  | with_reducible refine Z.st_test ?_ | with_reducible refine Z.st_tB ?_ | with_reducible refine Z.st_bl ?_ | with_reducible refine Z.st_not ?_ | with_reducible refine Z.st_and ?_ | with_reducible refine Z.st_or ?_
  | with_reducible refine Z.st_andV ?_ | with_reducible refine Z.st_orV ?_ | with_reducible refine Z.st_notV ?_
  | with_reducible refine Z.st_nil ?_ | with_reducible refine Z.st_cons ?_ | with_reducible refine Z.st_cb ?_ | with_reducible refine Z.st_call ?_ | with_reducible refine Z.st_callN ?_
  | with_reducible refine Z.st_lst ?_ | with_reducible refine Z.st_tup ?_
  | ((with_reducible refine Z.st_eq ?_ ?_); exact rfl) | ((with_reducible refine Z.st_ne ?_ ?_); exact rfl)
  | with_reducible refine Z.st_for ?_ | with_reducible refine Z.st_iEnumA ?_ | with_reducible refine Z.st_iList ?_ | with_reducible refine Z.st_iTup ?_ | with_reducible refine Z.st_iR1 ?_ | with_reducible refine Z.st_iR2 ?_
  | ((with_reducible refine' Z.st_i ?hc ?hq); (case hc => walk_at "cond"))
  | with_reducible refine Z.st_gsub ?_ | with_reducible refine Z.st_bm ?_ | with_reducible refine Z.st_bm0 ?_
  | with_reducible refine Z.st_lc ?_ | with_reducible refine Z.st_yes ?_ | with_reducible refine Z.st_sl ?_ | with_reducible refine Z.st_chain ?_ | with_reducible refine Z.st_gcons ?_ | with_reducible refine Z.st_gnil ?_ | with_reducible refine Z.st_noPart ?_ | with_reducible refine Z.st_part ?_
  | with_reducible refine L2.iteT ?_ | with_reducible refine L2.iteF ?_ | with_reducible refine Z.iteNT ?_ | with_reducible refine Z.iteNF ?_)
local macro_rules | `(tactic| walk_at "zz") => `(tactic| repeat walk_at "z")
local macro_rules | `(tactic| walk_at "sm") => `(tactic| first | exact L2.Same.refl _ | assumption | (refine' L2.Same.trans ?ha ?hb; (case hb => assumption); (case ha => walk_at "sm")))
local macro_rules | `(tactic| walk_at "up") => `(tactic| first
  | assumption
  | (refine' Z.seq_up ?w ?h; (case w => assumption); (case h => walk_at "up")) | (refine' Z.tup_up ?w ?h; (case w => assumption); (case h => walk_at "up")) | (refine' Z.dUp ?w ?h; (case w => assumption); (case h => walk_at "up")) | (refine' Z.hUp ?w ?h; (case w => assumption); (case h => walk_at "up"))
  | (refine' L2.Same.seq ?e ?h; (case e => assumption); (case h => walk_at "up")) | (refine' Z.seqT ?e ?h; (case e => assumption); (case h => walk_at "up")) | (refine' Z.dmono ?e ?h; (case e => assumption); (case h => walk_at "up")) | (refine' Z.atUp ?e ?h; (case e => assumption); (case h => walk_at "up")))
local macro_rules | `(tactic| walk_at "zi") => `(tactic| with_reducible refine Z.st_ifE ?_)
local macro_rules | `(tactic| walk_at "nw") => `(tactic| first
  | refine ⟨by first | decide | exact Z.small (by simp), Z.NewO.good (by assumption) fun p G1 H1 e1 w1 h1 => ?_⟩
  | refine Z.st_catV (by walk_at "up") (by walk_at "up") (by first | decide | (simp; done) | (simp; omega)) (by assumption) fun p G1 H1 e1 w1 h1 => ?_)
local macro_rules | `(tactic| walk_at "zn") => `(tactic| repeat first
  | walk_at "z"
  | walk_at "nw")
local macro_rules | `(tactic| walk_at "dp") => `(tactic| first
  | exact L2.Dp.non
  | exact L2.Dp.bl _
  | exact L2.Dp.int _
  | exact L2.Dp.str _
  | assumption
  | (refine' L2.Dp.lst (L2.SqL.of ?h) ?t; (case h => walk_at "up"); (case t => walk_at "dps"))
  | (refine' L2.Dp.tup (L2.SqT.of ?h) ?t; (case h => walk_at "up"); (case t => walk_at "dps"))
  | walk_at "up")
local macro_rules | `(tactic| walk_at "dps") => `(tactic| first
  | exact L2.DpAll.nil
  | (refine' L2.DpAll.cons ?a ?b; (case a => walk_at "dp"); (case b => walk_at "dps")))
local macro_rules | `(tactic| walk_at "od") => `(tactic| first
  | decide +kernel
  | (refine Z.Od.int ?_; omega)
  | exact Z.Od.strInt (by omega)
  | exact Z.Od.bool _
  | assumption
  | (refine Z.Od.mono ?_ ?_ <;> first | assumption | decide))
local macro_rules | `(tactic| walk_at "al") => `(tactic| first
  | exact trivial
  | (refine' Z.AllP.app ?a ?b; (case a => walk_at "al"); (case b => walk_at "al"))
  | (refine' And.intro (Exists.intro _ (And.intro ?a ?b)) ?c; (case a => walk_at "dp"); (case b => walk_at "od"); (case c => walk_at "al")))
local macro_rules | `(tactic| walk_at "ib") => `(tactic| first
  | refine Z.iteBT (by rfl) ?_
  | refine Z.iteBF (by rfl) ?_)

namespace Z
open PySem PySem.Spec PyProof.Rows L2

local macro_rules | `(tactic| walk_at "zt") => `(tactic| repeat first
  | walk_at "z"
  | with_reducible refine Z.st_make ?_ | with_reducible refine Z.st_meth ?_ | with_reducible refine Z.st_fld ?_ | with_reducible refine Z.st_sfld ?_
  | with_reducible refine Z.st_par3 ?_ | with_reducible refine Z.st_iRng3 ?_)

local macro_rules | `(tactic| walk_at "zu") => `(tactic| repeat first
  | walk_at "z"
  | with_reducible refine Z.st_make ?_ | with_reducible refine Z.st_meth ?_ | with_reducible refine Z.st_fld ?_ | with_reducible refine Z.st_sfld ?_
  | with_reducible refine Z.st_par3 ?_ | with_reducible refine Z.st_iRng3 ?_
  | with_reducible refine Z.st_dnewT ?_ | with_reducible refine Z.st_disp1T ?_ | with_reducible refine Z.st_dput ?_ | with_reducible refine Z.st_dget ?_ | with_reducible refine Z.st_din ?_ | with_reducible refine Z.st_dnin ?_ | with_reducible refine Z.st_revS ?_ | with_reducible refine Z.st_m1 ?_)

local macro_rules | `(tactic| walk_at "zb") => `(tactic| repeat first
  | walk_at "z"
  | with_reducible refine Z.st_mkO ?_ | with_reducible refine Z.st_bei ?_ | with_reducible refine Z.st_bst ?_ | with_reducible refine Z.st_xf ?_ | with_reducible refine Z.st_callSD ?_ | with_reducible refine Z.st_callNS ?_
  | with_reducible refine Z.st_make ?_ | with_reducible refine Z.st_makeV ?_ | with_reducible refine Z.st_meth ?_ | with_reducible refine Z.st_methSD ?_ | with_reducible refine Z.st_lc2 ?_ | with_reducible refine Z.st_fld ?_ | with_reducible refine Z.st_sfld ?_ | with_reducible refine Z.st_cval ?_ | with_reducible refine Z.st_cmeth ?_)

local macro_rules | `(tactic| walk_at "zy") => `(tactic| repeat first
  | walk_at "z"
  | with_reducible refine Z.st_mkO ?_ | with_reducible refine Z.st_bei ?_ | with_reducible refine Z.st_bst ?_ | with_reducible refine Z.st_xf ?_ | with_reducible refine Z.st_callSD ?_ | with_reducible refine Z.st_callNS ?_)

local macro_rules | `(tactic| walk_at "zq") => `(tactic| repeat first
  | walk_at "z"
  | with_reducible refine Z.st_mkO ?_ | with_reducible refine Z.st_bei ?_ | with_reducible refine Z.st_bst ?_ | with_reducible refine Z.st_bst2 ?_ | with_reducible refine Z.st_xf ?_ | with_reducible refine Z.st_callSD ?_ | with_reducible refine Z.st_callNS ?_ | with_reducible refine Z.st_callOS ?_
  | with_reducible refine Z.st_make ?_ | with_reducible refine Z.st_makeV ?_ | with_reducible refine Z.st_makeN ?_ | with_reducible refine Z.st_meth ?_ | with_reducible refine Z.st_methSD ?_ | with_reducible refine Z.st_lc2 ?_ | with_reducible refine Z.st_fld ?_ | with_reducible refine Z.st_sfld ?_ | with_reducible refine Z.st_cval ?_ | with_reducible refine Z.st_cmeth ?_
  | with_reducible refine Z.st_par3 ?_ | with_reducible refine Z.st_iRng3 ?_ | with_reducible refine Z.st_iEnumS ?_ | with_reducible refine Z.st_iStr ?_ | with_reducible refine Z.st_star ?_
  | with_reducible refine Z.st_dnewT ?_ | with_reducible refine Z.st_disp1T ?_ | with_reducible refine Z.st_dput ?_ | with_reducible refine Z.st_dget ?_ | with_reducible refine Z.st_din ?_ | with_reducible refine Z.st_dnin ?_ | with_reducible refine Z.st_revS ?_ | with_reducible refine Z.st_m1 ?_)

local macro_rules | `(tactic| walk_at "zr") => `(tactic| repeat first
  | walk_at "z"
  | with_reducible refine Z.st_mkO ?_ | with_reducible refine Z.st_bei ?_ | with_reducible refine Z.st_bst ?_ | with_reducible refine Z.st_bst2 ?_ | with_reducible refine Z.st_xf ?_ | with_reducible refine Z.st_callSD ?_ | with_reducible refine Z.st_callNS ?_ | with_reducible refine Z.st_callOS ?_
  | with_reducible refine Z.st_make ?_ | with_reducible refine Z.st_makeV ?_ | with_reducible refine Z.st_makeN ?_ | with_reducible refine Z.st_meth ?_ | with_reducible refine Z.st_methSD ?_ | with_reducible refine Z.st_lc2 ?_ | with_reducible refine Z.st_fld ?_ | with_reducible refine Z.st_sfld ?_ | with_reducible refine Z.st_cval ?_ | with_reducible refine Z.st_cmeth ?_
  | with_reducible refine Z.st_par3 ?_ | with_reducible refine Z.st_iRng3 ?_ | with_reducible refine Z.st_iEnumS ?_ | with_reducible refine Z.st_iStr ?_ | with_reducible refine Z.st_star ?_
  | with_reducible refine Z.st_dnewT ?_ | with_reducible refine Z.st_disp1T ?_ | with_reducible refine Z.st_dput ?_ | with_reducible refine Z.st_dget ?_ | with_reducible refine Z.st_din ?_ | with_reducible refine Z.st_dnin ?_ | with_reducible refine Z.st_revS ?_ | with_reducible refine Z.st_m1 ?_
  | with_reducible refine Z.st_dget2 ?_ | with_reducible refine Z.st_cKw ?_ | with_reducible refine Z.st_keys ?_)

local macro_rules | `(tactic| walk_at "zt") => `(tactic| repeat first
  | walk_at "z"
  | with_reducible refine Z.st_mkO ?_ | with_reducible refine Z.st_bei ?_ | with_reducible refine Z.st_bst ?_ | with_reducible refine Z.st_bst2 ?_ | with_reducible refine Z.st_xf ?_ | with_reducible refine Z.st_callSD ?_ | with_reducible refine Z.st_callNS ?_ | with_reducible refine Z.st_callOS ?_
  | with_reducible refine Z.st_make ?_ | with_reducible refine Z.st_makeV ?_ | with_reducible refine Z.st_makeN ?_ | with_reducible refine Z.st_meth ?_ | with_reducible refine Z.st_methSD ?_ | with_reducible refine Z.st_lc2 ?_ | with_reducible refine Z.st_fld ?_ | with_reducible refine Z.st_sfld ?_ | with_reducible refine Z.st_cval ?_ | with_reducible refine Z.st_cmeth ?_
  | with_reducible refine Z.st_par3 ?_ | with_reducible refine Z.st_iRng3 ?_ | with_reducible refine Z.st_iEnumS ?_ | with_reducible refine Z.st_iStr ?_ | with_reducible refine Z.st_star ?_
  | with_reducible refine Z.st_dnewT ?_ | with_reducible refine Z.st_disp1T ?_ | with_reducible refine Z.st_dput ?_ | with_reducible refine Z.st_dget ?_ | with_reducible refine Z.st_din ?_ | with_reducible refine Z.st_dnin ?_ | with_reducible refine Z.st_revS ?_ | with_reducible refine Z.st_m1 ?_
  | with_reducible refine Z.st_dget2 ?_ | with_reducible refine Z.st_cKw ?_ | with_reducible refine Z.st_keys ?_
  | with_reducible refine Z.st_dsetdT ?_ | with_reducible refine Z.st_fldaug ?_ | with_reducible refine Z.st_ipI ?_ | with_reducible refine Z.st_revL ?_
  | ((with_reducible refine' Z.st_aug ?hv ?hq); (case hv => exact rfl)))

local macro_rules | `(tactic| walk_at "zk") => `(tactic| repeat first
  | walk_at "z"
  | with_reducible refine Z.st_mkO ?_ | with_reducible refine Z.st_bei ?_ | with_reducible refine Z.st_bst ?_ | with_reducible refine Z.st_bst2 ?_ | with_reducible refine Z.st_xf ?_ | with_reducible refine Z.st_callSD ?_ | with_reducible refine Z.st_callNS ?_ | with_reducible refine Z.st_callOS ?_
  | with_reducible refine Z.st_make ?_ | with_reducible refine Z.st_makeV ?_ | with_reducible refine Z.st_makeN ?_ | with_reducible refine Z.st_meth ?_ | with_reducible refine Z.st_methSD ?_ | with_reducible refine Z.st_lc2 ?_ | with_reducible refine Z.st_fld ?_ | with_reducible refine Z.st_sfld ?_ | with_reducible refine Z.st_cval ?_ | with_reducible refine Z.st_cmeth ?_
  | with_reducible refine Z.st_par3 ?_ | with_reducible refine Z.st_iRng3 ?_ | with_reducible refine Z.st_iEnumS ?_ | with_reducible refine Z.st_iStr ?_ | with_reducible refine Z.st_star ?_
  | with_reducible refine Z.st_dnewT ?_ | with_reducible refine Z.st_disp1T ?_ | with_reducible refine Z.st_dput ?_ | with_reducible refine Z.st_dget ?_ | with_reducible refine Z.st_din ?_ | with_reducible refine Z.st_dnin ?_ | with_reducible refine Z.st_revS ?_ | with_reducible refine Z.st_m1 ?_
  | with_reducible refine Z.st_dget2 ?_ | with_reducible refine Z.st_cKw ?_ | with_reducible refine Z.st_keys ?_
  | with_reducible refine Z.st_dsetdT ?_ | with_reducible refine Z.st_fldaug ?_ | with_reducible refine Z.st_ipI ?_ | with_reducible refine Z.st_revL ?_
  | with_reducible refine Z.st_orT ?_   | with_reducible refine Z.st_iEnum1 ?_ | with_reducible refine Z.st_dc ?_ | with_reducible refine Z.st_lstRg ?_ | with_reducible refine Z.st_rg2 ?_
  | ((with_reducible refine' Z.st_aug ?hv ?hq); (case hv => exact rfl)))

def top (i : Nat) : Stmt := PySem.Challenge.pw_deflatehall_k22_whole_no_tokens_are_chea.main.body.getD i (.Pass ⟨0, 0, 0, 0⟩)
def kc_LENGTHS : List Int := [3, 4, 5, 6, 7, 8, 9, 10, 11, 13, 15, 17, 19, 23, 27, 31, 35, 43, 51, 59, 67, 83, 99, 115, 131, 163, 195, 227, 258]
def kc_LENGTH_EXTRAS : List Int := [0, 0, 0, 0, 0, 0, 0, 0, 1, 1, 1, 1, 2, 2, 2, 2, 3, 3, 3, 3, 4, 4, 4, 4, 5, 5, 5, 5, 0]
def kc_DISTANCES : List Int := [1, 2, 3, 4, 5, 7, 9, 13, 17, 25, 33, 49, 65, 97, 129, 193, 257, 385, 513, 769, 1025, 1537, 2049, 3073, 4097, 6145, 8193, 12289, 16385, 24577]
def kc_DISTANCE_EXTRAS : List Int := [0, 0, 0, 0, 1, 1, 2, 2, 3, 3, 4, 4, 5, 5, 6, 6, 7, 7, 8, 8, 9, 9, 10, 10, 11, 11, 12, 12, 13, 13]
abbrev s_is_integer : Stmt := top 6
abbrev s_in_range : Stmt := top 7
abbrev s_is_byte : Stmt := top 8
abbrev s_checked_data : Stmt := top 9
abbrev s_is_token : Stmt := top 22
abbrev s_check_tokens : Stmt := top 23
abbrev s_copy_into : Stmt := top 24
abbrev s_expand : Stmt := top 25
abbrev s_place_in : Stmt := top 19
abbrev s_length_symbol : Stmt := top 20
abbrev s_distance_symbol : Stmt := top 21
abbrev s_symbol_bits : Stmt := top 26
abbrev s_equal_lengths : Stmt := top 28
abbrev s_part_bits : Stmt := top 29
abbrev s_first_of : Stmt := top 30
abbrev s_lesser : Stmt := top 31
abbrev s_Prices___init__ : Stmt := inClass (top 32) 0
abbrev s_Prices_matches : Stmt := inClass (top 32) 1
abbrev s_Prices_choices : Stmt := inClass (top 32) 2
abbrev s_span_of : Stmt := top 33
abbrev s_cheapest : Stmt := top 34
abbrev s__law_bag : Stmt := top 36
abbrev s__law_take : Stmt := top 37
abbrev s__law_one : Stmt := top 38
abbrev s__law_whole : Stmt := top 39
abbrev s__law_symbol : Stmt := top 40
abbrev s__law_size : Stmt := top 41
abbrev s__law_token_bits : Stmt := top 42
abbrev s__law_split : Stmt := top 43
abbrev s__law_trees : Stmt := top 44
abbrev s__law_all_rows : Stmt := top 45
abbrev s__law_cost : Stmt := top 46
abbrev s__law_right : Stmt := top 47
abbrev s_law : Stmt := top 48
abbrev sN_is_integer : List Str := ["value"]
abbrev sP_is_integer : List Str := ["value"]
theorem sc_is_integer : FnScope sN_is_integer sP_is_integer (defScope s_is_integer) := ⟨rfl, rfl, rfl, by decide +kernel, rfl, by decide +kernel, by decide +kernel⟩
abbrev sN_in_range : List Str := ["value", "least", "most"]
abbrev sP_in_range : List Str := ["value", "least", "most"]
theorem sc_in_range : FnScope sN_in_range sP_in_range (defScope s_in_range) := ⟨rfl, rfl, rfl, by decide +kernel, rfl, by decide +kernel, by decide +kernel⟩
abbrev sN_is_byte : List Str := ["value"]
abbrev sP_is_byte : List Str := ["value"]
theorem sc_is_byte : FnScope sN_is_byte sP_is_byte (defScope s_is_byte) := ⟨rfl, rfl, rfl, by decide +kernel, rfl, by decide +kernel, by decide +kernel⟩
abbrev sN_checked_data : List Str := ["value", "position", "item"]
abbrev sP_checked_data : List Str := ["value"]
theorem sc_checked_data : FnScope sN_checked_data sP_checked_data (defScope s_checked_data) := ⟨rfl, rfl, rfl, by decide +kernel, rfl, by decide +kernel, by decide +kernel⟩
abbrev sN_is_token : List Str := ["value"]
abbrev sP_is_token : List Str := ["value"]
theorem sc_is_token : FnScope sN_is_token sP_is_token (defScope s_is_token) := ⟨rfl, rfl, rfl, by decide +kernel, rfl, by decide +kernel, by decide +kernel⟩
abbrev sN_check_tokens : List Str := ["tokens", "position", "token"]
abbrev sP_check_tokens : List Str := ["tokens"]
theorem sc_check_tokens : FnScope sN_check_tokens sP_check_tokens (defScope s_check_tokens) := ⟨rfl, rfl, rfl, by decide +kernel, rfl, by decide +kernel, by decide +kernel⟩
abbrev sN_copy_into : List Str := ["row", "token", "length", "distance", "turn"]
abbrev sP_copy_into : List Str := ["row", "token"]
theorem sc_copy_into : FnScope sN_copy_into sP_copy_into (defScope s_copy_into) := ⟨rfl, rfl, rfl, by decide +kernel, rfl, by decide +kernel, by decide +kernel⟩
abbrev sN_expand : List Str := ["tokens", "before", "row", "start", "position", "token"]
abbrev sP_expand : List Str := ["tokens", "before"]
theorem sc_expand : FnScope sN_expand sP_expand (defScope s_expand) := ⟨rfl, rfl, rfl, by decide +kernel, rfl, by decide +kernel, by decide +kernel⟩
abbrev sN_place_in : List Str := ["firsts", "value", "first"]
abbrev sP_place_in : List Str := ["firsts", "value"]
theorem sc_place_in : FnScope sN_place_in sP_place_in (defScope s_place_in) := ⟨rfl, rfl, rfl, by decide +kernel, rfl, by decide +kernel, by decide +kernel⟩
abbrev sN_length_symbol : List Str := ["length", "place"]
abbrev sP_length_symbol : List Str := ["length"]
theorem sc_length_symbol : FnScope sN_length_symbol sP_length_symbol (defScope s_length_symbol) := ⟨rfl, rfl, rfl, by decide +kernel, rfl, by decide +kernel, by decide +kernel⟩
abbrev sN_distance_symbol : List Str := ["distance", "place"]
abbrev sP_distance_symbol : List Str := ["distance"]
theorem sc_distance_symbol : FnScope sN_distance_symbol sP_distance_symbol (defScope s_distance_symbol) := ⟨rfl, rfl, rfl, by decide +kernel, rfl, by decide +kernel, by decide +kernel⟩
abbrev sN_symbol_bits : List Str := ["lengths", "symbol"]
abbrev sP_symbol_bits : List Str := ["lengths", "symbol"]
theorem sc_symbol_bits : FnScope sN_symbol_bits sP_symbol_bits (defScope s_symbol_bits) := ⟨rfl, rfl, rfl, by decide +kernel, rfl, by decide +kernel, by decide +kernel⟩
abbrev sN_equal_lengths : List Str := ["row", "found", "place", "behind", "here", "other", "distance"]
abbrev sP_equal_lengths : List Str := ["row"]
theorem sc_equal_lengths : FnScope sN_equal_lengths sP_equal_lengths (defScope s_equal_lengths) := ⟨rfl, rfl, rfl, by decide +kernel, rfl, by decide +kernel, by decide +kernel⟩
abbrev sN_part_bits : List Str := ["part", "lengths", "symbol", "extra", "field", "size"]
abbrev sP_part_bits : List Str := ["part", "lengths"]
theorem sc_part_bits : FnScope sN_part_bits sP_part_bits (defScope s_part_bits) := ⟨rfl, rfl, rfl, by decide +kernel, rfl, by decide +kernel, by decide +kernel⟩
abbrev sN_first_of : List Str := ["pair"]
abbrev sP_first_of : List Str := ["pair"]
theorem sc_first_of : FnScope sN_first_of sP_first_of (defScope s_first_of) := ⟨rfl, rfl, rfl, by decide +kernel, rfl, by decide +kernel, by decide +kernel⟩
abbrev sN_lesser : List Str := ["one", "other"]
abbrev sP_lesser : List Str := ["one", "other"]
theorem sc_lesser : FnScope sN_lesser sP_lesser (defScope s_lesser) := ⟨rfl, rfl, rfl, by decide +kernel, rfl, by decide +kernel, by decide +kernel⟩
abbrev sN_Prices___init__ : List Str := ["self", "lengths", "distances", "most", "byte", "spans", "span", "step"]
abbrev sP_Prices___init__ : List Str := ["self", "lengths", "distances", "most"]
theorem sc_Prices___init__ : FnScope sN_Prices___init__ sP_Prices___init__ (defScope s_Prices___init__) := ⟨rfl, rfl, rfl, by decide +kernel, rfl, by decide +kernel, by decide +kernel⟩
abbrev sN_Prices_matches : List Str := ["self", "equal", "best", "step", "most", "span", "known"]
abbrev sP_Prices_matches : List Str := ["self", "equal"]
theorem sc_Prices_matches : FnScope sN_Prices_matches sP_Prices_matches (defScope s_Prices_matches) := ⟨rfl, rfl, rfl, by decide +kernel, rfl, by decide +kernel, by decide +kernel⟩
abbrev sN_Prices_choices : List Str := ["self", "row", "equal", "place", "found", "size"]
abbrev sP_Prices_choices : List Str := ["self", "row", "equal", "place"]
theorem sc_Prices_choices : FnScope sN_Prices_choices sP_Prices_choices (defScope s_Prices_choices) := ⟨rfl, rfl, rfl, by decide +kernel, rfl, by decide +kernel, by decide +kernel⟩
abbrev sN_span_of : List Str := ["token"]
abbrev sP_span_of : List Str := ["token"]
theorem sc_span_of : FnScope sN_span_of sP_span_of (defScope s_span_of) := ⟨rfl, rfl, rfl, by decide +kernel, rfl, by decide +kernel, by decide +kernel⟩
abbrev sN_cheapest : List Str := ["data", "lengths", "distances", "row", "equal", "prices", "best", "place", "size", "token", "behind", "tokens"]
abbrev sP_cheapest : List Str := ["data", "lengths", "distances"]
theorem sc_cheapest : FnScope sN_cheapest sP_cheapest (defScope s_cheapest) := ⟨rfl, rfl, rfl, by decide +kernel, rfl, by decide +kernel, by decide +kernel⟩
abbrev sN__law_bag : List Str := ["_law_script", "_law_at", "_law_cell", "_law_digits"]
abbrev sP__law_bag : List Str := ["_law_script", "_law_at"]
theorem sc__law_bag : FnScope sN__law_bag sP__law_bag (defScope s__law_bag) := ⟨rfl, rfl, rfl, by decide +kernel, rfl, by decide +kernel, by decide +kernel⟩
abbrev sN__law_take : List Str := ["_law_bag_here", "_law_many", "_law_digit"]
abbrev sP__law_take : List Str := ["_law_bag_here", "_law_many"]
theorem sc__law_take : FnScope sN__law_take sP__law_take (defScope s__law_take) := ⟨rfl, rfl, rfl, by decide +kernel, rfl, by decide +kernel, by decide +kernel⟩
abbrev sN__law_one : List Str := ["_law_bag_here", "_law_things"]
abbrev sP__law_one : List Str := ["_law_bag_here", "_law_things"]
theorem sc__law_one : FnScope sN__law_one sP__law_one (defScope s__law_one) := ⟨rfl, rfl, rfl, by decide +kernel, rfl, by decide +kernel, by decide +kernel⟩
abbrev sN__law_whole : List Str := ["_law_value"]
abbrev sP__law_whole : List Str := ["_law_value"]
theorem sc__law_whole : FnScope sN__law_whole sP__law_whole (defScope s__law_whole) := ⟨rfl, rfl, rfl, by decide +kernel, rfl, by decide +kernel, by decide +kernel⟩
abbrev sN__law_symbol : List Str := ["_law_first", "_law_plain", "_law_groups", "_law_each", "_law_value", "_law_at", "_law_symbol_here", "_law_extra", "_law_turn"]
abbrev sP__law_symbol : List Str := ["_law_first", "_law_plain", "_law_groups", "_law_each", "_law_value"]
theorem sc__law_symbol : FnScope sN__law_symbol sP__law_symbol (defScope s__law_symbol) := ⟨rfl, rfl, rfl, by decide +kernel, rfl, by decide +kernel, by decide +kernel⟩
abbrev sN__law_size : List Str := ["_law_some", "_law_symbol_here"]
abbrev sP__law_size : List Str := ["_law_some", "_law_symbol_here"]
theorem sc__law_size : FnScope sN__law_size sP__law_size (defScope s__law_size) := ⟨rfl, rfl, rfl, by decide +kernel, rfl, by decide +kernel, by decide +kernel⟩
abbrev sN__law_token_bits : List Str := ["_law_token", "_law_some", "_law_far", "_law_one_here", "_law_other", "_law_sizes"]
abbrev sP__law_token_bits : List Str := ["_law_token", "_law_some", "_law_far"]
theorem sc__law_token_bits : FnScope sN__law_token_bits sP__law_token_bits (defScope s__law_token_bits) := ⟨rfl, rfl, rfl, by decide +kernel, rfl, by decide +kernel, by decide +kernel⟩
abbrev sN__law_split : List Str := ["_law_bag_here", "_law_symbols", "_law_many", "_law_some", "_law_at", "_law_gathered", "_law_k"]
abbrev sP__law_split : List Str := ["_law_bag_here", "_law_symbols", "_law_many"]
theorem sc__law_split : FnScope sN__law_split sP__law_split (defScope s__law_split) := ⟨rfl, rfl, rfl, by decide +kernel, rfl, by decide +kernel, by decide +kernel⟩
abbrev sN__law_trees : List Str := ["_law_bag_here", "_law_row", "_law_used", "_law_turn", "_law_symbol_here", "_law_steps", "_law_some"]
abbrev sP__law_trees : List Str := ["_law_bag_here", "_law_row"]
theorem sc__law_trees : FnScope sN__law_trees sP__law_trees (defScope s__law_trees) := ⟨rfl, rfl, rfl, by decide +kernel, rfl, by decide +kernel, by decide +kernel⟩
abbrev sN__law_all_rows : List Str := ["_law_row", "_law_at", "_law_gathered", "_law_rest", "_law_step", "_law_size_here"]
abbrev sP__law_all_rows : List Str := ["_law_row", "_law_at"]
theorem sc__law_all_rows : FnScope sN__law_all_rows sP__law_all_rows (defScope s__law_all_rows) := ⟨rfl, rfl, rfl, by decide +kernel, rfl, by decide +kernel, by decide +kernel⟩
abbrev sN__law_cost : List Str := ["_law_some", "_law_lengths_row", "_law_far", "_law_costs", "_law_token"]
abbrev sP__law_cost : List Str := ["_law_some", "_law_lengths_row", "_law_far"]
theorem sc__law_cost : FnScope sN__law_cost sP__law_cost (defScope s__law_cost) := ⟨rfl, rfl, rfl, by decide +kernel, rfl, by decide +kernel, by decide +kernel⟩
abbrev sN__law_right : List Str := ["_law_row", "_law_some", "_law_far", "_law_told", "_law_costs", "_law_one_here", "_law_known", "_law_cost_here"]
abbrev sP__law_right : List Str := ["_law_row", "_law_some", "_law_far"]
theorem sc__law_right : FnScope sN__law_right sP__law_right (defScope s__law_right) := ⟨rfl, rfl, rfl, by decide +kernel, rfl, by decide +kernel, by decide +kernel⟩
abbrev sN_law : List Str := ["_law_script", "_law_fixed", "_law_at", "_law_bag_here", "_law_turn", "_law_pool", "_law_row", "_law_some", "_law_far"]
abbrev sP_law : List Str := ["_law_script"]
theorem sc_law : FnScope sN_law sP_law (defScope s_law) := ⟨rfl, rfl, rfl, by decide +kernel, rfl, by decide +kernel, by decide +kernel⟩
structure Adr where
  f_is_integer : Addr
  fd_is_integer : FuncData
  f_in_range : Addr
  fd_in_range : FuncData
  f_is_byte : Addr
  fd_is_byte : FuncData
  f_checked_data : Addr
  fd_checked_data : FuncData
  f_is_token : Addr
  fd_is_token : FuncData
  f_check_tokens : Addr
  fd_check_tokens : FuncData
  f_copy_into : Addr
  fd_copy_into : FuncData
  f_expand : Addr
  fd_expand : FuncData
  f_place_in : Addr
  fd_place_in : FuncData
  f_length_symbol : Addr
  fd_length_symbol : FuncData
  f_distance_symbol : Addr
  fd_distance_symbol : FuncData
  f_symbol_bits : Addr
  fd_symbol_bits : FuncData
  f_equal_lengths : Addr
  fd_equal_lengths : FuncData
  f_part_bits : Addr
  fd_part_bits : FuncData
  f_first_of : Addr
  fd_first_of : FuncData
  f_lesser : Addr
  fd_lesser : FuncData
  f_Prices___init__ : Addr
  fd_Prices___init__ : FuncData
  f_Prices_matches : Addr
  fd_Prices_matches : FuncData
  f_Prices_choices : Addr
  fd_Prices_choices : FuncData
  f_span_of : Addr
  fd_span_of : FuncData
  f_cheapest : Addr
  fd_cheapest : FuncData
  f__law_bag : Addr
  fd__law_bag : FuncData
  f__law_take : Addr
  fd__law_take : FuncData
  f__law_one : Addr
  fd__law_one : FuncData
  f__law_whole : Addr
  fd__law_whole : FuncData
  f__law_symbol : Addr
  fd__law_symbol : FuncData
  f__law_size : Addr
  fd__law_size : FuncData
  f__law_token_bits : Addr
  fd__law_token_bits : FuncData
  f__law_split : Addr
  fd__law_split : FuncData
  f__law_trees : Addr
  fd__law_trees : FuncData
  f__law_all_rows : Addr
  fd__law_all_rows : FuncData
  f__law_cost : Addr
  fd__law_cost : FuncData
  f__law_right : Addr
  fd__law_right : FuncData
  f_law : Addr
  fd_law : FuncData
  d_expand_before : Addr
  C_Prices : Addr
  t_MOST_DATA : Tok
  t_LEAST_LENGTH : Tok
  t_MOST_LENGTH : Tok
  t_MOST_DISTANCE : Tok
  c_LENGTHS : Addr
  t_FIRST_LENGTH : Tok
  c_LENGTH_EXTRAS : Addr
  c_DISTANCES : Addr
  c_DISTANCE_EXTRAS : Addr
structure Txt (K : PySem.W.Frag) (mg : Str → Option Value) (A : Adr) : Prop where
  F_is_integer : FunD K "is_integer" "is_integer" (defArgs s_is_integer) (defBody s_is_integer) (defScope s_is_integer) [] [] A.f_is_integer A.fd_is_integer
  b_is_integer : Binds K A.fd_is_integer sP_is_integer []
  m_is_integer : mg "is_integer" = some (.ref A.f_is_integer)
  F_in_range : FunD K "in_range" "in_range" (defArgs s_in_range) (defBody s_in_range) (defScope s_in_range) [] [] A.f_in_range A.fd_in_range
  b_in_range : Binds K A.fd_in_range sP_in_range []
  m_in_range : mg "in_range" = some (.ref A.f_in_range)
  F_is_byte : FunD K "is_byte" "is_byte" (defArgs s_is_byte) (defBody s_is_byte) (defScope s_is_byte) [] [] A.f_is_byte A.fd_is_byte
  b_is_byte : Binds K A.fd_is_byte sP_is_byte []
  m_is_byte : mg "is_byte" = some (.ref A.f_is_byte)
  F_checked_data : FunD K "checked_data" "checked_data" (defArgs s_checked_data) (defBody s_checked_data) (defScope s_checked_data) [] [] A.f_checked_data A.fd_checked_data
  b_checked_data : Binds K A.fd_checked_data sP_checked_data []
  m_checked_data : mg "checked_data" = some (.ref A.f_checked_data)
  F_is_token : FunD K "is_token" "is_token" (defArgs s_is_token) (defBody s_is_token) (defScope s_is_token) [] [] A.f_is_token A.fd_is_token
  b_is_token : Binds K A.fd_is_token sP_is_token []
  m_is_token : mg "is_token" = some (.ref A.f_is_token)
  F_check_tokens : FunD K "check_tokens" "check_tokens" (defArgs s_check_tokens) (defBody s_check_tokens) (defScope s_check_tokens) [] [] A.f_check_tokens A.fd_check_tokens
  b_check_tokens : Binds K A.fd_check_tokens sP_check_tokens []
  m_check_tokens : mg "check_tokens" = some (.ref A.f_check_tokens)
  F_copy_into : FunD K "copy_into" "copy_into" (defArgs s_copy_into) (defBody s_copy_into) (defScope s_copy_into) [] [] A.f_copy_into A.fd_copy_into
  b_copy_into : Binds K A.fd_copy_into sP_copy_into []
  m_copy_into : mg "copy_into" = some (.ref A.f_copy_into)
  F_expand : FunD K "expand" "expand" (defArgs s_expand) (defBody s_expand) (defScope s_expand) [] [("before", .ref A.d_expand_before)] A.f_expand A.fd_expand
  dt_expand_before : ∀ H, SqT K H A.d_expand_before []
  m_expand : mg "expand" = some (.ref A.f_expand)
  F_place_in : FunD K "place_in" "place_in" (defArgs s_place_in) (defBody s_place_in) (defScope s_place_in) [] [] A.f_place_in A.fd_place_in
  b_place_in : Binds K A.fd_place_in sP_place_in []
  m_place_in : mg "place_in" = some (.ref A.f_place_in)
  F_length_symbol : FunD K "length_symbol" "length_symbol" (defArgs s_length_symbol) (defBody s_length_symbol) (defScope s_length_symbol) [] [] A.f_length_symbol A.fd_length_symbol
  b_length_symbol : Binds K A.fd_length_symbol sP_length_symbol []
  m_length_symbol : mg "length_symbol" = some (.ref A.f_length_symbol)
  F_distance_symbol : FunD K "distance_symbol" "distance_symbol" (defArgs s_distance_symbol) (defBody s_distance_symbol) (defScope s_distance_symbol) [] [] A.f_distance_symbol A.fd_distance_symbol
  b_distance_symbol : Binds K A.fd_distance_symbol sP_distance_symbol []
  m_distance_symbol : mg "distance_symbol" = some (.ref A.f_distance_symbol)
  F_symbol_bits : FunD K "symbol_bits" "symbol_bits" (defArgs s_symbol_bits) (defBody s_symbol_bits) (defScope s_symbol_bits) [] [] A.f_symbol_bits A.fd_symbol_bits
  b_symbol_bits : Binds K A.fd_symbol_bits sP_symbol_bits []
  m_symbol_bits : mg "symbol_bits" = some (.ref A.f_symbol_bits)
  F_equal_lengths : FunD K "equal_lengths" "equal_lengths" (defArgs s_equal_lengths) (defBody s_equal_lengths) (defScope s_equal_lengths) [] [] A.f_equal_lengths A.fd_equal_lengths
  b_equal_lengths : Binds K A.fd_equal_lengths sP_equal_lengths []
  m_equal_lengths : mg "equal_lengths" = some (.ref A.f_equal_lengths)
  F_part_bits : FunD K "part_bits" "part_bits" (defArgs s_part_bits) (defBody s_part_bits) (defScope s_part_bits) [] [] A.f_part_bits A.fd_part_bits
  b_part_bits : Binds K A.fd_part_bits sP_part_bits []
  m_part_bits : mg "part_bits" = some (.ref A.f_part_bits)
  F_first_of : FunD K "first_of" "first_of" (defArgs s_first_of) (defBody s_first_of) (defScope s_first_of) [] [] A.f_first_of A.fd_first_of
  b_first_of : Binds K A.fd_first_of sP_first_of []
  m_first_of : mg "first_of" = some (.ref A.f_first_of)
  F_lesser : FunD K "lesser" "lesser" (defArgs s_lesser) (defBody s_lesser) (defScope s_lesser) [] [] A.f_lesser A.fd_lesser
  b_lesser : Binds K A.fd_lesser sP_lesser []
  m_lesser : mg "lesser" = some (.ref A.f_lesser)
  F_Prices___init__ : FunD K "__init__" "Prices.__init__" (defArgs s_Prices___init__) (defBody s_Prices___init__) (defScope s_Prices___init__) [] [] A.f_Prices___init__ A.fd_Prices___init__
  b_Prices___init__ : Binds K A.fd_Prices___init__ sP_Prices___init__ []
  F_Prices_matches : FunD K "matches" "Prices.matches" (defArgs s_Prices_matches) (defBody s_Prices_matches) (defScope s_Prices_matches) [] [] A.f_Prices_matches A.fd_Prices_matches
  b_Prices_matches : Binds K A.fd_Prices_matches sP_Prices_matches []
  F_Prices_choices : FunD K "choices" "Prices.choices" (defArgs s_Prices_choices) (defBody s_Prices_choices) (defScope s_Prices_choices) [] [] A.f_Prices_choices A.fd_Prices_choices
  b_Prices_choices : Binds K A.fd_Prices_choices sP_Prices_choices []
  F_span_of : FunD K "span_of" "span_of" (defArgs s_span_of) (defBody s_span_of) (defScope s_span_of) [] [] A.f_span_of A.fd_span_of
  b_span_of : Binds K A.fd_span_of sP_span_of []
  m_span_of : mg "span_of" = some (.ref A.f_span_of)
  F_cheapest : FunD K "cheapest" "cheapest" (defArgs s_cheapest) (defBody s_cheapest) (defScope s_cheapest) [] [] A.f_cheapest A.fd_cheapest
  b_cheapest : Binds K A.fd_cheapest sP_cheapest []
  m_cheapest : mg "cheapest" = some (.ref A.f_cheapest)
  F__law_bag : FunD K "_law_bag" "_law_bag" (defArgs s__law_bag) (defBody s__law_bag) (defScope s__law_bag) [] [] A.f__law_bag A.fd__law_bag
  b__law_bag : Binds K A.fd__law_bag sP__law_bag []
  m__law_bag : mg "_law_bag" = some (.ref A.f__law_bag)
  F__law_take : FunD K "_law_take" "_law_take" (defArgs s__law_take) (defBody s__law_take) (defScope s__law_take) [] [] A.f__law_take A.fd__law_take
  b__law_take : Binds K A.fd__law_take sP__law_take []
  m__law_take : mg "_law_take" = some (.ref A.f__law_take)
  F__law_one : FunD K "_law_one" "_law_one" (defArgs s__law_one) (defBody s__law_one) (defScope s__law_one) [] [] A.f__law_one A.fd__law_one
  b__law_one : Binds K A.fd__law_one sP__law_one []
  m__law_one : mg "_law_one" = some (.ref A.f__law_one)
  F__law_whole : FunD K "_law_whole" "_law_whole" (defArgs s__law_whole) (defBody s__law_whole) (defScope s__law_whole) [] [] A.f__law_whole A.fd__law_whole
  b__law_whole : Binds K A.fd__law_whole sP__law_whole []
  m__law_whole : mg "_law_whole" = some (.ref A.f__law_whole)
  F__law_symbol : FunD K "_law_symbol" "_law_symbol" (defArgs s__law_symbol) (defBody s__law_symbol) (defScope s__law_symbol) [] [] A.f__law_symbol A.fd__law_symbol
  b__law_symbol : Binds K A.fd__law_symbol sP__law_symbol []
  m__law_symbol : mg "_law_symbol" = some (.ref A.f__law_symbol)
  F__law_size : FunD K "_law_size" "_law_size" (defArgs s__law_size) (defBody s__law_size) (defScope s__law_size) [] [] A.f__law_size A.fd__law_size
  b__law_size : Binds K A.fd__law_size sP__law_size []
  m__law_size : mg "_law_size" = some (.ref A.f__law_size)
  F__law_token_bits : FunD K "_law_token_bits" "_law_token_bits" (defArgs s__law_token_bits) (defBody s__law_token_bits) (defScope s__law_token_bits) [] [] A.f__law_token_bits A.fd__law_token_bits
  b__law_token_bits : Binds K A.fd__law_token_bits sP__law_token_bits []
  m__law_token_bits : mg "_law_token_bits" = some (.ref A.f__law_token_bits)
  F__law_split : FunD K "_law_split" "_law_split" (defArgs s__law_split) (defBody s__law_split) (defScope s__law_split) [] [] A.f__law_split A.fd__law_split
  b__law_split : Binds K A.fd__law_split sP__law_split []
  m__law_split : mg "_law_split" = some (.ref A.f__law_split)
  F__law_trees : FunD K "_law_trees" "_law_trees" (defArgs s__law_trees) (defBody s__law_trees) (defScope s__law_trees) [] [] A.f__law_trees A.fd__law_trees
  b__law_trees : Binds K A.fd__law_trees sP__law_trees []
  m__law_trees : mg "_law_trees" = some (.ref A.f__law_trees)
  F__law_all_rows : FunD K "_law_all_rows" "_law_all_rows" (defArgs s__law_all_rows) (defBody s__law_all_rows) (defScope s__law_all_rows) [] [] A.f__law_all_rows A.fd__law_all_rows
  b__law_all_rows : Binds K A.fd__law_all_rows sP__law_all_rows []
  m__law_all_rows : mg "_law_all_rows" = some (.ref A.f__law_all_rows)
  F__law_cost : FunD K "_law_cost" "_law_cost" (defArgs s__law_cost) (defBody s__law_cost) (defScope s__law_cost) [] [] A.f__law_cost A.fd__law_cost
  b__law_cost : Binds K A.fd__law_cost sP__law_cost []
  m__law_cost : mg "_law_cost" = some (.ref A.f__law_cost)
  F__law_right : FunD K "_law_right" "_law_right" (defArgs s__law_right) (defBody s__law_right) (defScope s__law_right) [] [] A.f__law_right A.fd__law_right
  b__law_right : Binds K A.fd__law_right sP__law_right []
  m__law_right : mg "_law_right" = some (.ref A.f__law_right)
  F_law : FunD K "law" "law" (defArgs s_law) (defBody s_law) (defScope s_law) [] [] A.f_law A.fd_law
  b_law : Binds K A.fd_law sP_law []
  m_law : mg "law" = some (.ref A.f_law)
  b1_expand : ∃ ds, Vals [.ref A.d_expand_before] ds ∧ Binds K A.fd_expand sP_expand ds
  m_MOST_DATA : mg "MOST_DATA" = some (.int 70000 A.t_MOST_DATA)
  m_LEAST_LENGTH : mg "LEAST_LENGTH" = some (.int 3 A.t_LEAST_LENGTH)
  m_MOST_LENGTH : mg "MOST_LENGTH" = some (.int 258 A.t_MOST_LENGTH)
  m_MOST_DISTANCE : mg "MOST_DISTANCE" = some (.int 32768 A.t_MOST_DISTANCE)
  m_LENGTHS : mg "LENGTHS" = some (.ref A.c_LENGTHS)
  cs_LENGTHS : ∀ H, SqT K H A.c_LENGTHS [.int 3, .int 4, .int 5, .int 6, .int 7, .int 8, .int 9, .int 10, .int 11, .int 13, .int 15, .int 17, .int 19, .int 23, .int 27, .int 31, .int 35, .int 43, .int 51, .int 59, .int 67, .int 83, .int 99, .int 115, .int 131, .int 163, .int 195, .int 227, .int 258]
  m_FIRST_LENGTH : mg "FIRST_LENGTH" = some (.int 257 A.t_FIRST_LENGTH)
  m_LENGTH_EXTRAS : mg "LENGTH_EXTRAS" = some (.ref A.c_LENGTH_EXTRAS)
  cs_LENGTH_EXTRAS : ∀ H, SqT K H A.c_LENGTH_EXTRAS [.int 0, .int 0, .int 0, .int 0, .int 0, .int 0, .int 0, .int 0, .int 1, .int 1, .int 1, .int 1, .int 2, .int 2, .int 2, .int 2, .int 3, .int 3, .int 3, .int 3, .int 4, .int 4, .int 4, .int 4, .int 5, .int 5, .int 5, .int 5, .int 0]
  m_DISTANCES : mg "DISTANCES" = some (.ref A.c_DISTANCES)
  cs_DISTANCES : ∀ H, SqT K H A.c_DISTANCES [.int 1, .int 2, .int 3, .int 4, .int 5, .int 7, .int 9, .int 13, .int 17, .int 25, .int 33, .int 49, .int 65, .int 97, .int 129, .int 193, .int 257, .int 385, .int 513, .int 769, .int 1025, .int 1537, .int 2049, .int 3073, .int 4097, .int 6145, .int 8193, .int 12289, .int 16385, .int 24577]
  m_DISTANCE_EXTRAS : mg "DISTANCE_EXTRAS" = some (.ref A.c_DISTANCE_EXTRAS)
  cs_DISTANCE_EXTRAS : ∀ H, SqT K H A.c_DISTANCE_EXTRAS [.int 0, .int 0, .int 0, .int 0, .int 1, .int 1, .int 2, .int 2, .int 3, .int 3, .int 4, .int 4, .int 5, .int 5, .int 6, .int 6, .int 7, .int 7, .int 8, .int 8, .int 9, .int 9, .int 10, .int 10, .int 11, .int 11, .int 12, .int 12, .int 13, .int 13]
  z_isinstance : mg "isinstance" = none
  z_int : mg "int" = none
  z_bool : mg "bool" = none
  z_enumerate : mg "enumerate" = none
  z_list : mg "list" = none
  z_len : mg "len" = none
  z_tuple : mg "tuple" = none
  z_range : mg "range" = none
  z_min : mg "min" = none
  z_abs : mg "abs" = none
  z_sorted : mg "sorted" = none
  z_set : mg "set" = none
  z_sum : mg "sum" = none
  z_max : mg "max" = none
  gC_Prices : mg "Prices" = some (.ref A.C_Prices)
  cl_Prices : Cls K A.C_Prices
  nf_Prices_literals : NoAttr K A.C_Prices "literals"
  nf_Prices_span_costs : NoAttr K A.C_Prices "span_costs"
  nf_Prices_far_costs : NoAttr K A.C_Prices "far_costs"
  M_Prices : Mk K A.C_Prices A.f_Prices___init__
  mt_Prices_matches : Meth K A.C_Prices "matches" A.f_Prices_matches
  mt_Prices_choices : Meth K A.C_Prices "choices" A.f_Prices_choices
section
variable {P : Program} {w : World} {K : PySem.W.Frag} {mg : Str → Option Value} {base : Heap} {A : Adr}
/-! ### integers, bytes -/
def sp_is_integer (K : PySem.W.Frag) : Sp := fun vs H Q _ => ∃ x, vs = [x] ∧ Knd K H x ∧ Q (.bl (isInt x)) H
theorem ok_is_integer (T : Txt K mg A) : FnOk P w K mg base CX0 1 A.f_is_integer A.fd_is_integer sP_is_integer (sp_is_integer K) := by
  refine okD T.F_is_integer sc_is_integer (fun vs H Q E h => ?_) (fun cdv Ar outer s H vs Q E hr h => ⟨_, (pss_one (ps_ret ((pe_and (pe_callB call_isi (by rfl) T.z_isinstance (by decide +kernel) (pa_cons (pv 0) (pa_cons (pe_bltn (v := .ty "int") (u := .type "int") (by rfl) T.z_int (by decide +kernel) rfl) pa_nil))) (pe_one (pe_not (pe_callB call_isi (by rfl) T.z_isinstance (by decide +kernel) (pa_cons (pv 0) (pa_cons (pe_bltn (v := .ty "bool") (u := .type "bool") (by rfl) T.z_bool (by decide +kernel) rfl) pa_nil))))))))), ?_⟩)
  · obtain ⟨x, rfl, _⟩ := h
    rfl
  · obtain ⟨x, rfl, hk, k⟩ := h
    obtain ⟨n, b1, b2, ty, e1, e2, e⟩ := hk.ty
    rw [e] at k
    repeat walk_at "z"
    refine ⟨_, _, _, _, b1, rfl, .ty _, ty, kit_ty e1, _, rfl, ?_⟩
    cases b1 with
    | false => exact k
    | true =>
      refine iteT ?_
      repeat walk_at "z"
      exact ⟨_, _, _, _, b2, rfl, .ty _, ty, kit_ty e2, _, rfl, k⟩

def sp_in_range (K : PySem.W.Frag) : Sp := fun vs H Q _ => ∃ x lo hi, vs = [x, .int lo, .int hi] ∧ Knd K H x ∧ Q (.bl (inRange lo hi x)) H
theorem ok_in_range (T : Txt K mg A) : FnOk P w K mg base CX0 2 A.f_in_range A.fd_in_range sP_in_range (sp_in_range K) := by
  refine okD T.F_in_range sc_in_range (fun vs H Q E h => ?_) (fun cdv Ar outer s H vs Q E hr h => ⟨_, (pss_one (ps_ret ((pe_and (pe_call (ok_is_integer T) (hr.mono (by decide)) rfl T.m_is_integer T.F_is_integer.kp T.b_is_integer .nil pass0 (pa_cons (pv 0) pa_nil)) (pe_one (pe_chain op_le op_le (pv 1) (pv 0) (pv 2))))))), ?_⟩)
  · obtain ⟨x, lo, hi, rfl, _⟩ := h
    rfl
  · obtain ⟨x, lo, hi, rfl, hk, k⟩ := h
    repeat walk_at "z"
    refine ⟨_, rfl, hk, _, rfl, ?_⟩
    cases hk with
    | int i =>
      refine iteT ?_
      refine ⟨_, rfl, _, rfl, _, _, rfl, rfl, _, rfl, ?_⟩
      by_cases h1 : lo ≤ i
      · rw [decide_eq_true h1] 
        refine iteT ⟨_, rfl, _, _, rfl, rfl, ?_⟩
        have e : inRange lo hi (.int i) = decide (i ≤ hi) := by simp [inRange, h1]
        rw [e] at k
        exact k
      · rw [decide_eq_false h1]
        have e : inRange lo hi (.int i) = false := by simp [inRange, h1]
        rw [e] at k
        exact iteF k
    | _ => exact iteF k
def sp_is_byte (K : PySem.W.Frag) : Sp := fun vs H Q _ => ∃ x, vs = [x] ∧ Knd K H x ∧ Q (.bl (inRange 0 255 x)) H
theorem ok_is_byte (T : Txt K mg A) : FnOk P w K mg base CX0 3 A.f_is_byte A.fd_is_byte sP_is_byte (sp_is_byte K) := by
  refine okD T.F_is_byte sc_is_byte (fun vs H Q E h => ?_) (fun cdv Ar outer s H vs Q E hr h => ⟨_, (pss_one (ps_ret (pe_call (ok_in_range T) (hr.mono (by decide)) rfl T.m_in_range T.F_in_range.kp T.b_in_range .nil pass0 (pa_cons (pv 0) (pa_cons (pe_int) (pa_cons (pe_int) pa_nil)))))), ?_⟩)
  · obtain ⟨x, rfl, _⟩ := h
    rfl
  · obtain ⟨x, rfl, hk, k⟩ := h
    repeat walk_at "z"
    exact ⟨_, _, _, rfl, hk, k⟩

/-! ### data -/
def Byt (ns : List Int) : Prop := ∀ n ∈ ns, 0 ≤ n ∧ n ≤ 255
def sp_checked_data (K : PySem.W.Frag) : Sp := fun vs H Q _ => ∃ G W a ns, Wd G W H ∧ vs = [.ref a] ∧ (SqL K G a (ns.map V.int) ∨ SqT K G a (ns.map V.int)) ∧ Byt ns ∧ ns.length ≤ 70000 ∧
  ∀ p G' H', Same G G' → Wd G' ((p, Is (.lst (ns.map V.int))) :: W) H' → Q (.ref p) H'
theorem ok_checked_data (T : Txt K mg A) : FnOk P w K mg base CX0 4 A.f_checked_data A.fd_checked_data sP_checked_data (sp_checked_data K) := by
  refine okD T.F_checked_data sc_checked_data (fun vs H Q E h => ?_) (fun cdv Ar outer s H vs Q E hr h => ⟨_, (pss_cons (ps_if (PW.pt (pw_or (pt_not (pt_val (pe_callB call_isiT (by rfl) T.z_isinstance (by decide +kernel) (pa_cons (pv 0) (pa_cons (pe_tup (pa_cons (pe_bltn (v := .ty "list") (u := .type "list") (by rfl) T.z_list (by decide +kernel) rfl) (pa_cons (pe_bltn (v := .ty "tuple") (u := .type "tuple") (by rfl) T.z_tuple (by decide +kernel) rfl) pa_nil))) pa_nil))))) (pw_or1 (pt_cmpR op_gt (pe_callB call_len_seq (by rfl) T.z_len PySem.boot_len (pa_cons (pv 0) pa_nil)) (pe_glob (v := .int 70000) rfl T.m_MOST_DATA ⟨_, rfl⟩) (nomark _))))) (pss_one (ps_never)) pss_nil)
      (pss_cons (ps_for PassesOwn.never rfl (pi_enumA (by rfl) T.z_enumerate (pa_cons (pv 0) pa_nil)) (pg_tup rfl (pgs_cons (pg_name (i := 1) sc_checked_data.nd rfl (Or.inl rfl)) (pgs_cons (pg_name (i := 2) sc_checked_data.nd rfl (Or.inl rfl)) pgs_nil))) (pss_one (ps_if (pt_not (pt_val (pe_call (ok_is_byte T) (hr.mono (by decide)) rfl T.m_is_byte T.F_is_byte.kp T.b_is_byte .nil pass0 (pa_cons (pv 2) pa_nil)))) (pss_one (ps_never)) pss_nil)))
      (pss_one (ps_ret (pe_callTy call_list_of (by rfl) T.z_list (by decide +kernel) (pa_cons (pv 0) pa_nil)))))), ?_⟩)
  · obtain ⟨G, W, a, ns, _, rfl, _⟩ := h
    rfl
  · obtain ⟨G, W, a, ns, w, rfl, ha, hb, hl, k⟩ := h
    walk_at "zz"
    refine ⟨by decide, NewO.good w fun p G1 H1 e1 w1 hp => ?_⟩
    walk_at "zz"
    refine isiSeq (w1.at hp) (ha.elim (fun h => .inl (by walk_at "up")) fun h => .inr (by walk_at "up")) ⟨_, rfl, ?_⟩
    refine iteF ?_
    walk_at "zz"
    refine ⟨_, _, rfl, (ha.elim (fun h => .inl (by walk_at "up")) fun h => .inr (by walk_at "up")), ?_⟩
    walk_at "zz"
    have hl' : ¬ (70000 < ((ns.map V.int).length : Int)) := by rw [List.length_map]; omega
    rw [decide_eq_false hl']
    refine iteF ?_
    walk_at "zz"
    refine for_enumA (i1 := 1) (i2 := 2) (ha.elim (fun h => .inl (e1.seq h)) fun h => .inr (seqT e1 h)) (fun i σ G' W' => W' = W ∧ ∃ x y, σ = [some (.ref a), x, y]) w1 ⟨rfl, _, _, rfl⟩ ?_ ?_
    · rintro i x σ' G2 G3 W' H3 hx e2 ⟨rfl, x1, x2, rfl⟩ e3 w3
      obtain ⟨n, _, rfl, hn⟩ := getI hx
      walk_at "zz"
      refine ⟨_, rfl, .int n, _, rfl, ?_⟩
      have e : inRange 0 255 (.int n) = true := by
        have := hb n hn
        simp [inRange, this]
      rw [e]
      refine iteF ?_
      walk_at "zz"
      exact st_btw (by walk_at "sm") w3 ⟨rfl, _, _, rfl⟩
    · rintro σ' G2 W' H3 e2 w2 ⟨rfl, x1, x2, rfl⟩
      walk_at "zz"
      exact ⟨_, _, rfl, (ha.elim (fun h => .inl (by walk_at "up")) fun h => .inr (by walk_at "up")), fun l hn => k l G2 _ (by walk_at "sm") (w2.newM hn rfl)⟩

/-! ### draws -/
def BagI : HO → Prop := fun o => ∃ x y z : Int, o = .lst [.int x, .int y, .int z] ∧ 0 ≤ x ∧ 0 ≤ y ∧ y ≤ 2147483600
def sp_take : Sp := fun vs H Q _ => ∃ G W b m, Wd G W H ∧ (b, BagI) ∈ W ∧ vs = [.ref b, .int m] ∧ 0 < m ∧ m < 1073741824 ∧ ∀ r H', 0 ≤ r → r < m → Wd G W H' → Q (.int r) H'
theorem ok__law_take (T : Txt K mg A) : FnOk P w K mg base CX0 1 A.f__law_take A.fd__law_take sP__law_take sp_take := by
  refine okD T.F__law_take sc__law_take (fun vs H Q E h => ?_) (fun cdv Ar outer s H vs Q E hr h => ⟨_, (pss_cons (ps_if (pt_cmpR op_gt (pe_ix ix_list (pv 0) (pe_int) (fun _ _ => rfl)) (pe_int) (nomark _)) (pss_cons (ps_set (i := 2) sc__law_take.nd rfl (Or.inl rfl) (pe_op op_mod (pe_ix ix_list (pv 0) (pe_int) (fun _ _ => rfl)) (pv 1)))
      (pss_cons (ps_asg (pe_op op_fdiv (pe_ix ix_list (pv 0) (pe_int) (fun _ _ => rfl)) (pv 1)) (pg_sub (pv 0) (pe_int) set_list))
      (pss_one (ps_ret (pv 2))))) pss_nil)
      (pss_cons (ps_asg (pe_op op_add (pe_ix ix_list (pv 0) (pe_int) (fun _ _ => rfl)) (pe_int)) (pg_sub (pv 0) (pe_int) set_list))
      (pss_cons (ps_asg (pe_op op_add (pe_op op_mod (pe_op op_add (pe_op op_mul (pe_ix ix_list (pv 0) (pe_int) (fun _ _ => rfl)) (pe_int)) (pe_op op_mul (pe_int) (pe_ix ix_list (pv 0) (pe_int) (fun _ _ => rfl)))) (pe_int)) (pe_int)) (pg_sub (pv 0) (pe_int) set_list))
      (pss_one (ps_ret (pe_op op_mod (pe_op op_fdiv (pe_op op_mod (pe_op op_mul (pe_ix ix_list (pv 0) (pe_int) (fun _ _ => rfl)) (pe_op op_add (pe_op op_fdiv (pe_ix ix_list (pv 0) (pe_int) (fun _ _ => rfl)) (pe_int)) (pe_int))) (pe_int)) (pe_int)) (pv 1))))))), ?_⟩)
  · obtain ⟨G, W, b, m, _, _, rfl, _⟩ := h
    rfl
  · obtain ⟨G, W, b, m, w, hm, rfl, h0, h1, k⟩ := h
    obtain ⟨o, hb, x, y, z, rfl, hx, hy, hy2⟩ := w.get hm
    walk_at "zz"
    refine st_ixL (SqL.of hb) rfl ?_
    walk_at "zz"
    by_cases hx0 : 0 < x
    · rw [decide_eq_true hx0]
      refine iteT ?_
      walk_at "zz"
      refine st_ixL (SqL.of hb) rfl ?_
      walk_at "zz"
      refine st_ixL (SqL.of hb) rfl ?_
      walk_at "zz"
      refine st_setL hb rfl ?_
      walk_at "zz"
      refine k _ _ (Int.emod_nonneg _ (by omega)) (Int.emod_lt_of_pos _ h0) (w.put' hm ⟨_, _, _, rfl, Int.ediv_nonneg hx (by omega), hy, hy2⟩)
    · rw [decide_eq_false hx0]
      refine iteF ?_
      walk_at "zz"
      refine st_ixL (SqL.of hb) rfl ?_
      walk_at "zz"
      refine st_setL hb rfl ?_
      walk_at "zz"
      refine st_ixL (SqL.of upd_same) rfl ?_
      walk_at "zz"
      refine st_ixL (SqL.of upd_same) rfl ?_
      walk_at "zz"
      refine st_setL upd_same rfl ?_
      walk_at "zz"
      refine st_ixL (SqL.of upd_same) rfl ?_
      walk_at "zz"
      refine st_ixL (SqL.of upd_same) rfl ?_
      walk_at "zz"
      refine k _ _ (Int.emod_nonneg _ (by omega)) (Int.emod_lt_of_pos _ h0) ((w.put' hm ⟨_, _, _, rfl, hx, hy, hy2⟩).put' hm ⟨_, _, _, rfl, hx, ?_, ?_⟩) <;> omega
def sp_bag (K : PySem.W.Frag) : Sp := fun vs H Q _ => ∃ (G : Hp) (W : Wl) (a : Addr) (ns : List Int) (i : Int), Wd G W H ∧ vs = [.ref a, .int i] ∧ SqL K G a (ns.map V.int) ∧ 0 ≤ i ∧ i < 1000000 ∧ ∀ p H', Wd G ((p, BagI) :: W) H' → Q (.ref p) H'
theorem ok__law_bag (T : Txt K mg A) : FnOk P w K mg base CX0 1 A.f__law_bag A.fd__law_bag sP__law_bag (sp_bag K) := by
  refine okD T.F__law_bag sc__law_bag (fun vs H Q E h => ?_) (fun cdv Ar outer s H vs Q E hr h => ⟨_, (pss_cons (ps_set (i := 2) sc__law_bag.nd rfl (Or.inl rfl) (pe_int))
      (pss_cons (ps_if (pt_cmpR op_lt (pv 1) (pe_callB call_len_seq (by rfl) T.z_len PySem.boot_len (pa_cons (pv 0) pa_nil)) (nomark _)) (pss_one (ps_set (i := 2) sc__law_bag.nd rfl (Or.inl rfl) (pe_ix ix_list (pv 0) (pv 1) (fun _ _ => rfl)))) pss_nil)
      (pss_cons (ps_set (i := 3) sc__law_bag.nd rfl (Or.inl rfl) (pe_op op_mul (pe_callB call_abs (by rfl) T.z_abs (by decide +kernel) (pa_cons (pv 2) pa_nil)) (pe_callTy call_int1 (by rfl) T.z_int (by decide +kernel) (pa_cons (pe_cmpR op_ge (pe_callB call_abs (by rfl) T.z_abs (by decide +kernel) (pa_cons (pv 2) pa_nil)) (pe_op op_powW (pe_int) (pe_int)) (nomark _)) pa_nil))))
      (pss_one (ps_ret (pe_lst (pa_cons (pv 3) (pa_cons (pe_op op_add (pe_op op_mod (pe_op op_add (pe_op op_add (pe_op op_mul (pe_op op_mod (pv 2) (pe_int)) (pe_int)) (pe_op op_mul (pe_int) (pv 1))) (pe_int)) (pe_int)) (pe_int)) (pa_cons (pe_int) pa_nil))))))))), ?_⟩)
  · obtain ⟨G, W, a, ns, i, _, rfl, _⟩ := h
    rfl
  · obtain ⟨G, W, a, ns, i, w, rfl, ha, h0, h1, k⟩ := h
    walk_at "zz"
    refine ⟨_, _, rfl, .inl (by walk_at "up"), ?_⟩
    walk_at "zz"
    by_cases hi : i < ((ns.map V.int).length : Int)
    case' pos =>
      rw [decide_eq_true hi]
      refine iteT ?_
      walk_at "zz"
      obtain ⟨n, hn⟩ : ∃ n, ns[i.toNat]? = some n := ⟨_, List.getElem?_eq_getElem (by rw [List.length_map] at hi; omega)⟩
      refine st_ixL (v := .int n) (by walk_at "up") (by rw [show i = (i.toNat : Int) by omega]; exact atI_nat (by rw [List.getElem?_map, hn]; rfl)) ?_
    case' neg =>
      rw [decide_eq_false hi]
      refine iteF ?_
    all_goals
      walk_at "zz"
      refine ⟨_, rfl, ?_⟩
      walk_at "zz"
      refine ⟨_, rfl, ?_⟩
      walk_at "zz"
      refine .inr ⟨_, rfl, ?_⟩
      refine st_i (.inr (by split <;> omega)) ?_
      walk_at "zz"
      refine ⟨small (by simp), fun p hp => k p _ (w.newM hp ⟨_, _, _, rfl, ?_, ?_, ?_⟩)⟩
      · refine Int.mul_nonneg ?_ ?_
        · split <;> omega
        · split <;> omega
      all_goals omega

/-! ### what a token is -/
def sp_one (K : PySem.W.Frag) : Sp := fun vs H Q _ => ∃ (G : Hp) (W : Wl) (b a : Addr) (xs : List V), Wd G W H ∧ (b, BagI) ∈ W ∧ vs = [.ref b, .ref a] ∧ SqL K G a xs ∧ 0 < xs.length ∧ xs.length < 1000 ∧ ∀ v H', v ∈ xs → Wd G W H' → Q v H'
theorem ok__law_one (T : Txt K mg A) : FnOk P w K mg base CX0 2 A.f__law_one A.fd__law_one sP__law_one (sp_one K) := by
  refine okD T.F__law_one sc__law_one (fun vs H Q E h => ?_) (fun cdv Ar outer s H vs Q E hr h => ⟨_, (pss_one (ps_ret (pe_ix ix_list (pv 1) (pe_call (ok__law_take T) (hr.mono (by decide)) rfl T.m__law_take T.F__law_take.kp T.b__law_take .nil pass0 (pa_cons (pv 0) (pa_cons (pe_callB call_len_seq (by rfl) T.z_len PySem.boot_len (pa_cons (pv 1) pa_nil)) pa_nil))) (fun _ _ => rfl)))), ?_⟩)
  · obtain ⟨G, W, b, a, xs, _, _, rfl, _⟩ := h
    rfl
  · obtain ⟨G, W, b, a, xs, w, hm, rfl, ha, h0, h1, k⟩ := h
    walk_at "zz"
    refine ⟨_, _, rfl, .inl (by walk_at "up"), ?_⟩
    walk_at "zz"
    refine ⟨G, W, b, _, w, hm, rfl, by omega, by omega, fun r H1 hr0 hr1 w1 => ?_⟩
    obtain ⟨v, hv⟩ : ∃ v, xs[r.toNat]? = some v := ⟨_, List.getElem?_eq_getElem (by omega)⟩
    refine st_ixL (v := v) (by walk_at "up") (by rw [show r = (r.toNat : Int) by omega]; exact atI_nat hv) ?_
    exact k v H1 (List.mem_of_getElem? hv) w1

def tokB : PyData → Bool
  | .tuple [a, b] => inR 3 258 a && inR 1 32768 b
  | d => inR 0 255 d
def sp_is_token (K : PySem.W.Frag) : Sp := fun vs H Q _ => ∃ x d, vs = [x] ∧ Dp K H x d ∧ Q (.bl (tokB d)) H
theorem inR_seq {lo hi : Int} {d : PyData} (h : isTup d = true) : inR lo hi d = false := by
  cases d with
  | tuple _ => rfl
  | _ => exact nomatch h
theorem tok_no {d : PyData} (h1 : inR 0 255 d = false) (h2 : isTup d = false) : tokB d = false := by
  cases d with
  | tuple _ => exact nomatch h2
  | _ => exact h1
theorem tok_len {ds : List PyData} (h : ds.length ≠ 2) : tokB (.tuple ds) = false := by
  match ds, h with
  | [], _ => rfl
  | [_], _ => rfl
  | [_, _], h => exact absurd rfl h
  | _ :: _ :: _ :: _, _ => rfl
theorem dpAll_len {H : Hp} : ∀ {xs : List V} {ds : List PyData}, DpAll K H xs ds → xs.length = ds.length
  | _, _, .nil => rfl
  | _, _, .cons _ t => by rw [List.length_cons, List.length_cons, dpAll_len t]
theorem two_of {H : Hp} {xs : List V} {ds : List PyData} (h : DpAll K H xs ds) (hl : ds.length = 2) : ∃ x1 x2 d1 d2, xs = [x1, x2] ∧ ds = [d1, d2] ∧ Dp K H x1 d1 ∧ Dp K H x2 d2 := by
  cases h with
  | nil => exact nomatch hl
  | cons a h =>
    cases h with
    | nil => exact nomatch hl
    | cons b h =>
      cases h with
      | nil => exact ⟨_, _, _, _, rfl, rfl, a, b⟩
      | cons c h =>
        rw [List.length_cons, List.length_cons, List.length_cons] at hl
        omega
theorem ok_is_token (T : Txt K mg A) : FnOk P w K mg base CX0 4 A.f_is_token A.fd_is_token sP_is_token (sp_is_token K) := by
  refine okD T.F_is_token sc_is_token (fun vs H Q E h => ?_) (fun cdv Ar outer s H vs Q E hr h => ⟨_, (pss_cons (ps_if (pt_val (pe_call (ok_is_byte T) (hr.mono (by decide)) rfl T.m_is_byte T.F_is_byte.kp T.b_is_byte .nil pass0 (pa_cons (pv 0) pa_nil))) (pss_one (ps_ret (pe_bl))) pss_nil)
      (pss_cons (ps_if (PW.pt (pw_or (pt_not (pt_val (pe_callB call_isi (by rfl) T.z_isinstance (by decide +kernel) (pa_cons (pv 0) (pa_cons (pe_bltn (v := .ty "tuple") (u := .type "tuple") (by rfl) T.z_tuple (by decide +kernel) rfl) pa_nil))))) (pw_or1 (pt_cmpR op_ne (pe_callB call_len_seq (by rfl) T.z_len PySem.boot_len (pa_cons (pv 0) pa_nil)) (pe_int) (nomark _))))) (pss_one (ps_ret (pe_bl))) pss_nil)
      (pss_one (ps_ret ((pe_and (pe_call (ok_in_range T) (hr.mono (by decide)) rfl T.m_in_range T.F_in_range.kp T.b_in_range .nil pass0 (pa_cons (pe_ix ix_tup (pv 0) (pe_int) (fun _ _ => rfl)) (pa_cons (pe_glob (v := .int 3) rfl T.m_LEAST_LENGTH ⟨_, rfl⟩) (pa_cons (pe_glob (v := .int 258) rfl T.m_MOST_LENGTH ⟨_, rfl⟩) pa_nil)))) (pe_one (pe_call (ok_in_range T) (hr.mono (by decide)) rfl T.m_in_range T.F_in_range.kp T.b_in_range .nil pass0 (pa_cons (pe_ix ix_tup (pv 0) (pe_int) (fun _ _ => rfl)) (pa_cons (pe_int) (pa_cons (pe_glob (v := .int 32768) rfl T.m_MOST_DISTANCE ⟨_, rfl⟩) pa_nil))))))))))), ?_⟩)
  · obtain ⟨x, d, rfl, _⟩ := h
    rfl
  · obtain ⟨x, d, rfl, hd, k⟩ := h
    walk_at "zz"
    refine ⟨x, rfl, dp_knd hd, ?_⟩
    rw [inRange_d hd]
    cases h1 : inR 0 255 d with
    | true =>
      have e : tokB d = true := by
        cases d with
        | int i => exact h1
        | _ => exact nomatch h1
      rw [e] at k
      walk_at "zz"
      exact k
    | false =>
      walk_at "zz"
      refine isiD hd kit_tup ⟨_, rfl, ?_⟩
      cases h2 : isTup d with
      | false =>
        rw [tok_no h1 h2] at k
        walk_at "zz"
        exact k
      | true =>
        cases hd with
        | tup hs hall =>
          rename_i a xs ds
          walk_at "zz"
          refine ⟨_, _, rfl, .inr hs, ?_⟩
          walk_at "zz"
          by_cases hl : ds.length = 2
          · obtain ⟨x1, x2, d1, d2, rfl, rfl, y1, y2⟩ := two_of hall hl
            · walk_at "zz"
              rw [show decide (V.int (([x1, x2] : List V).length : Int) = V.int 2) = true by rfl]
              walk_at "zz"
              refine st_ixT (v := x1) hs rfl ?_
              walk_at "zz"
              refine ⟨x1, _, _, rfl, dp_knd y1, ?_⟩
              rw [inRange_d y1]
              have e : tokB (.tuple [d1, d2]) = (inR 3 258 d1 && inR 1 32768 d2) := rfl
              rw [e] at k
              cases h3 : inR 3 258 d1 with
              | false =>
                rw [h3] at k
                walk_at "zz"
                exact k
              | true =>
                rw [h3] at k
                walk_at "zz"
                refine st_ixT (v := x2) hs rfl ?_
                walk_at "zz"
                refine ⟨x2, _, _, rfl, dp_knd y2, ?_⟩
                rw [inRange_d y2]
                exact k
          · rw [tok_len hl] at k
            rw [decide_eq_false (show ¬ V.int (xs.length : Int) = V.int 2 from fun e => hl (by injection e with e; rw [dpAll_len hall] at e; omega))]
            walk_at "zz"
            exact k
        | _ => exact nomatch h2

def sp_whole (K : PySem.W.Frag) : Sp := fun vs H Q _ => ∃ x, vs = [x] ∧ Knd K H x ∧ Q (.bl (isInt x)) H
theorem ok__law_whole (T : Txt K mg A) : FnOk P w K mg base CX0 1 A.f__law_whole A.fd__law_whole sP__law_whole (sp_whole K) := by
  refine okD T.F__law_whole sc__law_whole (fun vs H Q E h => ?_) (fun cdv Ar outer s H vs Q E hr h => ⟨_, (pss_one (ps_ret ((pe_and (pe_callB call_isi (by rfl) T.z_isinstance (by decide +kernel) (pa_cons (pv 0) (pa_cons (pe_bltn (v := .ty "int") (u := .type "int") (by rfl) T.z_int (by decide +kernel) rfl) pa_nil))) (pe_one (pe_not (pe_callB call_isi (by rfl) T.z_isinstance (by decide +kernel) (pa_cons (pv 0) (pa_cons (pe_bltn (v := .ty "bool") (u := .type "bool") (by rfl) T.z_bool (by decide +kernel) rfl) pa_nil))))))))), ?_⟩)
  · obtain ⟨x, rfl, _⟩ := h
    rfl
  · obtain ⟨x, rfl, hk, k⟩ := h
    obtain ⟨n, b1, b2, ty, e1, e2, e⟩ := hk.ty
    rw [e] at k
    repeat walk_at "z"
    refine ⟨_, _, _, _, b1, rfl, .ty _, ty, kit_ty e1, _, rfl, ?_⟩
    cases b1 with
    | false => 
      walk_at "zz"
      exact k
    | true =>
      walk_at "zz"
      exact ⟨_, _, _, _, b2, rfl, .ty _, ty, kit_ty e2, _, rfl, k⟩

/-! ### tokens -/
def sp_check_tokens (K : PySem.W.Frag) : Sp := fun vs H Q _ => ∃ (G : Hp) (W : Wl) (x : V) (a : Addr) (xs : List V), Wd G W H ∧ vs = [.ref a] ∧ (SqL K G a xs ∨ SqT K G a xs) ∧ (∀ y ∈ xs, ∃ d, Dp K G y d ∧ tokB d = true) ∧ ∀ G' H', Same G G' → Wd G' W H' → Q .non H'
theorem ok_check_tokens (T : Txt K mg A) : FnOk P w K mg base CX0 5 A.f_check_tokens A.fd_check_tokens sP_check_tokens (sp_check_tokens K) := by
  refine okD T.F_check_tokens sc_check_tokens (fun vs H Q E h => ?_) (fun cdv Ar outer s H vs Q E hr h => ⟨_, (pss_cons (ps_if (pt_not (pt_val (pe_callB call_isiT (by rfl) T.z_isinstance (by decide +kernel) (pa_cons (pv 0) (pa_cons (pe_tup (pa_cons (pe_bltn (v := .ty "list") (u := .type "list") (by rfl) T.z_list (by decide +kernel) rfl) (pa_cons (pe_bltn (v := .ty "tuple") (u := .type "tuple") (by rfl) T.z_tuple (by decide +kernel) rfl) pa_nil))) pa_nil))))) (pss_one (ps_never)) pss_nil)
      (pss_one (ps_for PassesOwn.never rfl (pi_enumA (by rfl) T.z_enumerate (pa_cons (pv 0) pa_nil)) (pg_tup rfl (pgs_cons (pg_name (i := 1) sc_check_tokens.nd rfl (Or.inl rfl)) (pgs_cons (pg_name (i := 2) sc_check_tokens.nd rfl (Or.inl rfl)) pgs_nil))) (pss_one (ps_if (pt_not (pt_val (pe_call (ok_is_token T) (hr.mono (by decide)) rfl T.m_is_token T.F_is_token.kp T.b_is_token .nil pass0 (pa_cons (pv 2) pa_nil)))) (pss_one (ps_never)) pss_nil))))), ?_⟩)
  · obtain ⟨G, W, x, a, xs, _, rfl, _⟩ := h
    rfl
  · obtain ⟨G, W, x, a, xs, w, rfl, ha, hx, k⟩ := h
    walk_at "zz"
    refine ⟨by decide, NewO.good w fun p G1 H1 e1 w1 hp => ?_⟩
    walk_at "zz"
    refine isiSeq (w1.at hp) (ha.elim (fun h => .inl (by walk_at "up")) fun h => .inr (by walk_at "up")) ?_
    walk_at "zz"
    refine for_enumA (i1 := 1) (i2 := 2) (ha.elim (fun h => .inl (e1.seq h)) fun h => .inr (seqT e1 h)) (fun i σ G' W' => W' = W ∧ ∃ x y, σ = [some (.ref a), x, y]) w1 ⟨rfl, _, _, rfl⟩ ?_ ?_
    · rintro i y σ' G2 G3 W' H3 hy e2 ⟨rfl, x1, x2, rfl⟩ e3 w3
      obtain ⟨d, hd, ht⟩ := hx y (List.mem_of_getElem? hy)
      walk_at "zz"
      refine ⟨y, d, rfl, dUp w3 (dmono ((e1.trans e2).trans e3) hd), ?_⟩
      rw [ht]
      walk_at "zz"
      exact st_btw (by walk_at "sm") w3 ⟨rfl, _, _, rfl⟩
    · rintro σ' G2 W' H3 e2 w2 ⟨rfl, x1, x2, rfl⟩
      walk_at "zz"
      exact k G2 H3 (by walk_at "sm") w2
def cp (m : Nat) (row : List Int) : Nat → List Int
  | 0 => row
  | i + 1 => cp m row i ++ [(cp m row i).getD ((cp m row i).length - m) 0]
theorem cp_len (m : Nat) (row : List Int) : ∀ i, (cp m row i).length = row.length + i
  | 0 => rfl
  | i + 1 => by
    unfold cp
    rw [List.length_append, cp_len m row i]
    rfl
def tkrow (d : PyData) (row : List Int) : List Int := match d with
  | .int i => row ++ [i]
  | .tuple [.int l, .int m] => cp m.toNat row l.toNat
  | _ => row
def farB (d : PyData) (row : List Int) : Bool := match d with
  | .tuple [.int _, .int m] => decide ((row.length : Int) < m)
  | _ => false
/-- a token in its bounds -/
def TokB (d : PyData) : Prop := (∃ i, d = .int i ∧ 0 ≤ i ∧ i ≤ 255) ∨ ∃ l m, d = .tuple [.int l, .int m] ∧ 3 ≤ l ∧ l ≤ 258 ∧ 1 ≤ m ∧ m ≤ 32768
theorem TokB.of {d : PyData} (h : tokB d = true) : TokB d := by
  cases d with
  | int i =>
    have h2 : (decide (0 ≤ i) && decide (i ≤ 255)) = true := h
    simp only [Bool.and_eq_true, decide_eq_true_eq] at h2
    exact .inl ⟨i, rfl, h2⟩
  | tuple ds =>
    match ds, h with
    | [], h => exact nomatch h
    | [_], h => exact nomatch h
    | _ :: _ :: _ :: _, h => exact nomatch h
    | [a, b], h =>
      have h1 : (inR 3 258 a && inR 1 32768 b) = true := h
      rw [Bool.and_eq_true] at h1
      obtain ⟨ha, hb⟩ := h1
      cases a with
      | int l =>
        cases b with
        | int m =>
          have ha2 : (decide (3 ≤ l) && decide (l ≤ 258)) = true := ha
          have hb2 : (decide (1 ≤ m) && decide (m ≤ 32768)) = true := hb
          simp only [Bool.and_eq_true, decide_eq_true_eq] at ha2 hb2
          exact .inr ⟨l, m, rfl, ha2.1, ha2.2, hb2.1, hb2.2⟩
        | _ => exact nomatch hb
      | _ => exact nomatch ha
  | _ => exact nomatch h
theorem atI_neg {ns : List Int} {m : Int} (h0 : 0 < m) (h1 : m ≤ ns.length) : atI (ns.map V.int) (-m) = some (.int (ns.getD (ns.length - m.toNat) 0)) := by
  have e : ixN (ns.map V.int).length (-m) = some (ns.length - m.toNat) := by
    rw [List.length_map]
    unfold ixN
    rw [if_neg (by omega), if_pos (by omega)]
    congr 1
    omega
  unfold atI
  rw [e, Option.bind_some, List.getElem?_map, List.getD_eq_getElem?_getD]
  have hlt : ns.length - m.toNat < ns.length := by omega
  rw [List.getElem?_eq_getElem hlt]
  rfl
def sp_copy (K : PySem.W.Frag) : Sp := fun vs H Q _ => ∃ (G : Hp) (W : Wl) (r : Addr) (row : List Int) (x : V) (d : PyData), Wd G ((r, Is (.lst (row.map V.int))) :: W) H ∧ vs = [.ref r, x] ∧ Dp K G x d ∧ TokB d ∧ farB d row = false ∧ row.length ≤ 100000 ∧
  ∀ G' H', Same G G' → Wd G' ((r, Is (.lst ((tkrow d row).map V.int))) :: W) H' → Q .non H'
theorem ok_copy_into (T : Txt K mg A) : FnOk P w K mg base CX0 1 A.f_copy_into A.fd_copy_into sP_copy_into (sp_copy K) := by
  refine okD T.F_copy_into sc_copy_into (fun vs H Q E h => ?_) (fun cdv Ar outer s H vs Q E hr h => ⟨_, (pss_cons (ps_if (pt_val (pe_callB call_isi (by rfl) T.z_isinstance (by decide +kernel) (pa_cons (pv 1) (pa_cons (pe_bltn (v := .ty "int") (u := .type "int") (by rfl) T.z_int (by decide +kernel) rfl) pa_nil)))) (pss_cons (ps_expr (pe_bm PySem.F.plainAttrs_list PySem.F.slot_list_append PySem.F.type_list_append mt_append (pv 0) (pa_cons (pv 1) pa_nil)))
      (pss_one (ps_retN))) pss_nil)
      (pss_cons (ps_asg (pv 1) (pg_tup rfl (pgs_cons (pg_name (i := 2) sc_copy_into.nd rfl (Or.inl rfl)) (pgs_cons (pg_name (i := 3) sc_copy_into.nd rfl (Or.inl rfl)) pgs_nil))))
      (pss_one (ps_for PassesOwn.never rfl (pi_range1 (by rfl) T.z_range (pa_cons (pv 2) pa_nil)) (pg_name (i := 4) sc_copy_into.nd rfl (Or.inl rfl)) (pss_one (ps_expr (pe_bm PySem.F.plainAttrs_list PySem.F.slot_list_append PySem.F.type_list_append mt_append (pv 0) (pa_cons (pe_ix ix_list (pv 0) (pe_un un_neg (pv 3)) (fun _ _ => rfl)) pa_nil)))))))), ?_⟩)
  · obtain ⟨G, W, r, row, x, d, _, rfl, _⟩ := h
    rfl
  · obtain ⟨G, W, r, row, x, d, w, rfl, hd, ht, hf, hl, k⟩ := h
    walk_at "zz"
    rcases ht with ⟨i, rfl, hi⟩ | ⟨l, m, rfl, hl0, hl1, hm0, hm1⟩
    · cases hd
      refine isiD (.int i) (b := true) (show kitB "int" "int" = some true by decide +kernel) ⟨_, rfl, ?_⟩
      walk_at "zz"
      refine ⟨tyL' (Wd.is1 w), ?_⟩
      walk_at "zz"
      refine st_appL (Wd.is1 w) (by rw [List.length_map]; omega) ?_
      walk_at "zz"
      rw [show row.map V.int ++ [V.int i] = (row ++ [i]).map V.int by simp]
      exact k G _ (Same.refl _) w.put1
    · cases hd with
      | tup hs hall =>
        obtain ⟨x1, x2, d1, d2, rfl, e2, y1, y2⟩ := two_of hall rfl
        cases e2
        cases y1
        cases y2
        rename_i t
        refine isiD (.tup (tup_up w hs) (.cons (.int l) (.cons (.int m) .nil))) (b := false) (show kitB "tuple" "int" = some false by decide +kernel) ⟨_, rfl, ?_⟩
        walk_at "zz"
        refine st_gtup (tup_up w hs) rfl ?_
        walk_at "zz"
        have hm : m ≤ row.length := by
          have h2 : decide ((row.length : Int) < m) = false := hf
          have := of_decide_eq_false h2
          omega
        refine for_r1 (by omega) (fun i σ G' W' => W' = (r, Is (.lst ((cp m.toNat row i).map V.int))) :: W ∧ ∃ x4, σ = [some (.ref r), some (.ref t), some (.int l), some (.int m), x4]) w ⟨rfl, _, rfl⟩ ?_ ?_
        · rintro i σ' G1 W1 H1 hi e1 w1 ⟨rfl, x4, rfl⟩
          have hc := cp_len m.toNat row i
          walk_at "zz"
          refine ⟨tyL' (Wd.is1 w1), ?_⟩
          walk_at "zz"
          refine st_ixL (SqL.of (Wd.is1 w1)) (atI_neg (by omega) (by omega)) ?_
          walk_at "zz"
          refine st_appL (Wd.is1 w1) (by rw [List.length_map]; omega) ?_
          refine st_btw (by walk_at "sm") w1.put1 ⟨?_, _, rfl⟩
          rw [show (cp m.toNat row (i + 1)) = cp m.toNat row i ++ [(cp m.toNat row i).getD ((cp m.toNat row i).length - m.toNat) 0] from rfl, List.map_append]
          rfl
        · rintro σ' G1 W1 H1 e1 w1 ⟨rfl, x4, rfl⟩
          walk_at "zz"
          exact k G1 H1 (by walk_at "sm") w1
/-- the row behind the first i tokens -/
def rowAt (ds : List PyData) (row : List Int) (i : Nat) : List Int := (ds.take i).foldl (fun r d => tkrow d r) row
theorem rowAt_succ {ds : List PyData} {row : List Int} {i : Nat} {d : PyData} (h : ds[i]? = some d) : rowAt ds row (i + 1) = tkrow d (rowAt ds row i) := by
  unfold rowAt
  rw [List.take_add_one, h]
  simp
theorem tkrow_len {d : PyData} {row : List Int} (h : TokB d) : (tkrow d row).length ≤ row.length + 258 ∧ row.length ≤ (tkrow d row).length := by
  rcases h with ⟨i, rfl, _⟩ | ⟨l, m, rfl, hl⟩
  · show (row ++ [i]).length ≤ _ ∧ _ ≤ (row ++ [i]).length
    simp
  · show (cp m.toNat row l.toNat).length ≤ _ ∧ _ ≤ (cp m.toNat row l.toNat).length
    rw [cp_len]
    omega
theorem rowAt_len {ds : List PyData} {row : List Int} (h : ∀ d ∈ ds, TokB d) : ∀ i, (rowAt ds row i).length ≤ row.length + 258 * i ∧ row.length ≤ (rowAt ds row i).length
  | 0 => ⟨Nat.le_refl _, Nat.le_refl _⟩
  | i + 1 => by
    have ih := rowAt_len (row := row) h i
    cases e : ds[i]? with
    | some d =>
      rw [rowAt_succ e]
      have := tkrow_len (row := rowAt ds row i) (h d (List.mem_of_getElem? e))
      omega
    | none =>
      have e2 : rowAt ds row (i + 1) = rowAt ds row i := by
        unfold rowAt
        rw [List.take_add_one, e]
        simp
      rw [e2]
      omega
theorem dpAll_get {H : Hp} : ∀ {xs : List V} {ds : List PyData} {i : Nat} {x : V}, DpAll K H xs ds → xs[i]? = some x → ∃ d, ds[i]? = some d ∧ Dp K H x d
  | _, _, 0, _, .cons a _, h => by
    cases h
    exact ⟨_, rfl, a⟩
  | _, _, i + 1, _, .cons _ t, h => dpAll_get (i := i) t h
theorem dpAll_up {G G' : Hp} (e : Same G G') : ∀ {xs : List V} {ds : List PyData}, DpAll K G xs ds → DpAll K G' xs ds
  | _, _, .nil => .nil
  | _, _, .cons a t => .cons (dmono e a) (dpAll_up e t)
theorem st_slLO {G H : Hp} {W : Wl} {Q : VK} {a : Addr} {xs : List V} {lo hi : Option Int} (h : SqL K H a xs) (w : Wd G W H) (q : ∀ p H', Wd G ((p, Is (.lst (cutV xs lo hi))) :: W) H' → Q (.ref p) H') : rSlL K (.ref a) lo hi H Q := ⟨a, xs, rfl, h, NewO.own w q⟩
def sp_expand (K : PySem.W.Frag) : Sp := fun vs H Q _ => ∃ (G : Hp) (W : Wl) (a b : Addr) (xs : List V) (ds : List PyData) (row : List Int), Wd G W H ∧ vs = [.ref a, .ref b] ∧ SqL K G a xs ∧ DpAll K G xs ds ∧ (∀ d ∈ ds, tokB d = true) ∧ (SqL K G b (row.map V.int) ∨ SqT K G b (row.map V.int)) ∧ Byt row ∧ xs.length ≤ 300 ∧ row.length ≤ 1000 ∧
  (∀ i d, ds[i]? = some d → farB d (rowAt ds row i) = false) ∧ ∀ q G' H', Same G G' → Wd G' W H' → HL G' q ((rowAt ds row ds.length).drop row.length) → Q (.ref q) H'
theorem ok_expand (T : Txt K mg A) : FnOk P w K mg base CX0 6 A.f_expand A.fd_expand sP_expand (sp_expand K) := by
  refine okD T.F_expand sc_expand (fun vs H Q E h => ?_) (fun cdv Ar outer s H vs Q E hr h => ⟨_, (pss_cons (ps_expr (pe_call (ok_check_tokens T) (hr.mono (by decide)) rfl T.m_check_tokens T.F_check_tokens.kp T.b_check_tokens .nil pass0 (pa_cons (pv 0) pa_nil)))
      (pss_cons (ps_set (i := 2) sc_expand.nd rfl (Or.inl rfl) (pe_call (ok_checked_data T) (hr.mono (by decide)) rfl T.m_checked_data T.F_checked_data.kp T.b_checked_data .nil pass0 (pa_cons (pv 1) pa_nil)))
      (pss_cons (ps_set (i := 3) sc_expand.nd rfl (Or.inl rfl) (pe_callB call_len_seq (by rfl) T.z_len PySem.boot_len (pa_cons (pv 2) pa_nil)))
      (pss_cons (ps_for PassesOwn.never rfl (pi_enumA (by rfl) T.z_enumerate (pa_cons (pv 0) pa_nil)) (pg_tup rfl (pgs_cons (pg_name (i := 4) sc_expand.nd rfl (Or.inl rfl)) (pgs_cons (pg_name (i := 5) sc_expand.nd rfl (Or.inl rfl)) pgs_nil))) (pss_cons (ps_if (PW.pt (pw_and (pt_not (pt_val (pe_callB call_isi (by rfl) T.z_isinstance (by decide +kernel) (pa_cons (pv 5) (pa_cons (pe_bltn (v := .ty "int") (u := .type "int") (by rfl) T.z_int (by decide +kernel) rfl) pa_nil))))) (pw_and1 (pt_cmpR op_gt (pe_ix ix_tup (pv 5) (pe_int) (fun _ _ => rfl)) (pe_callB call_len_seq (by rfl) T.z_len PySem.boot_len (pa_cons (pv 2) pa_nil)) (nomark _))))) (pss_one (ps_never)) pss_nil)
      (pss_one (ps_expr (pe_call (ok_copy_into T) (hr.mono (by decide)) rfl T.m_copy_into T.F_copy_into.kp T.b_copy_into .nil pass0 (pa_cons (pv 2) (pa_cons (pv 5) pa_nil)))))))
      (pss_one (ps_ret (pe_slice sl_list (pv 2) (po_some (pv 3)) po_none))))))), ?_⟩)
  · obtain ⟨G, W, a, b, xs, ds, row, _, rfl, _⟩ := h
    rfl
  · obtain ⟨G, W, a, b, xs, ds, row, w, rfl, ha, hx, ht, hb, hbyt, hl, hr2, hfar, k⟩ := h
    have hB : ∀ d ∈ ds, TokB d := fun d hd => TokB.of (ht d hd)
    walk_at "zt"
    refine ⟨G, W, .non, a, xs, w, rfl, .inl ha, fun y hy => ?_, fun G1 H1 e1 w1 => ?_⟩
    · obtain ⟨i, hi⟩ := List.mem_iff_getElem?.mp hy
      obtain ⟨d, h1, h2⟩ := dpAll_get hx hi
      exact ⟨d, h2, ht d (List.mem_of_getElem? h1)⟩
    walk_at "zt"
    refine ⟨G1, W, b, row, w1, rfl, hb.imp (fun h => e1.seq h) (fun h => seqT e1 h), hbyt, by omega, fun p2 G2 H2 e2 w2 => ?_⟩
    walk_at "zt"
    refine ⟨p2, _, rfl, .inl (SqL.of (Wd.is1 w2)), ?_⟩
    walk_at "zt"
    rw [List.length_map]
    have e02 := e1.trans e2
    refine for_enumA (i1 := 4) (i2 := 5) (.inl (e02.seq ha)) (fun i σ G' W' => W' = (p2, Is (.lst ((rowAt ds row i).map V.int))) :: W ∧ ∃ x4 x5, σ = [some (.ref a), some (.ref b), some (.ref p2), some (.int row.length), x4, x5]) w2 ⟨rfl, _, _, rfl⟩ ?_ ?_
    · rintro i y σ' G3 G4 W' H3 hy e3 ⟨rfl, x4, x5, rfl⟩ e4 w4
      obtain ⟨d, hdi, hd0⟩ := dpAll_get hx hy
      have e04 := (e02.trans e3).trans e4
      have hd : Dp K H3 y d := dUp w4 (dmono e04 hd0)
      have hTb := hB d (List.mem_of_getElem? hdi)
      have hrl := rowAt_len (row := row) hB i
      have hfd := hfar i d hdi
      have hix : i < xs.length := (List.getElem?_eq_some_iff.mp hy).1
      walk_at "zt"
      rcases hTb with ⟨i0, rfl, hi0⟩ | ⟨l, m, rfl, hl0, hl1, hm0, hm1⟩
      · cases hd
        refine isiD (.int i0) (b := true) (show kitB "int" "int" = some true by decide +kernel) ?_
        walk_at "zt"
        refine ⟨G4, W, p2, rowAt ds row i, .int i0, .int i0, w4, rfl, .int i0, .inl ⟨i0, rfl, hi0⟩, rfl, by omega, fun G5 H5 e5 w5 => ?_⟩
        walk_at "zt"
        rw [← rowAt_succ hdi] at w5
        exact st_btw ((e3.trans e4).trans e5) w5 ⟨rfl, _, _, rfl⟩
      · have hd4 : Dp K G4 y _ := dmono e04 hd0
        cases hd4 with
        | tup hs hall =>
          obtain ⟨x1, x2, d1, d2, rfl, e9, y1, y2⟩ := two_of hall rfl
          cases e9
          cases y1
          cases y2
          rename_i t
          refine isiD (.tup (tup_up w4 hs) (.cons (.int l) (.cons (.int m) .nil))) (b := false) (show kitB "tuple" "int" = some false by decide +kernel) ?_
          walk_at "zt"
          refine st_ixT (v := .int m) (tup_up w4 hs) rfl ?_
          walk_at "zt"
          refine ⟨p2, _, rfl, .inl (SqL.of (Wd.is1 w4)), ?_⟩
          walk_at "zt"
          rw [List.length_map]
          have hf2 : decide (((rowAt ds row i).length : Int) < m) = false := hfd
          rw [hf2]
          walk_at "zt"
          refine ⟨G4, W, p2, rowAt ds row i, .ref t, .tuple [.int l, .int m], w4, rfl, .tup hs (.cons (.int l) (.cons (.int m) .nil)), .inr ⟨l, m, rfl, hl0, hl1, hm0, hm1⟩, hfd, by omega, fun G5 H5 e5 w5 => ?_⟩
          walk_at "zt"
          rw [← rowAt_succ hdi] at w5
          exact st_btw ((e3.trans e4).trans e5) w5 ⟨rfl, _, _, rfl⟩
    · rintro σ' G3 W' H3 e3 w3 ⟨rfl, x4, x5, rfl⟩
      have hxl : xs.length = ds.length := dpAll_len hx
      walk_at "zt"
      have hrl := rowAt_len (row := row) hB xs.length
      refine ⟨_, rfl, ?_⟩
      walk_at "zt"
      refine st_slL (SqL.of (Wd.is1 w3)) w3 fun q G4 H4 e4 w4 h4 => ?_
      rw [cut_hi (by omega) (by rw [List.length_map]; omega)] at h4
      refine k q G4 H4 (e02.trans (e3.trans e4)) w4.drop1 ?_
      show _ = _
      rw [h4, ← List.map_drop, hxl]
      rfl

/-! ### symbols -/
def cnt (ns : List Int) (v : Int) : Int := ((ns.filter fun x => decide (x ≤ v)).length : Int) - 1
theorem flt_succ {ns : List Int} {i : Nat} {n v : Int} (h : ns[i]? = some n) : (ns.take (i + 1)).filter (fun x => decide (x ≤ v)) = if n ≤ v then (ns.take i).filter (fun x => decide (x ≤ v)) ++ [n] else (ns.take i).filter (fun x => decide (x ≤ v)) := by
  rw [List.take_add_one, h, List.filter_append]
  split <;> simp [*]
theorem cnt_lt (ns : List Int) (v : Int) : cnt ns v < ns.length := by
  have := List.length_filter_le (fun x => decide (x ≤ v)) ns
  unfold cnt
  omega
theorem cnt_ge {ns : List Int} {v n : Int} (h : n ∈ ns) (h2 : n ≤ v) : 0 ≤ cnt ns v := by
  have h3 : n ∈ ns.filter fun x => decide (x ≤ v) := List.mem_filter.mpr ⟨h, decide_eq_true h2⟩
  have := List.length_pos_of_mem h3
  unfold cnt
  omega
theorem atI_getD {ns : List Int} {i : Int} (h0 : 0 ≤ i) (h1 : i < ns.length) : atI (ns.map V.int) i = some (.int (ns.getD i.toNat 0)) := by
  obtain ⟨n, h2, _, h3⟩ := atI_map h0 h1
  rw [h2, List.getD_eq_getElem?_getD, h3]
  rfl
def sp_place (K : PySem.W.Frag) : Sp := fun vs H Q _ => ∃ (G : Hp) (W : Wl) (a : Addr) (ns : List Int) (v : Int), Wd G W H ∧ vs = [.ref a, .int v] ∧ SqT K G a (ns.map V.int) ∧ ns.length ≤ 1000 ∧ ∀ G' H', Same G G' → Wd G' W H' → Q (.int (cnt ns v)) H'
theorem ok_place_in (T : Txt K mg A) : FnOk P w K mg base CX0 1 A.f_place_in A.fd_place_in sP_place_in (sp_place K) := by
  refine okD T.F_place_in sc_place_in (fun vs H Q E h => ?_) (fun cdv Ar outer s H vs Q E hr h => ⟨_, (pss_one (ps_ret (pe_op op_sub (pe_callB call_len_seq (by rfl) T.z_len PySem.boot_len (pa_cons (pe_lc (own := [("first", 2)]) (g := gName 2) rfl sc_place_in.nd (pi_tup (pv 0)) (blkOk_by (own := [("first", 2)]) (N := sN_place_in) (sc := defScope s_place_in) (by decide +kernel)) (fun _ _ _ _ _ => pg_name (i := 2) sc_place_in.nd rfl (Or.inl rfl)) (fun _ _ _ _ _ => (pts_one (pt_cmpR op_le (pv 2) (pv 1) (nomark _)))) (fun _ _ _ _ _ => (pv 2))) pa_nil)) (pe_int)))), ?_⟩)
  · obtain ⟨G, W, a, ns, v, _, rfl, _⟩ := h
    rfl
  · obtain ⟨G, W, a, ns, v, w, rfl, ha, hl, k⟩ := h
    walk_at "zz"
    refine lc_t ha (fun i acc _ => acc = ((ns.take i).filter fun x => decide (x ≤ v)).map V.int) w rfl (fun _ => rfl) ?_ ?_
    · rintro i x D G1 H1 acc hx e1 w1 rfl
      obtain ⟨n, hn, rfl⟩ : ∃ n, ns[i]? = some n ∧ V.int n = x := by
        rw [List.getElem?_map] at hx
        cases e : ns[i]? with
        | none => rw [e] at hx; exact nomatch hx
        | some n => rw [e] at hx; exact ⟨n, rfl, Option.some.inj hx⟩
      have hf := List.length_filter_le (fun x => decide (x ≤ v)) (ns.take i)
      rw [List.length_take] at hf
      walk_at "zz"
      by_cases h : n ≤ v
      · rw [decide_eq_true h]
        walk_at "zz"
        refine lc_put w1 e1 (by rw [List.length_map]; omega) ?_
        rw [flt_succ hn, if_pos h, List.map_append]
        rfl
      · rw [decide_eq_false h]
        walk_at "zz"
        exact lc_skip w1 e1 (by rw [flt_succ hn, if_neg h])
    · rintro D G1 H1 acc e1 w1 rfl
      walk_at "zz"
      refine ⟨D, _, rfl, .inl (SqL.of (Wd.is1 w1)), ?_⟩
      walk_at "zz"
      rw [List.length_map, List.length_map, List.take_length]
      exact k G1 H1 e1 (Wd.drop1 w1)
def lsy3 (v : Int) : List Int := [257 + cnt kc_LENGTHS v, kc_LENGTH_EXTRAS.getD (cnt kc_LENGTHS v).toNat 0, v - kc_LENGTHS.getD (cnt kc_LENGTHS v).toNat 0]
def dsy3 (v : Int) : List Int := [cnt kc_DISTANCES v, kc_DISTANCE_EXTRAS.getD (cnt kc_DISTANCES v).toNat 0, v - kc_DISTANCES.getD (cnt kc_DISTANCES v).toNat 0]
def sp_lsym : Sp := fun vs H Q _ => ∃ (G : Hp) (W : Wl) (v : Int), Wd G W H ∧ vs = [.int v] ∧ 3 ≤ v ∧ ∀ p G' H', Same G G' → Wd G' W H' → G' p = some (.tup ((lsy3 v).map V.int)) → Q (.ref p) H'
theorem ok_length_symbol (T : Txt K mg A) : FnOk P w K mg base CX0 2 A.f_length_symbol A.fd_length_symbol sP_length_symbol sp_lsym := by
  refine okD T.F_length_symbol sc_length_symbol (fun vs H Q E h => ?_) (fun cdv Ar outer s H vs Q E hr h => ⟨_, (pss_cons (ps_set (i := 1) sc_length_symbol.nd rfl (Or.inl rfl) (pe_call (ok_place_in T) (hr.mono (by decide)) rfl T.m_place_in T.F_place_in.kp T.b_place_in .nil pass0 (pa_cons (pe_glob (v := .ref A.c_LENGTHS) rfl T.m_LENGTHS rfl) (pa_cons (pv 0) pa_nil))))
      (pss_one (ps_ret (pe_tup (pa_cons (pe_op op_add (pe_glob (v := .int 257) rfl T.m_FIRST_LENGTH ⟨_, rfl⟩) (pv 1)) (pa_cons (pe_ix ix_tup (pe_glob (v := .ref A.c_LENGTH_EXTRAS) rfl T.m_LENGTH_EXTRAS rfl) (pv 1) (fun _ _ => rfl)) (pa_cons (pe_op op_sub (pv 0) (pe_ix ix_tup (pe_glob (v := .ref A.c_LENGTHS) rfl T.m_LENGTHS rfl) (pv 1) (fun _ _ => rfl))) pa_nil))))))), ?_⟩)
  · obtain ⟨G, W, v, _, rfl, _⟩ := h
    rfl
  · obtain ⟨G, W, v, w, rfl, h3, k⟩ := h
    have t1 : ∀ H, SqT K H A.c_LENGTHS (kc_LENGTHS.map V.int) := T.cs_LENGTHS
    have t2 : ∀ H, SqT K H A.c_LENGTH_EXTRAS (kc_LENGTH_EXTRAS.map V.int) := T.cs_LENGTH_EXTRAS
    walk_at "zz"
    refine ⟨G, W, _, kc_LENGTHS, v, w, rfl, t1 G, by decide, fun G1 H1 e1 w1 => ?_⟩
    have c0 : 0 ≤ cnt kc_LENGTHS v := cnt_ge (n := 3) (by decide) h3
    have c1 : cnt kc_LENGTHS v < 29 := cnt_lt kc_LENGTHS v
    walk_at "zz"
    refine st_ixT (t2 _) (atI_getD c0 c1) ?_
    walk_at "zz"
    refine st_ixT (t1 _) (atI_getD c0 c1) ?_
    walk_at "zz"
    exact ⟨small (by simp), NewO.good w1 fun p G2 H2 e2 w2 h2 => k p G2 H2 (by walk_at "sm") w2 h2⟩
def sp_dsym : Sp := fun vs H Q _ => ∃ (G : Hp) (W : Wl) (v : Int), Wd G W H ∧ vs = [.int v] ∧ 1 ≤ v ∧ ∀ p G' H', Same G G' → Wd G' W H' → G' p = some (.tup ((dsy3 v).map V.int)) → Q (.ref p) H'
theorem ok_distance_symbol (T : Txt K mg A) : FnOk P w K mg base CX0 2 A.f_distance_symbol A.fd_distance_symbol sP_distance_symbol sp_dsym := by
  refine okD T.F_distance_symbol sc_distance_symbol (fun vs H Q E h => ?_) (fun cdv Ar outer s H vs Q E hr h => ⟨_, (pss_cons (ps_set (i := 1) sc_distance_symbol.nd rfl (Or.inl rfl) (pe_call (ok_place_in T) (hr.mono (by decide)) rfl T.m_place_in T.F_place_in.kp T.b_place_in .nil pass0 (pa_cons (pe_glob (v := .ref A.c_DISTANCES) rfl T.m_DISTANCES rfl) (pa_cons (pv 0) pa_nil))))
      (pss_one (ps_ret (pe_tup (pa_cons (pv 1) (pa_cons (pe_ix ix_tup (pe_glob (v := .ref A.c_DISTANCE_EXTRAS) rfl T.m_DISTANCE_EXTRAS rfl) (pv 1) (fun _ _ => rfl)) (pa_cons (pe_op op_sub (pv 0) (pe_ix ix_tup (pe_glob (v := .ref A.c_DISTANCES) rfl T.m_DISTANCES rfl) (pv 1) (fun _ _ => rfl))) pa_nil))))))), ?_⟩)
  · obtain ⟨G, W, v, _, rfl, _⟩ := h
    rfl
  · obtain ⟨G, W, v, w, rfl, h3, k⟩ := h
    have t1 : ∀ H, SqT K H A.c_DISTANCES (kc_DISTANCES.map V.int) := T.cs_DISTANCES
    have t2 : ∀ H, SqT K H A.c_DISTANCE_EXTRAS (kc_DISTANCE_EXTRAS.map V.int) := T.cs_DISTANCE_EXTRAS
    walk_at "zz"
    refine ⟨G, W, _, kc_DISTANCES, v, w, rfl, t1 G, by decide, fun G1 H1 e1 w1 => ?_⟩
    have c0 : 0 ≤ cnt kc_DISTANCES v := cnt_ge (n := 1) (by decide) h3
    have c1 : cnt kc_DISTANCES v < 30 := cnt_lt kc_DISTANCES v
    walk_at "zz"
    refine st_ixT (t2 _) (atI_getD c0 c1) ?_
    walk_at "zz"
    refine st_ixT (t1 _) (atI_getD c0 c1) ?_
    walk_at "zz"
    exact ⟨small (by simp), NewO.good w1 fun p G2 H2 e2 w2 h2 => k p G2 H2 (by walk_at "sm") w2 h2⟩
/-! ### bits of symbols -/
def szV (ns : List Int) (s : Int) : V := if s < ns.length ∧ 0 < ns.getD s.toNat 0 then .int (ns.getD s.toNat 0) else .non
def SqA (K : PySem.W.Frag) (H : Hp) (a : Addr) (xs : List V) : Prop := SqL K H a xs ∨ SqT K H a xs
theorem SqA.up {G H : Hp} {a : Addr} {xs : List V} (e : Same G H) (h : SqA K G a xs) : SqA K H a xs := h.imp (fun h => e.seq h) fun h => seqT e h
def sp_sbits (K : PySem.W.Frag) : Sp := fun vs H Q _ => ∃ (a : Addr) (ns : List Int) (s : Int), vs = [.ref a, .int s] ∧ SqA K H a (ns.map V.int) ∧ 0 ≤ s ∧ Q (szV ns s) H
theorem ok_symbol_bits (T : Txt K mg A) : FnOk P w K mg base CX0 1 A.f_symbol_bits A.fd_symbol_bits sP_symbol_bits (sp_sbits K) := by
  refine okD T.F_symbol_bits sc_symbol_bits (fun vs H Q E h => ?_) (fun cdv Ar outer s H vs Q E hr h => ⟨_, (pss_one (ps_ret (pe_ifExp (PW.pt (pw_and (pt_cmpR op_lt (pv 1) (pe_callB call_len_seq (by rfl) T.z_len PySem.boot_len (pa_cons (pv 0) pa_nil)) (nomark _)) (pw_and1 (pt_cmpR op_gt (pe_ix ix_seqA (pv 0) (pv 1) (fun _ _ => rfl)) (pe_int) (nomark _))))) (pe_ix ix_seqA (pv 0) (pv 1) (fun _ _ => rfl)) (pe_non)))), ?_⟩)
  · obtain ⟨a, ns, v, rfl, _⟩ := h
    rfl
  · obtain ⟨a, ns, v, rfl, ha, h0, k⟩ := h
    unfold szV at k
    walk_at "zz"
    walk_at "zi"
    walk_at "zz"
    refine ⟨a, _, rfl, ha, ?_⟩
    walk_at "zz"
    rw [List.length_map]
    by_cases h1 : v < ns.length
    · rw [decide_eq_true h1]
      walk_at "zz"
      refine st_ixA ha (atI_getD h0 h1) ?_
      walk_at "zz"
      by_cases h2 : 0 < ns.getD v.toNat 0
      · rw [decide_eq_true h2]
        walk_at "zz"
        refine st_ixA ha (atI_getD h0 h1) ?_
        rw [if_pos ⟨h1, h2⟩] at k
        exact k
      · rw [decide_eq_false h2]
        walk_at "zz"
        rw [if_neg (fun h => h2 h.2)] at k
        exact k
    · rw [decide_eq_false h1]
      walk_at "zz"
      rw [if_neg (fun h => h1 h.1)] at k
      exact k
theorem szV_or (ns : List Int) (s : Int) : szV ns s = .non ∨ ∃ n, szV ns s = .int n ∧ n ∈ ns := by
  unfold szV
  split
  · rename_i h
    refine .inr ⟨_, rfl, ?_⟩
    rw [List.getD_eq_getElem?_getD] at *
    cases e : ns[s.toNat]? with
    | none => rw [e] at h; exact absurd h.2 (by decide)
    | some n => exact List.mem_of_getElem? e
  · exact .inl rfl
/-! ### equal bytes -/
def cpl : List Int → List Int → Nat
  | a :: r, b :: s => if a = b then cpl r s + 1 else 0
  | _, _ => 0
def Eq2 (row : List Int) (p o : Nat) : Nat := cpl (row.drop p) (row.drop o)
theorem cpl_le : ∀ (r s : List Int), cpl r s ≤ r.length
  | [], [] => Nat.le_refl _
  | [], _ :: _ => Nat.le_refl _
  | _ :: _, [] => Nat.zero_le _
  | a :: r, b :: s => by
    unfold cpl
    split
    · have := cpl_le r s
      rw [List.length_cons]
      omega
    · exact Nat.zero_le _
theorem Eq2_le (row : List Int) (p o : Nat) : Eq2 row p o ≤ row.length - p := by
  have := cpl_le (row.drop p) (row.drop o)
  rw [List.length_drop] at this
  exact this
theorem Eq2_step {row : List Int} {p o : Nat} (hp : p < row.length) (ho : o < row.length) : Eq2 row p o = if row.getD p 0 = row.getD o 0 then Eq2 row (p + 1) (o + 1) + 1 else 0 := by
  unfold Eq2
  rw [List.drop_eq_getElem_cons hp, List.drop_eq_getElem_cons ho, List.getD_eq_getElem?_getD, List.getD_eq_getElem?_getD, List.getElem?_eq_getElem hp, List.getElem?_eq_getElem ho]
  rfl
theorem Eq2_end {row : List Int} {p o : Nat} (hp : row.length ≤ p) : Eq2 row p o = 0 := by
  have := Eq2_le row p o
  omega
def hereL (row : List Int) (p i : Nat) : List Int := (List.range (row.length + 1)).map fun o => if o < i then ((Eq2 row p o : Nat) : Int) else 0
theorem hereL_len (row : List Int) (p i : Nat) : (hereL row p i).length = row.length + 1 := by
  unfold hereL
  rw [List.length_map, List.length_range]
theorem hereL_zero (row : List Int) (p : Nat) : hereL row p 0 = List.replicate (row.length + 1) 0 := by
  unfold hereL
  refine List.ext_getElem (by simp) fun i h1 h2 => ?_
  rw [List.getElem_map, List.getElem_replicate, if_neg (Nat.not_lt_zero _)]
theorem hereL_end (row : List Int) (i : Nat) : hereL row row.length i = List.replicate (row.length + 1) 0 := by
  unfold hereL
  refine List.ext_getElem (by simp) fun j h1 h2 => ?_
  rw [List.getElem_map, List.getElem_replicate, Eq2_end (Nat.le_refl _)]
  split <;> rfl
theorem hereL_get {row : List Int} {p i j : Nat} (hj : j < i) (hl : j < row.length + 1) : (hereL row p i).getD j 0 = ((Eq2 row p j : Nat) : Int) := by
  rw [List.getD_eq_getElem?_getD]
  unfold hereL
  rw [List.getElem?_map, List.getElem?_range hl]
  show (if j < i then ((Eq2 row p j : Nat) : Int) else 0) = _
  rw [if_pos hj]
theorem hereL_succ {row : List Int} {p j : Nat} (hl : j < row.length + 1) : hereL row p (j + 1) = (hereL row p j).set j ((Eq2 row p j : Nat) : Int) := by
  refine List.ext_getElem (by rw [List.length_set, hereL_len, hereL_len]) fun i h1 h2 => ?_
  rw [List.getElem_set]
  simp only [hereL, List.getElem_map, List.getElem_range]
  by_cases h : j = i
  · subst h
    rw [if_pos rfl, if_pos (Nat.lt_succ_self _)]
  · rw [if_neg h]
    by_cases h3 : i < j
    · rw [if_pos h3, if_pos (by omega)]
    · rw [if_neg h3, if_neg (by omega)]
theorem hereL_same {row : List Int} {p j : Nat} (h : Eq2 row p j = 0) : hereL row p (j + 1) = hereL row p j := by
  unfold hereL
  refine List.map_congr_left fun i hi => ?_
  by_cases h3 : i < j
  · rw [if_pos h3, if_pos (by omega)]
  · by_cases h4 : i = j
    · subst h4
      rw [if_pos (Nat.lt_succ_self _), if_neg h3, h]
      rfl
    · rw [if_neg h3, if_neg (by omega)]
def eqAt (row : List Int) (p d : Nat) : Nat := min (Eq2 row p (p - 1 - d)) 258
def eqL (row : List Int) (p : Nat) : List Int := (List.range p).map fun d => ((eqAt row p d : Nat) : Int)
theorem eqL_len (row : List Int) (p : Nat) : (eqL row p).length = p := by
  unfold eqL
  rw [List.length_map, List.length_range]
def EqT (G : Hp) (q : Addr) (row : List Int) : Prop := ∃ xs, G q = some (.lst xs) ∧ xs.length = row.length ∧ ∀ i, i < row.length → ∃ r, xs[i]? = some (.ref r) ∧ HL G r (eqL row i)
theorem EqT.up {G G' : Hp} {q : Addr} {row : List Int} (e : Same G G') (h : EqT G q row) : EqT G' q row := by
  obtain ⟨xs, h1, h2, h3⟩ := h
  refine ⟨xs, e _ _ h1, h2, fun i hi => ?_⟩
  obtain ⟨r, h4, h5⟩ := h3 i hi
  exact ⟨r, h4, h5.up e⟩
theorem st_repOV {G H : Hp} {W : Wl} {Q : VK} {a : Addr} {x : V} {k : Int} (ha : H a = some (.lst [x])) (h0 : 0 ≤ k) (h1 : k ≤ 1000000) (w : Wd G W H) (q : ∀ p H', Wd G ((p, Is (.lst (List.replicate k.toNat x))) :: W) H' → Q (.ref p) H') : rRep (.ref a) (.int k) H Q := by
  refine ⟨a, k, _, rfl, rfl, ha, by omega, by omega, small (by simp; omega), fun p hp => ?_⟩
  have e : ∀ n : Nat, (List.replicate n [x]).flatten = List.replicate n x := fun n => by
    induction n with
    | zero => rfl
    | succ n ih => rw [List.replicate_succ, List.flatten_cons, ih, List.replicate_succ]; rfl
  rw [e]
  exact q p _ (w.newM hp rfl)
theorem for_r3 {G H : Hp} {W : Wl} {σ : L2.St} {g : TG} {tb : TS} {nx : L2.St → Hp → Prop} {rt : VK} {lo z c : Int} {n : Nat} (hn : RgC lo z c n) (I : Nat → L2.St → Hp → Wl → Prop) (w : Wd G W H) (h0 : I 0 σ G W)
    (hs : ∀ (i : Nat) σ' G' W' H', i < n → Same G G' → Wd G' W' H' → I i σ' G' W' → g (.int (lo + (i : Int) * c)) σ' H' fun σ2 H2 => tb ⟨Btw I G (i + 1), rt, nx, Btw I G (i + 1)⟩ σ2 H2)
    (hd : ∀ σ' G' W' H', Same G G' → Wd G' W' H' → I n σ' G' W' → nx σ' H') :
    ∃ (i' j' c' : Int) (n' : Nat), [V.int lo, V.int z, V.int c] = [.int i', .int j', .int c'] ∧ RgC i' j' c' n' ∧ LoopQ (Itc i' c' n') g tb nx rt σ H :=
  ⟨lo, z, c, n, rfl, hn, loop_go walk_rangeC I w (fun _ _ _ _ _ => trivial) h0 (fun i x σ' G' W' H' H'' hi e w' h y => by
    obtain ⟨rfl, rfl⟩ := y
    exact hs i σ' G' W' H'' hi e w' h) hd⟩
theorem ixNn {n j : Nat} (h : j < n) : ixN n (j : Int) = some j := by
  rw [ixN_of (by omega) (by omega), Int.toNat_natCast]
theorem gN {row : List Int} {j : Nat} (h : j < row.length) : atI (row.map V.int) (j : Int) = some (.int (row.getD j 0)) := by
  have := atI_getD (ns := row) (i := (j : Int)) (by omega) (by omega)
  rw [Int.toNat_natCast] at this
  exact this
def sp_eql (K : PySem.W.Frag) : Sp := fun vs H Q _ => ∃ (G : Hp) (W : Wl) (a : Addr) (row : List Int), Wd G W H ∧ vs = [.ref a] ∧ SqL K G a (row.map V.int) ∧ row.length ≤ 1000 ∧ ∀ q G' H', Same G G' → Wd G' W H' → EqT G' q row → Q (.ref q) H'
theorem ok_equal_lengths (T : Txt K mg A) : FnOk P w K mg base CX0 1 A.f_equal_lengths A.fd_equal_lengths sP_equal_lengths (sp_eql K) := by
  refine okD T.F_equal_lengths sc_equal_lengths (fun vs H Q E h => ?_) (fun cdv Ar outer s H vs Q E hr h => ⟨_, (pss_cons (ps_setLc (i := 1) (own := [("place", 2)]) (g := gName 2) (tt := tYes) rfl sc_equal_lengths.nd rfl rfl (sw_true rfl rfl rfl (by decide +kernel)) (pi_list (pv 0)) (blkOk_by (own := [("place", 2)]) (N := sN_equal_lengths) (sc := defScope s_equal_lengths) (by decide +kernel)) (fun _ _ _ _ _ => pg_name (i := 2) sc_equal_lengths.nd rfl (Or.inl rfl)) (fun _ _ _ _ _ => pts_nil) (fun _ _ _ _ _ => (pe_lst pa_nil)))
      (pss_cons (ps_set (i := 3) sc_equal_lengths.nd rfl (Or.inl rfl) (pe_op op_rep (pe_lst (pa_cons (pe_int) pa_nil)) (pe_op op_add (pe_callB call_len_seq (by rfl) T.z_len PySem.boot_len (pa_cons (pv 0) pa_nil)) (pe_int))))
      (pss_cons (ps_for PassesOwn.never rfl (pi_range3 (by rfl) T.z_range (pa_cons (pe_op op_sub (pe_callB call_len_seq (by rfl) T.z_len PySem.boot_len (pa_cons (pv 0) pa_nil)) (pe_int)) (pa_cons (pe_un un_neg (pe_int)) (pa_cons (pe_un un_neg (pe_int)) pa_nil)))) (pg_name (i := 2) sc_equal_lengths.nd rfl (Or.inr rfl)) (pss_cons (ps_set (i := 4) sc_equal_lengths.nd rfl (Or.inr rfl) (pe_op op_rep (pe_lst (pa_cons (pe_int) pa_nil)) (pe_op op_add (pe_callB call_len_seq (by rfl) T.z_len PySem.boot_len (pa_cons (pv 0) pa_nil)) (pe_int))))
      (pss_cons (ps_for PassesOwn.never rfl (pi_range1 (by rfl) T.z_range (pa_cons (pv 2) pa_nil)) (pg_name (i := 5) sc_equal_lengths.nd rfl (Or.inl rfl)) (pss_one (ps_if (pt_cmpR op_eq (pe_ix ix_list (pv 0) (pv 2) (fun _ _ => rfl)) (pe_ix ix_list (pv 0) (pv 5) (fun _ _ => rfl)) (nomark _)) (pss_one (ps_asg (pe_op op_add (pe_ix ix_list (pv 3) (pe_op op_add (pv 5) (pe_int)) (fun _ _ => rfl)) (pe_int)) (pg_sub (pv 4) (pv 5) set_list))) pss_nil)))
      (pss_cons (ps_asg (pe_lc (own := [("distance", 6)]) (g := gName 6) (tt := tYes) rfl sc_equal_lengths.nd (pi_range2 (by rfl) T.z_range (pa_cons (pe_int) (pa_cons (pe_op op_add (pv 2) (pe_int)) pa_nil))) (blkOk_by (own := [("distance", 6)]) (N := sN_equal_lengths) (sc := defScope s_equal_lengths) (by decide +kernel)) (fun _ _ _ _ _ => pg_name (i := 6) sc_equal_lengths.nd rfl (Or.inl rfl)) (fun _ _ _ _ _ => pts_nil) (fun _ _ _ _ _ => (pe_callB (call_min2 rfl) (by rfl) T.z_min (by decide +kernel) (pa_cons (pe_ix (show IxR _ (rIxL K) from ix_list) (pv 4) (pe_op op_sub (pv 2) (pv 6)) (fun _ _ => rfl)) (pa_cons (pe_glob (v := .int 258) rfl T.m_MOST_LENGTH ⟨_, rfl⟩) pa_nil))))) (pg_sub (pv 1) (pv 2) set_list))
      (pss_one (ps_set (i := 3) sc_equal_lengths.nd rfl (Or.inl rfl) (pv 4)))))))
      (pss_one (ps_ret (pv 1)))))), ?_⟩)
  · obtain ⟨G, W, a, row, _, rfl, _⟩ := h
    rfl
  · obtain ⟨G, W, a, row, w, rfl, ha, hl, k⟩ := h
    walk_at "zk"
    refine lc_l ha (fun i acc _ => acc.length = i) w rfl (fun _ => rfl) ?_ ?_
    · rintro i x D G' H' acc hx e' w' rfl
      have hi := (List.getElem?_eq_some_iff.mp hx).1
      rw [List.length_map] at hi
      walk_at "zk"
      refine ⟨small (by simp), NewO.good w' fun p G2 H2 e2 w2 h2 => ?_⟩
      exact lc_put w2 (e'.trans e2) (by omega) (by simp)
    rintro f G1 H1 fs e1 w1 hfl
    rw [List.length_map] at hfl
    walk_at "zk"
    refine ⟨small (by simp), NewO.good w1 fun p2 G2 H2 e2 w2 h2 => ?_⟩
    have ha2 := e2.seq (e1.seq ha)
    walk_at "zk"
    refine ⟨a, _, rfl, .inl (seq_up w2 ha2), ?_⟩
    walk_at "zk"
    rw [List.length_map]
    refine st_repOV (w2.at h2) (by omega) (by omega) w2 fun b3 H3 w3 => ?_
    rw [show List.replicate ((row.length : Int) + 1).toNat (V.int 0) = (hereL row row.length row.length).map V.int by rw [hereL_end, List.map_replicate]; congr 1] at w3
    walk_at "zk"
    refine ⟨a, _, rfl, .inl (seq_up w3 ha2), ?_⟩
    walk_at "zk"
    rw [List.length_map]
    have hrg := RgC.neg (i := (row.length : Int) - 1) (j := -1) (by omega) (by omega) (by decide) (by decide)
    rw [show ((row.length : Int) - 1 - -1).toNat = row.length by omega] at hrg
    refine for_r3 hrg (fun i σ G' W' => ∃ b fs x2 x4 x5 x6, W' = (b, Is (.lst ((hereL row (row.length - i) (row.length - i)).map V.int))) :: (f, Is (.lst fs)) :: W ∧ fs.length = row.length ∧ (∀ j, row.length - i ≤ j → j < row.length → ∃ r, fs[j]? = some (.ref r) ∧ HL G' r (eqL row j)) ∧
      σ = [some (.ref a), some (.ref f), x2, some (.ref b), x4, x5, x6]) w3 ⟨b3, fs, _, _, _, _, rfl, hfl, fun j h1 h2 => by omega, rfl⟩ ?_ ?_
    · rintro i σ' G4 W4 H4 hi e4 w4 ⟨b, fs, x2, x4, x5, x6, rfl, hfl, hfs, rfl⟩
      obtain ⟨p, hp⟩ : ∃ p, p = row.length - 1 - i := ⟨_, rfl⟩
      have hpn : p < row.length := by omega
      rw [show row.length - i = p + 1 by omega] at w4 hfs
      rw [show (row.length : Int) - 1 + (i : Int) * -1 = (p : Int) by omega]
      have ha4 := e4.seq ha2
      walk_at "zk"
      refine ⟨small (by simp), NewO.good w4 fun p5 G5 H5 e5 w5 h5 => ?_⟩
      have ha5 := e5.seq ha4
      walk_at "zk"
      refine ⟨a, _, rfl, .inl (seq_up w5 ha5), ?_⟩
      walk_at "zk"
      rw [List.length_map]
      refine st_repOV (w5.at h5) (by omega) (by omega) w5 fun h6 H6 w6 => ?_
      rw [show List.replicate ((row.length : Int) + 1).toNat (V.int 0) = (hereL row p 0).map V.int by rw [hereL_zero, List.map_replicate]; congr 1] at w6
      walk_at "zk"
      refine for_r1 (by omega) (fun j σ G' W' => ∃ x5, W' = (h6, Is (.lst ((hereL row p j).map V.int))) :: (b, Is (.lst ((hereL row (p + 1) (p + 1)).map V.int))) :: (f, Is (.lst fs)) :: W ∧ σ = [some (.ref a), some (.ref f), some (.int (p : Int)), some (.ref b), some (.ref h6), x5, x6]) w6 ⟨_, rfl, rfl⟩ ?_ ?_
      · rintro j σ' G7 W7 H7 hj e7 w7 ⟨y5, rfl, rfl⟩
        have ha7 := e7.seq ha5
        walk_at "zk"
        refine st_ixL (seq_up w7 ha7) (gN hpn) ?_
        walk_at "zk"
        refine st_ixL (seq_up w7 ha7) (gN (by omega)) ?_
        walk_at "zk"
        have hst := Eq2_step (row := row) (p := p) (o := j) hpn (by omega)
        by_cases hE : row.getD p 0 = row.getD j 0
        · rw [if_pos hE] at hst
          rw [hE, decide_eq_true rfl]
          walk_at "zk"
          refine st_ixL (SqL.of (show H7 b = some _ from Wd.is1 (w7.drop1))) (gN (j := j + 1) (by rw [hereL_len]; omega)) ?_
          walk_at "zk"
          refine st_setL (Wd.is1 w7) (ixNn (by rw [List.length_map, hereL_len]; omega)) ?_
          refine st_btw (by walk_at "sm") (w7.put1 (o := .lst (((hereL row p j).map V.int).set j (.int ((hereL row (p + 1) (p + 1)).getD (j + 1) 0 + 1))))) ⟨_, ?_, rfl⟩
          rw [hereL_get (by omega) (by omega), hereL_succ (p := p) (j := j) (by omega), hst, List.map_set]
          rfl
        · rw [if_neg hE] at hst
          rw [decide_eq_false (fun h => hE (V.int.inj h))]
          walk_at "zk"
          refine st_btw (by walk_at "sm") w7 ⟨_, ?_, rfl⟩
          rw [hereL_same hst]
      · rintro σ' G7 W7 H7 e7 w7 ⟨y5, rfl, rfl⟩
        rw [Int.toNat_natCast] at w7
        have w8 := Wd.drop (W1 := [_]) w7
        walk_at "zk"
        refine lc_r2 (by omega) (fun d acc _ => acc = ((List.range d).map fun d => ((eqAt row p d : Nat) : Int)).map V.int) w8 rfl (fun _ => rfl) ?_ ?_
        · rintro d D G8 H8 acc hd e8 w8 rfl
          walk_at "zk"
          have hix : (p : Int) - (1 + (d : Int)) = ((p - 1 - d : Nat) : Int) := by omega
          rw [hix]
          refine st_ixL (SqL.of (Wd.is1 w8.drop1)) (gN (by rw [hereL_len]; omega)) ?_
          walk_at "zk"
          rw [hereL_get (by omega) (by omega)]
          refine ⟨_, _, rfl, ?_⟩
          refine lc_put w8 e8 (by rw [List.length_map, List.length_map, List.length_range]; omega) ?_
          rw [List.range_succ, List.map_append, List.map_append]
          have he : (if (258 : Int) < ((Eq2 row p (p - 1 - d) : Nat) : Int) then 258 else ((Eq2 row p (p - 1 - d) : Nat) : Int)) = ((eqAt row p d : Nat) : Int) := by
            unfold eqAt
            split <;> omega
          rw [he]
          rfl
        rintro D G9 H9 acc e9 w9 rfl
        obtain ⟨o, rfl, ho, e10, w10⟩ := w9.freeze1
        rw [show ((p : Int) + 1 - 1).toNat = p by omega] at e10 w10
        have hD : HL (upd G9 D (.lst (((List.range p).map fun d => ((eqAt row p d : Nat) : Int)).map V.int))) D (eqL row p) := upd_same
        generalize upd G9 D (HO.lst _) = G10 at e10 w10 hD
        have w10 : Wd G10 ([(h6, Is (.lst ((hereL row p p).map V.int)))] ++ (f, Is (.lst fs)) :: W) H9 := w10
        walk_at "zk"
        refine st_setL (Wd.is1 w10.drop1) (ixNn (by omega)) ?_
        walk_at "zk"
        have e410 := ((e5.trans e7).trans e9).trans e10
        refine st_btw (e4.trans e410) (w10.putI (o := .lst (fs.set p (.ref D)))) ⟨h6, fs.set p (.ref D), _, _, _, _, ?_, by rw [List.length_set, hfl], fun j h1 h2 => ?_, rfl⟩
        · rw [show row.length - (i + 1) = p by omega]
          rfl
        · by_cases hj : p = j
          · subst hj
            exact ⟨D, by rw [List.getElem?_set_self (by omega)], hD⟩
          · obtain ⟨r, h3, h4⟩ := hfs j (by omega) h2
            exact ⟨r, by rw [List.getElem?_set_ne hj]; exact h3, h4.up e410⟩
    · rintro σ' G4 W4 H4 e4 w4 ⟨b, fs, x2, x4, x5, x6, rfl, hfl, hfs, rfl⟩
      obtain ⟨o, rfl, ho, e5, w5⟩ := (w4.drop1).freeze1
      walk_at "zk"
      refine k f _ H4 (((e1.trans e2).trans e4).trans e5) w5 ⟨fs, upd_same, hfl, fun j hj => ?_⟩
      obtain ⟨r, h3, h4⟩ := hfs j (by omega) hj
      exact ⟨r, h3, h4.up e5⟩


/-! ### prices -/
def oV : Option Int → V
  | some n => .int n
  | none => .non
def szO (ns : List Int) (s : Int) : Option Int := if s < ns.length ∧ 0 < ns.getD s.toNat 0 then some (ns.getD s.toNat 0) else none
theorem szV_oV (ns : List Int) (s : Int) : szV ns s = oV (szO ns s) := by
  unfold szV szO
  split <;> rfl
def pbO (ns : List Int) (s e : Int) : Option Int := (szO ns s).map (· + e)
def spanO (ns : List Int) (v : Int) : Option Int := pbO ns (257 + cnt kc_LENGTHS v) (kc_LENGTH_EXTRAS.getD (cnt kc_LENGTHS v).toNat 0)
def farO (ms : List Int) (v : Int) : Option Int := pbO ms (cnt kc_DISTANCES v) (kc_DISTANCE_EXTRAS.getD (cnt kc_DISTANCES v).toNat 0)
theorem oV_none {o : Option Int} : oV o = .non ↔ o = none := by
  cases o with
  | none => exact ⟨fun _ => rfl, fun _ => rfl⟩
  | some n => exact ⟨(fun h => nomatch h), (fun h => nomatch h)⟩
def sp_part (K : PySem.W.Frag) : Sp := fun vs H Q _ => ∃ (p a : Addr) (ns : List Int) (s e f : Int), vs = [.ref p, .ref a] ∧ SqT K H p [.int s, .int e, .int f] ∧ SqA K H a (ns.map V.int) ∧ 0 ≤ s ∧ Q (oV (pbO ns s e)) H
theorem ok_part_bits (T : Txt K mg A) : FnOk P w K mg base CX0 2 A.f_part_bits A.fd_part_bits sP_part_bits (sp_part K) := by
  refine okD T.F_part_bits sc_part_bits (fun vs H Q E h => ?_) (fun cdv Ar outer s H vs Q E hr h => ⟨_, (pss_cons (ps_asg (pv 0) (pg_tup rfl (pgs_cons (pg_name (i := 2) sc_part_bits.nd rfl (Or.inl rfl)) (pgs_cons (pg_name (i := 3) sc_part_bits.nd rfl (Or.inl rfl)) (pgs_cons (pg_name (i := 4) sc_part_bits.nd rfl (Or.inl rfl)) pgs_nil)))))
      (pss_cons (ps_set (i := 5) sc_part_bits.nd rfl (Or.inl rfl) (pe_call (ok_symbol_bits T) (hr.mono (by decide)) rfl T.m_symbol_bits T.F_symbol_bits.kp T.b_symbol_bits .nil pass0 (pa_cons (pv 1) (pa_cons (pv 2) pa_nil))))
      (pss_one (ps_ret (pe_ifExp (pt_cmpR op_isN (pv 5) (pe_non) (nomark _)) (pe_non) (pe_op op_add (pv 5) (pv 3))))))), ?_⟩)
  · obtain ⟨p, a, ns, s, e, f, rfl, _⟩ := h
    rfl
  · obtain ⟨p, a, ns, s, e, f, rfl, hp, ha, h0, k⟩ := h
    walk_at "zk"
    refine st_gtup hp rfl ?_
    walk_at "zk"
    refine ⟨a, ns, s, rfl, ha, h0, ?_⟩
    walk_at "zk"
    walk_at "zi"
    walk_at "zk"
    refine ⟨rfl, ?_⟩
    unfold pbO at k
    rw [szV_oV]
    cases hs : szO ns s with
    | none =>
      rw [hs] at k
      rw [show decide (oV none = V.non) = true from decide_eq_true rfl]
      walk_at "zk"
      exact k
    | some n =>
      rw [hs] at k
      rw [show decide (oV (some n) = V.non) = false from decide_eq_false (fun h => nomatch h), show oV (some n) = V.int n from rfl]
      walk_at "zk"
      exact k
def sp_first (K : PySem.W.Frag) : Sp := fun vs H Q _ => ∃ (p : Addr) (c : Int) (r : List V), vs = [.ref p] ∧ SqT K H p (.int c :: r) ∧ Q (.int c) H
theorem ok_first_of (T : Txt K mg A) : FnOk P w K mg base CX0 1 A.f_first_of A.fd_first_of sP_first_of (sp_first K) := by
  refine okD T.F_first_of sc_first_of (fun vs H Q E h => ?_) (fun cdv Ar outer s H vs Q E hr h => ⟨_, (pss_one (ps_ret (pe_ix ix_tup (pv 0) (pe_int) (fun _ _ => rfl)))), ?_⟩)
  · obtain ⟨p, c, r, rfl, _⟩ := h
    rfl
  · obtain ⟨p, c, r, rfl, hp, k⟩ := h
    walk_at "zk"
    refine st_ixT (v := .int c) hp (show atI (V.int c :: r) ((0 : Nat) : Int) = _ from atI_nat rfl) ?_
    exact k
/-- the lesser of two pairs -/
def les {α : Type} : Option (Int × α) → Option (Int × α) → Option (Int × α)
  | none, b => b
  | some a, none => some a
  | some a, some b => if b.1 < a.1 then some b else some a
def lesV (x y : V) : Option Int → Option Int → V
  | none, _ => y
  | some _, none => x
  | some a, some b => if b < a then y else x
def OptR {α : Type} (R : V → α → Prop) (G : Hp) (v : V) : Option (Int × α) → Prop
  | none => v = .non
  | some x => ∃ p y, v = .ref p ∧ G p = some (.tup [.int x.1, y]) ∧ R y x.2
theorem OptR.up {α : Type} {R : V → α → Prop} {G G' : Hp} {v : V} {o : Option (Int × α)} (e : Same G G') (h : OptR R G v o) : OptR R G' v o := by
  cases o with
  | none => exact h
  | some x =>
    obtain ⟨p, y, h1, h2, h3⟩ := h
    exact ⟨p, y, h1, e _ _ h2, h3⟩
theorem OptR.imp {α : Type} {R R' : V → α → Prop} (u : ∀ v a, R v a → R' v a) {G : Hp} {v : V} {o : Option (Int × α)} (h : OptR R G v o) : OptR R' G v o := by
  cases o with
  | none => exact h
  | some x =>
    obtain ⟨p, y, h1, h2, h3⟩ := h
    exact ⟨p, y, h1, h2, u _ _ h3⟩
def OptC (G : Hp) (v : V) : Option Int → Prop
  | none => v = .non
  | some c => ∃ p y, v = .ref p ∧ G p = some (.tup [.int c, y])
theorem OptR.c {α : Type} {R : V → α → Prop} {G : Hp} {v : V} {o : Option (Int × α)} (h : OptR R G v o) : OptC G v (o.map (·.1)) := by
  cases o with
  | none => exact h
  | some x =>
    obtain ⟨p, y, h1, h2, h3⟩ := h
    exact ⟨p, y, h1, h2⟩
theorem OptR.les {α : Type} {R : V → α → Prop} {G : Hp} {x y : V} {a b : Option (Int × α)} (h : OptR R G x a) (h2 : OptR R G y b) : OptR R G (lesV x y (a.map (·.1)) (b.map (·.1))) (les a b) := by
  cases a with
  | none => exact h2
  | some a =>
    cases b with
    | none => exact h
    | some b =>
      show OptR R G (if b.1 < a.1 then y else x) (if b.1 < a.1 then some b else some a)
      split
      · exact h2
      · exact h
def sp_lesser (K : PySem.W.Frag) : Sp := fun vs H Q _ => ∃ (x y : V) (a b : Option Int), vs = [x, y] ∧ OptC H x a ∧ OptC H y b ∧ Q (lesV x y a b) H
theorem ok_lesser (T : Txt K mg A) : FnOk P w K mg base CX0 3 A.f_lesser A.fd_lesser sP_lesser (sp_lesser K) := by
  refine okD T.F_lesser sc_lesser (fun vs H Q E h => ?_) (fun cdv Ar outer s H vs Q E hr h => ⟨_, (pss_cons (ps_if (PW.pt (pw_or (pt_cmpR op_isN (pv 0) (pe_non) (nomark _)) (pw_or1 (pt_cmpR op_isN (pv 1) (pe_non) (nomark _))))) (pss_one (ps_ret ((pe_orT (pv 0) (pe_one (pv 1)))))) pss_nil)
      (pss_one (ps_ret (pe_callBK (cr_min2K (ok_first_of T) (hr.mono (by decide)) T.b_first_of .nil) (by rfl) T.z_min (by decide +kernel) (pa_cons (pv 0) (pa_cons (pv 1) pa_nil)) (pk_cons (pe_glob (v := .ref A.f_first_of) rfl T.m_first_of rfl) pk_nil))))), ?_⟩)
  · obtain ⟨x, y, a, b, rfl, _⟩ := h
    rfl
  · obtain ⟨x, y, a, b, rfl, hx, hy, k⟩ := h
    walk_at "zk"
    refine ⟨rfl, ?_⟩
    cases a with
    | none =>
      obtain rfl : x = .non := hx
      rw [show decide (V.non = V.non) = true from decide_eq_true rfl]
      walk_at "zk"
      refine ⟨false, rfl, ?_⟩
      walk_at "zk"
      exact k
    | some xa =>
      obtain ⟨p, px, rfl, hp⟩ := id hx
      rw [show decide (V.ref p = V.non) = false from decide_eq_false (fun h => nomatch h)]
      walk_at "zk"
      refine ⟨rfl, ?_⟩
      cases b with
      | none =>
        obtain rfl : y = .non := hy
        rw [show decide (V.non = V.non) = true from decide_eq_true rfl]
        walk_at "zk"
        refine ⟨true, .inr (.inl ⟨_, SqT.of hp, rfl⟩), ?_⟩
        walk_at "zk"
        exact k
      | some xb =>
        obtain ⟨q, qx, rfl, hq⟩ := id hy
        rw [show decide (V.ref q = V.non) = false from decide_eq_false (fun h => nomatch h)]
        walk_at "zk"
        refine st_min2K (c1 := xa) (c2 := xb) (fun Q' h => ⟨p, _, _, rfl, SqT.of hp, h⟩) (fun Q' h => ⟨q, _, _, rfl, SqT.of hq, h⟩) ?_
        have e : lesV (.ref p) (.ref q) (some xa) (some xb) = V.ref (if xb < xa then q else p) := by
          show (if xb < xa then V.ref q else V.ref p) = _
          split <;> rfl
        rw [e] at k
        exact k

def rowsK (lo : Int) (n : Nat) (f : Int → Option Int) : List (Key × V) := (List.range n).map fun i => ((Sum.inl (lo + (i : Nat)) : Key), oV (f (lo + (i : Nat))))
theorem rowsK_len (lo : Int) (n : Nat) (f : Int → Option Int) : (rowsK lo n f).length = n := by
  unfold rowsK
  rw [List.length_map, List.length_range]
theorem rowsK_put (lo : Int) (n : Nat) (f : Int → Option Int) : putK (rowsK lo n f) (Sum.inl (lo + (n : Nat))) (oV (f (lo + (n : Nat)))) = rowsK lo (n + 1) f := by
  rw [putK_new]
  · unfold rowsK
    rw [List.range_succ, List.map_append]
    rfl
  · intro p hp
    unfold rowsK at hp
    obtain ⟨i, hi, rfl⟩ := List.mem_map.mp hp
    have hi := List.mem_range.mp hi
    intro h
    have h : (Sum.inl (lo + (i : Nat)) : Key) = Sum.inl (lo + (n : Nat)) := h
    injection h with h
    omega
theorem rowsK_at {lo : Int} {n : Nat} {f : Int → Option Int} {i : Nat} (h : i < n) : (rowsK lo n f)[i]? = some ((Sum.inl (lo + (i : Nat)) : Key), oV (f (lo + (i : Nat)))) := by
  unfold rowsK
  rw [List.getElem?_map, List.getElem?_range h]
  rfl
theorem rowsK_val {lo : Int} {f : Int → Option Int} {i : Nat} : ∀ {n : Nat}, i < n → valV (rowsK lo n f) (Sum.inl (lo + (i : Nat))) = some (oV (f (lo + (i : Nat))))
  | n + 1, h => by
    have hs : rowsK lo (n + 1) f = rowsK lo n f ++ [((Sum.inl (lo + (n : Nat)) : Key), oV (f (lo + (n : Nat))))] := by
      unfold rowsK
      rw [List.range_succ, List.map_append]
      rfl
    rw [hs]
    unfold valV
    rw [List.find?_append]
    by_cases hi : i < n
    · have := rowsK_val (lo := lo) (f := f) hi
      unfold valV at this
      cases hf : (rowsK lo n f).find? (fun kv => decide (kv.1 = Sum.inl (lo + (i : Nat)))) with
      | none => rw [hf] at this; exact nomatch this
      | some y => rw [hf] at this; exact this
    · obtain rfl : i = n := by omega
      have hn : (rowsK lo i f).find? (fun kv => decide (kv.1 = Sum.inl (lo + (i : Nat)))) = none := by
        refine List.find?_eq_none.mpr fun p hp => ?_
        unfold rowsK at hp
        obtain ⟨j, hj, rfl⟩ := List.mem_map.mp hp
        have hj := List.mem_range.mp hj
        intro hd
        have hd : (Sum.inl (lo + (j : Nat)) : Key) = Sum.inl (lo + (i : Nat)) := of_decide_eq_true hd
        injection hd with hd
        omega
      rw [hn]
      show Option.map _ (Option.or none (List.find? _ [_])) = _
      rw [Option.none_or]
      simp
def litL (ns : List Int) : List V := (List.range 256).map fun i : Nat => oV (szO ns (i : Int))
def priF (l d1 d2 : Addr) : List (Str × V) := [("literals", .ref l), ("span_costs", .ref d1), ("far_costs", .ref d2)]
def PriD (G : Hp) (l d1 d2 : Addr) (ns ms : List Int) (n : Nat) : Prop := G l = some (.lst (litL ns)) ∧ G d1 = some (.dK (rowsK 3 256 (spanO ns))) ∧ G d2 = some (.dK (rowsK 1 n (farO ms)))
theorem PriD.up {G G' : Hp} {l d1 d2 : Addr} {ns ms : List Int} {n : Nat} (e : Same G G') (h : PriD G l d1 d2 ns ms n) : PriD G' l d1 d2 ns ms n := ⟨e _ _ h.1, e _ _ h.2.1, e _ _ h.2.2⟩
def sp_pinit (K : PySem.W.Frag) (C : Addr) : Sp := fun vs H Q _ => ∃ (G : Hp) (W : Wl) (x dx a b : Addr) (ns ms : List Int) (n : Nat), Wd G ((x, Is (.ins C dx [])) :: W) H ∧ vs = [.ref x, .ref a, .ref b, .int (n : Int)] ∧ SqA K G a (ns.map V.int) ∧ SqA K G b (ms.map V.int) ∧ n ≤ 100 ∧
  ∀ l d1 d2 G' H', Same G G' → Wd G' ((x, Is (.ins C dx (priF l d1 d2))) :: W) H' → PriD G' l d1 d2 ns ms n → Q .non H'
theorem ok_Prices___init__ (T : Txt K mg A) : FnOk P w K mg base CX0 3 A.f_Prices___init__ A.fd_Prices___init__ sP_Prices___init__ (sp_pinit K A.C_Prices) := by
  refine okD T.F_Prices___init__ sc_Prices___init__ (fun vs H Q E h => ?_) (fun cdv Ar outer s H vs Q E hr h => ⟨_, (pss_cons (ps_fld (pv 0) (pe_lc (own := [("byte", 4)]) (g := gName 4) (tt := tYes) rfl sc_Prices___init__.nd (pi_range1 (by rfl) T.z_range (pa_cons (pe_int) pa_nil)) (blkOk_by (own := [("byte", 4)]) (N := sN_Prices___init__) (sc := defScope s_Prices___init__) (by decide +kernel)) (fun _ _ _ _ _ => pg_name (i := 4) sc_Prices___init__.nd rfl (Or.inl rfl)) (fun _ _ _ _ _ => pts_nil) (fun _ _ _ _ _ => (pe_call (ok_symbol_bits T) (hr.mono (by decide)) rfl T.m_symbol_bits T.F_symbol_bits.kp T.b_symbol_bits .nil pass0 (pa_cons (pv 1) (pa_cons (pv 4) pa_nil))))) rfl)
      (pss_cons (ps_set (i := 5) sc_Prices___init__.nd rfl (Or.inl rfl) (pe_listRg rfl (by rfl) T.z_list (prg_2 (by rfl) T.z_range (pe_glob (v := .int 3) rfl T.m_LEAST_LENGTH ⟨_, rfl⟩) (pe_op op_add (pe_glob (v := .int 258) rfl T.m_MOST_LENGTH ⟨_, rfl⟩) (pe_int)))))
      (pss_cons (ps_fld (pv 0) (pe_dc (own := [("span", 6)]) (g := gName 6) (tt := tYes) rfl sc_Prices___init__.nd (pi_list (pv 5)) (blkOk_by (own := [("span", 6)]) (N := sN_Prices___init__) (sc := defScope s_Prices___init__) (by decide +kernel)) (fun _ _ _ _ _ => pg_name (i := 6) sc_Prices___init__.nd rfl (Or.inl rfl)) (fun _ _ _ _ _ => pts_nil) (fun _ _ _ _ _ => (pv 6)) (fun _ _ _ _ _ => (pe_call (ok_part_bits T) (hr.mono (by decide)) rfl T.m_part_bits T.F_part_bits.kp T.b_part_bits .nil pass0 (pa_cons (pe_call (ok_length_symbol T) (hr.mono (by decide)) rfl T.m_length_symbol T.F_length_symbol.kp T.b_length_symbol .nil pass0 (pa_cons (pv 6) pa_nil)) (pa_cons (pv 1) pa_nil))))) rfl)
      (pss_one (ps_fld (pv 0) (pe_dc (own := [("step", 7)]) (g := gName 7) (tt := tYes) rfl sc_Prices___init__.nd (pi_range2 (by rfl) T.z_range (pa_cons (pe_int) (pa_cons (pe_op op_add (pv 3) (pe_int)) pa_nil))) (blkOk_by (own := [("step", 7)]) (N := sN_Prices___init__) (sc := defScope s_Prices___init__) (by decide +kernel)) (fun _ _ _ _ _ => pg_name (i := 7) sc_Prices___init__.nd rfl (Or.inl rfl)) (fun _ _ _ _ _ => pts_nil) (fun _ _ _ _ _ => (pv 7)) (fun _ _ _ _ _ => (pe_call (ok_part_bits T) (hr.mono (by decide)) rfl T.m_part_bits T.F_part_bits.kp T.b_part_bits .nil pass0 (pa_cons (pe_call (ok_distance_symbol T) (hr.mono (by decide)) rfl T.m_distance_symbol T.F_distance_symbol.kp T.b_distance_symbol .nil pass0 (pa_cons (pv 7) pa_nil)) (pa_cons (pv 2) pa_nil))))) rfl))))), ?_⟩)
  · obtain ⟨G, W, x, dx, a, b, ns, ms, n, _, rfl, _⟩ := h
    rfl
  · obtain ⟨G, W, x, dx, a, b, ns, ms, n, w, rfl, ha, hb, hn, k⟩ := h
    walk_at "zk"
    refine lc_r1 (by decide) (fun i acc _ => acc = (List.range i).map fun i : Nat => oV (szO ns (i : Int))) w rfl (fun _ => rfl) ?_ ?_
    · rintro i D G' H' acc hi e' w' rfl
      walk_at "zk"
      refine ⟨a, ns, _, rfl, (ha.up e').up w'.ex, by omega, ?_⟩
      rw [szV_oV]
      refine lc_put w' e' (by rw [List.length_map, List.length_range]; omega) ?_
      rw [List.range_succ, List.map_append]
      rfl
    rintro l G1 H1 acc e1 w1 rfl
    obtain ⟨o, rfl, ho, e2, w2⟩ := w1.freeze1
    have hl : upd G1 l (.lst ((List.range (256 : Int).toNat).map fun i : Nat => oV (szO ns (i : Int)))) l = some (.lst (litL ns)) := upd_same
    generalize upd G1 l (HO.lst _) = G2 at e2 w2 hl
    walk_at "zk"
    refine ⟨x, A.C_Prices, dx, _, rfl, Wd.is1 w2, T.cl_Prices, T.nf_Prices_literals, by show 0 < 1000; decide, ?_⟩
    have w3 := w2.put1 (o := .ins A.C_Prices dx [("literals", .ref l)])
    rw [show putF "literals" (.ref l) [] = ([("literals", .ref l)] : List (Str × V)) from rfl]
    generalize upd H1 x _ = H3 at w3
    dsimp only
    walk_at "zk"
    refine ⟨3, 259, rfl, rfl, RgOk.of_le (by decide) (by decide) (by decide) (by decide), NewO.good w3 fun ps G4 H4 e4 w4 h4 => ?_⟩
    have e24 := (e1.trans e2).trans e4
    walk_at "zk"
    refine dc_l (SqL.of h4) (fun i kvs _ => kvs = rowsK 3 i (spanO ns)) w4 rfl (fun _ => rfl) ?_ ?_
    · rintro i v D G' H' kvs hx e' w' rfl
      have hi := (List.getElem?_eq_some_iff.mp hx).1
      rw [rgV_length] at hi
      have hi : i < 256 := hi
      obtain rfl : v = .int (3 + (i : Nat)) := by
        unfold rgV at hx
        rw [List.getElem?_map, List.getElem?_range (by exact hi)] at hx
        exact (Option.some.inj hx).symm
      walk_at "zk"
      refine ⟨G', _, _, w', rfl, by omega, fun p G5 H5 e5 w5 h5 => ?_⟩
      walk_at "zk"
      have hc : 0 ≤ cnt kc_LENGTHS (3 + (i : Nat)) := cnt_ge (n := 3) (by decide) (by omega)
      refine ⟨p, a, ns, 257 + cnt kc_LENGTHS (3 + (i : Nat)), _, _, rfl, SqT.of (w5.at h5), ((ha.up (e24.trans e')).up e5).up w5.ex, by omega, ?_⟩
      refine dc_put (k := (Sum.inl (3 + ((i : Nat) : Int)) : Key)) w5 (e'.trans e5) rfl (by rw [rowsK_len]; omega) ?_
      exact rowsK_put 3 i (spanO ns)
    rintro d1 G5 H5 kvs e5 w5 rfl
    rw [rgV_length] at w5
    obtain ⟨o, rfl, ho, e6, w6⟩ := w5.freeze1
    have hd1 : upd G5 d1 (.dK (rowsK 3 ((259 : Int) - 3).toNat (spanO ns))) d1 = some (.dK (rowsK 3 256 (spanO ns))) := upd_same
    generalize upd G5 d1 (HO.dK _) = G6 at e6 w6 hd1
    walk_at "zk"
    refine ⟨x, A.C_Prices, dx, _, rfl, Wd.is1 w6, T.cl_Prices, T.nf_Prices_span_costs, by show 1 < 1000; decide, ?_⟩
    have w7 := w6.put1 (o := .ins A.C_Prices dx [("literals", .ref l), ("span_costs", .ref d1)])
    rw [show putF "span_costs" (.ref d1) [("literals", .ref l)] = ([("literals", .ref l), ("span_costs", .ref d1)] : List (Str × V)) from rfl]
    generalize upd H5 x _ = H7 at w7
    dsimp only
    have e26 := (e4.trans e5).trans e6
    have e06 := (e1.trans e2).trans e26
    walk_at "zk"
    refine dc_r2 (by omega) (fun i kvs _ => kvs = rowsK 1 i (farO ms)) w7 rfl (fun _ => rfl) ?_ ?_
    · rintro i D G' H' kvs hi e' w' rfl
      walk_at "zk"
      refine ⟨G', _, _, w', rfl, by omega, fun p G5 H5 e5 w5 h5 => ?_⟩
      walk_at "zk"
      have hc : 0 ≤ cnt kc_DISTANCES (1 + (i : Nat)) := cnt_ge (n := 1) (by decide) (by omega)
      refine ⟨p, b, ms, cnt kc_DISTANCES (1 + (i : Nat)), _, _, rfl, SqT.of (w5.at h5), ((hb.up (e06.trans e')).up e5).up w5.ex, by omega, ?_⟩
      refine dc_put (k := (Sum.inl (1 + ((i : Nat) : Int)) : Key)) w5 (e'.trans e5) rfl (by rw [rowsK_len]; omega) ?_
      exact rowsK_put 1 i (farO ms)
    rintro d2 G8 H8 kvs e8 w8 rfl
    rw [show ((n : Int) + 1 - 1).toNat = n by omega] at w8
    obtain ⟨o, rfl, ho, e9, w9⟩ := w8.freeze1
    have hd2 : upd G8 d2 (.dK (rowsK 1 n (farO ms))) d2 = some (.dK (rowsK 1 n (farO ms))) := upd_same
    generalize upd G8 d2 (HO.dK _) = G9 at e9 w9 hd2
    walk_at "zk"
    refine ⟨x, A.C_Prices, dx, _, rfl, Wd.is1 w9, T.cl_Prices, T.nf_Prices_far_costs, by show 2 < 1000; decide, ?_⟩
    have w10 := w9.put1 (o := .ins A.C_Prices dx (priF l d1 d2))
    rw [show putF "far_costs" (.ref d2) [("literals", .ref l), ("span_costs", .ref d1)] = priF l d1 d2 from rfl]
    generalize upd H8 x _ = H10 at w10
    dsimp only
    walk_at "zk"
    have e69 := e8.trans e9
    exact k l d1 d2 G9 H10 (e06.trans e69) w10 ⟨(e26.trans e69) _ _ hl, e69 _ _ hd1, hd2⟩

/-! ### lists that stand for lists -/
def Rl {β : Type} (R : Hp → V → β → Prop) (G : Hp) (xs : List V) (bs : List β) : Prop := xs.length = bs.length ∧ ∀ e ∈ xs.zip bs, R G e.1 e.2
theorem Rl.nil {β : Type} {R : Hp → V → β → Prop} {G : Hp} : Rl R G [] [] := ⟨rfl, fun _ h => nomatch h⟩
theorem Rl.up {β : Type} {R : Hp → V → β → Prop} (u : ∀ {G G' : Hp} {v : V} {b : β}, Same G G' → R G v b → R G' v b) {G G' : Hp} {xs : List V} {bs : List β} (e : Same G G') (h : Rl R G xs bs) : Rl R G' xs bs := ⟨h.1, fun x hx => u e (h.2 x hx)⟩
theorem Rl.app {β : Type} {R : Hp → V → β → Prop} {G : Hp} {xs ys : List V} {bs cs : List β} (h : Rl R G xs bs) (h2 : Rl R G ys cs) : Rl R G (xs ++ ys) (bs ++ cs) := by
  refine ⟨by rw [List.length_append, List.length_append, h.1, h2.1], fun e he => ?_⟩
  rw [List.zip_append h.1] at he
  exact (List.mem_append.mp he).elim (h.2 e) (h2.2 e)
theorem Rl.snoc {β : Type} {R : Hp → V → β → Prop} {G : Hp} {xs : List V} {bs : List β} {v : V} {b : β} (h : Rl R G xs bs) (hv : R G v b) : Rl R G (xs ++ [v]) (bs ++ [b]) :=
  h.app ⟨rfl, fun e he => by rw [List.mem_singleton.mp he]; exact hv⟩
theorem Rl.atV {β : Type} {R : Hp → V → β → Prop} {G : Hp} {xs : List V} {bs : List β} (h : Rl R G xs bs) {i : Nat} {v : V} (hv : xs[i]? = some v) : ∃ b, bs[i]? = some b ∧ R G v b := by
  have hl := (List.getElem?_eq_some_iff.mp hv).1
  rw [h.1] at hl
  refine ⟨bs[i], List.getElem?_eq_getElem hl, h.2 (v, bs[i]) ?_⟩
  refine List.mem_of_getElem? (i := i) ?_
  rw [List.getElem?_zip_eq_some]
  exact ⟨hv, List.getElem?_eq_getElem hl⟩

/-! ### what is best -/
/-- P tells what there is: something is there if there is any, and none is less -/
def Bst {α : Type} (P : Int → α → Prop) (o : Option (Int × α)) : Prop := (∀ c x, o = some (c, x) → P c x) ∧ ∀ c x, P c x → ∃ c' x', o = some (c', x') ∧ c' ≤ c
theorem Bst.non {α : Type} {P : Int → α → Prop} (h : ∀ c x, ¬ P c x) : Bst P none := ⟨(fun _ _ e => nomatch e), fun c x p => absurd p (h c x)⟩
theorem Bst.iff {α : Type} {P Q : Int → α → Prop} {o : Option (Int × α)} (h : Bst P o) (e : ∀ c x, P c x ↔ Q c x) : Bst Q o := ⟨fun c x eo => (e c x).mp (h.1 c x eo), fun c x q => h.2 c x ((e c x).mpr q)⟩
theorem Bst.one {α : Type} {c : Int} {x : α} : Bst (fun c' x' => c' = c ∧ x' = x) (some (c, x)) := by
  refine ⟨fun c' x' e => ?_, fun c' x' h => ⟨c, x, rfl, by omega⟩⟩
  injection e with e
  injection e with e1 e2
  exact ⟨e1.symm, e2.symm⟩
theorem Bst.les {α : Type} {P Q R : Int → α → Prop} {a b : Option (Int × α)} (h1 : Bst P a) (h2 : Bst Q b) (e : ∀ c x, R c x ↔ P c x ∨ Q c x) : Bst R (les a b) := by
  cases a with
  | none =>
    refine ⟨fun c x eo => (e c x).mpr (.inr (h2.1 c x eo)), fun c x r => ?_⟩
    rcases (e c x).mp r with p | q
    · obtain ⟨_, _, z, _⟩ := h1.2 c x p
      exact nomatch z
    · exact h2.2 c x q
  | some a =>
    obtain ⟨ca, xa⟩ := a
    cases b with
    | none =>
      refine ⟨fun c x eo => (e c x).mpr (.inl (h1.1 c x eo)), fun c x r => ?_⟩
      rcases (e c x).mp r with p | q
      · exact h1.2 c x p
      · obtain ⟨_, _, z, _⟩ := h2.2 c x q
        exact nomatch z
    | some b =>
      obtain ⟨cb, xb⟩ := b
      show Bst R (if cb < ca then some (cb, xb) else some (ca, xa))
      split
      · rename_i hlt
        refine ⟨fun c x eo => (e c x).mpr (.inr (h2.1 c x eo)), fun c x r => ?_⟩
        rcases (e c x).mp r with p | q
        · obtain ⟨c', x', z, hz⟩ := h1.2 c x p
          injection z with z
          injection z with z1 z2
          exact ⟨cb, xb, rfl, by omega⟩
        · exact h2.2 c x q
      · rename_i hlt
        refine ⟨fun c x eo => (e c x).mpr (.inl (h1.1 c x eo)), fun c x r => ?_⟩
        rcases (e c x).mp r with p | q
        · exact h1.2 c x p
        · obtain ⟨c', x', z, hz⟩ := h2.2 c x q
          injection z with z
          injection z with z1 z2
          exact ⟨ca, xa, rfl, by omega⟩
/-! ### matches -/
inductive Tkn
  | lit (b : Int)
  | mat (l m : Nat)
def TokV (G : Hp) (y : V) : Tkn → Prop
  | .lit b => y = .int b
  | .mat l m => ∃ q, y = .ref q ∧ G q = some (.tup [.int (l : Int), .int (m : Int)])
theorem TokV.up {G G' : Hp} {y : V} {t : Tkn} (e : Same G G') (h : TokV G y t) : TokV G' y t := by
  cases t with
  | lit b => exact h
  | mat l m =>
    obtain ⟨q, h1, h2⟩ := h
    exact ⟨q, h1, e _ _ h2⟩
def P1 (eqs : List Nat) (f : Nat → Option Int) (i m : Nat) (c : Int) (s : Nat) : Prop := 1 ≤ s ∧ s ≤ i ∧ eqs[s - 1]? = some m ∧ f s = some c
def P2 (eqs : List Nat) (f : Nat → Option Int) (m : Nat) (c : Int) (s : Nat) : Prop := 1 ≤ s ∧ f s = some c ∧ ∃ m', eqs[s - 1]? = some m' ∧ m ≤ m'
theorem P1_succ {eqs : List Nat} {f : Nat → Option Int} {i m m0 : Nat} {c0 : Int} (h : eqs[i]? = some m0) (hf : f (i + 1) = some c0) (c : Int) (s : Nat) : P1 eqs f (i + 1) m c s ↔ P1 eqs f i m c s ∨ m = m0 ∧ c = c0 ∧ s = i + 1 := by
  unfold P1
  constructor
  · rintro ⟨h1, h2, h3, h4⟩
    by_cases hs : s = i + 1
    · subst hs
      rw [Nat.add_sub_cancel, h] at h3
      rw [hf] at h4
      injection h3 with h3
      injection h4 with h4
      exact .inr ⟨h3.symm, h4.symm, rfl⟩
    · exact .inl ⟨h1, by omega, h3, h4⟩
  · rintro (⟨h1, h2, h3, h4⟩ | ⟨rfl, rfl, rfl⟩)
    · exact ⟨h1, by omega, h3, h4⟩
    · exact ⟨by omega, Nat.le_refl _, by rw [Nat.add_sub_cancel]; exact h, hf⟩
theorem P1_skip {eqs : List Nat} {f : Nat → Option Int} {i m : Nat} (hf : f (i + 1) = none) (c : Int) (s : Nat) : P1 eqs f i m c s ↔ P1 eqs f (i + 1) m c s := by
  unfold P1
  constructor
  · rintro ⟨h1, h2, h3, h4⟩
    exact ⟨h1, by omega, h3, h4⟩
  · rintro ⟨h1, h2, h3, h4⟩
    refine ⟨h1, ?_, h3, h4⟩
    by_cases hs : s = i + 1
    · subst hs
      rw [hf] at h4
      exact nomatch h4
    · omega
theorem P2_step {eqs : List Nat} {f : Nat → Option Int} {m : Nat} (c : Int) (s : Nat) : P2 eqs f m c s ↔ P1 eqs f eqs.length m c s ∨ P2 eqs f (m + 1) c s := by
  unfold P1 P2
  constructor
  · rintro ⟨h1, h4, m', h3, h2⟩
    by_cases hm : m = m'
    · subst hm
      have := (List.getElem?_eq_some_iff.mp h3).1
      exact .inl ⟨h1, by omega, h3, h4⟩
    · exact .inr ⟨h1, h4, m', h3, by omega⟩
  · rintro (⟨h1, h2, h3, h4⟩ | ⟨h1, h4, m', h3, h2⟩)
    · exact ⟨h1, h4, m, h3, Nat.le_refl _⟩
    · exact ⟨h1, h4, m', h3, by omega⟩
def stepR (y : V) (s : Nat) : Prop := y = .int (s : Int)
def BL (G : Hp) (fs : List V) (os : Nat → Option (Int × Nat)) : Prop := fs.length = 260 ∧ ∀ m, m < 260 → ∃ v, fs[m]? = some v ∧ OptR stepR G v (os m)
theorem BL.up {G G' : Hp} {fs : List V} {os : Nat → Option (Int × Nat)} (e : Same G G') (h : BL G fs os) : BL G' fs os := ⟨h.1, fun m hm => let ⟨v, h1, h2⟩ := h.2 m hm; ⟨v, h1, h2.up e⟩⟩
theorem BL.set {G : Hp} {fs : List V} {os : Nat → Option (Int × Nat)} {m : Nat} {v : V} {o : Option (Int × Nat)} (h : BL G fs os) (hm : m < 260) (hv : OptR stepR G v o) : BL G (fs.set m v) (fun i => if i = m then o else os i) := by
  refine ⟨by rw [List.length_set, h.1], fun i hi => ?_⟩
  by_cases e : i = m
  · subst e
    refine ⟨v, by rw [List.getElem?_set_self (by rw [h.1]; exact hm)], ?_⟩
    dsimp only
    rw [if_pos rfl]
    exact hv
  · obtain ⟨u, h1, h2⟩ := h.2 i hi
    refine ⟨u, by rw [List.getElem?_set_ne (fun z => e z.symm)]; exact h1, ?_⟩
    dsimp only
    rw [if_neg e]
    exact h2
theorem BL.non {G : Hp} {n : Nat} (h : n = 260) : BL G (List.replicate n .non) fun _ => none := by
  subst h
  refine ⟨List.length_replicate, fun m hm => ⟨.non, ?_, rfl⟩⟩
  rw [List.getElem?_replicate, if_pos hm]
def chX (G : Hp) (v : V) (t : Int × Tkn) : Prop := ∃ p y, v = .ref p ∧ G p = some (.tup [.int t.1, y]) ∧ TokV G y t.2
theorem chX.up {G G' : Hp} {v : V} {t : Int × Tkn} (e : Same G G') (h : chX G v t) : chX G' v t := let ⟨p, y, h1, h2, h3⟩ := h; ⟨p, y, h1, e _ _ h2, h3.up e⟩
theorem Rl.upC {G G' : Hp} {xs : List V} {bs : List (Int × Tkn)} (e : Same G G') (h : Rl chX G xs bs) : Rl chX G' xs bs := ⟨h.1, fun x hx => (h.2 x hx).up e⟩
/-- the spans that are known -/
def knw (os : Nat → Option (Int × Nat)) (g : Nat → Option Int) (i : Nat) : List Nat := ((List.range i).map (· + 3)).filter fun m => (os m).isSome && (g m).isSome
def chO (os : Nat → Option (Int × Nat)) (g : Nat → Option Int) (m : Nat) : Int × Tkn := match os m, g m with
  | some (c, s), some d => (d + c, .mat m s)
  | _, _ => (0, .lit 0)
theorem knw_succ (os : Nat → Option (Int × Nat)) (g : Nat → Option Int) (i : Nat) : knw os g (i + 1) = knw os g i ++ if (os (i + 3)).isSome && (g (i + 3)).isSome then [i + 3] else [] := by
  unfold knw
  rw [List.range_succ, List.map_append, List.filter_append]
  congr 1
  show List.filter _ [i + 3] = _
  rw [List.filter_cons]
  rfl
theorem knw_len (os : Nat → Option (Int × Nat)) (g : Nat → Option Int) (i : Nat) : (knw os g i).length ≤ i := by
  unfold knw
  refine Nat.le_trans (List.length_filter_le _ _) ?_
  rw [List.length_map, List.length_range]
  exact Nat.le_refl _
theorem knw_mem {os : Nat → Option (Int × Nat)} {g : Nat → Option Int} {i m : Nat} : m ∈ knw os g i ↔ 3 ≤ m ∧ m < i + 3 ∧ ∃ c s d, os m = some (c, s) ∧ g m = some d := by
  unfold knw
  rw [List.mem_filter, List.mem_map, Bool.and_eq_true, Option.isSome_iff_exists, Option.isSome_iff_exists]
  constructor
  · rintro ⟨⟨j, hj, rfl⟩, ⟨⟨c, s⟩, h1⟩, ⟨d, h2⟩⟩
    have := List.mem_range.mp hj
    exact ⟨by omega, by omega, c, s, d, h1, h2⟩
  · rintro ⟨h1, h2, c, s, d, h3, h4⟩
    exact ⟨⟨m - 3, List.mem_range.mpr (by omega), by omega⟩, ⟨_, h3⟩, ⟨_, h4⟩⟩
def MatQ (eqs : List Nat) (f g : Nat → Option Int) (chs : List (Int × Tkn)) : Prop :=
  (∀ ct ∈ chs, ∃ m s a b, ct = (a + b, Tkn.mat m s) ∧ 3 ≤ m ∧ m ≤ 258 ∧ g m = some a ∧ P2 eqs f m b s) ∧
  ∀ m s a b, 3 ≤ m → m ≤ 258 → g m = some a → P2 eqs f m b s → ∃ c s', (c, Tkn.mat m s') ∈ chs ∧ c ≤ a + b
theorem matQ_of {eqs : List Nat} {f g : Nat → Option Int} {os : Nat → Option (Int × Nat)} (h : ∀ m, 3 ≤ m → m ≤ 258 → Bst (P2 eqs f m) (os m)) : MatQ eqs f g ((knw os g 256).map (chO os g)) := by
  refine ⟨fun ct hct => ?_, fun m s a b h1 h2 h3 h4 => ?_⟩
  · obtain ⟨m, hm, rfl⟩ := List.mem_map.mp hct
    obtain ⟨h1, h2, c, s, d, h3, h4⟩ := knw_mem.mp hm
    refine ⟨m, s, d, c, ?_, h1, by omega, h4, (h m h1 (by omega)).1 _ _ h3⟩
    unfold chO
    rw [h3, h4]
  · obtain ⟨c', s', h5, h6⟩ := (h m h1 h2).2 _ _ h4
    refine ⟨a + c', s', List.mem_map.mpr ⟨m, knw_mem.mpr ⟨h1, by omega, c', s', a, h5, h3⟩, ?_⟩, by omega⟩
    unfold chO
    rw [h5, h3]

def farN (ms : List Int) (s : Nat) : Option Int := farO ms (s : Int)
def spanN (ns : List Int) (m : Nat) : Option Int := spanO ns (m : Int)
def sp_matches (K : PySem.W.Frag) (C : Addr) : Sp := fun vs H Q _ => ∃ (G : Hp) (W : Wl) (x dx r l d1 d2 : Addr) (ns ms : List Int) (n : Nat) (eqs : List Nat), Wd G W H ∧ vs = [.ref x, .ref r] ∧ G x = some (.ins C dx (priF l d1 d2)) ∧ PriD G l d1 d2 ns ms n ∧ HL G r (eqs.map fun m : Nat => (m : Int)) ∧ eqs.length ≤ n ∧ n ≤ 100 ∧ (∀ m ∈ eqs, m ≤ 258) ∧
  ∀ q xs chs G' H', Same G G' → Wd G' W H' → G' q = some (.lst xs) → Rl chX G' xs chs → chs.length ≤ 256 → MatQ eqs (farN ms) (spanN ns) chs → Q (.ref q) H'
theorem far_get {H : Hp} {d2 : Addr} {ms : List Int} {n i : Nat} (h : Rd H d2 (.dK (rowsK 1 n (farO ms)))) (hi : i < n) : DGet H d2 (.int ((i + 1 : Nat) : Int)) (some (oV (farN ms (i + 1)))) := by
  refine .inl ⟨_, Sum.inl ((i + 1 : Nat) : Int), h, rfl, ?_⟩
  have := rowsK_val (lo := 1) (f := farO ms) hi
  rw [show (1 : Int) + (i : Nat) = ((i + 1 : Nat) : Int) by omega] at this
  exact this.symm
theorem span_get {H : Hp} {d1 : Addr} {ns : List Int} {m : Nat} (h : Rd H d1 (.dK (rowsK 3 256 (spanO ns)))) (h1 : 3 ≤ m) (h2 : m ≤ 258) : DGet H d1 (.int (m : Int)) (some (oV (spanN ns m))) := by
  refine .inl ⟨_, Sum.inl (m : Int), h, rfl, ?_⟩
  have := rowsK_val (lo := 3) (f := spanO ns) (n := 256) (i := m - 3) (by omega)
  rw [show (3 : Int) + ((m - 3 : Nat) : Int) = (m : Int) by omega] at this
  exact this.symm
theorem ok_Prices_matches (T : Txt K mg A) : FnOk P w K mg base CX0 4 A.f_Prices_matches A.fd_Prices_matches sP_Prices_matches (sp_matches K A.C_Prices) := by
  refine okD T.F_Prices_matches sc_Prices_matches (fun vs H Q E h => ?_) (fun cdv Ar outer s H vs Q E hr h => ⟨_, (pss_cons (ps_set (i := 2) sc_Prices_matches.nd rfl (Or.inr rfl) (pe_op op_rep (pe_lst (pa_cons (pe_non) pa_nil)) (pe_op op_add (pe_glob (v := .int 258) rfl T.m_MOST_LENGTH ⟨_, rfl⟩) (pe_int))))
      (pss_cons (ps_for PassesOwn.never rfl (pi_enum1 (by rfl) T.z_enumerate (pa_cons (pv 1) (pa_cons (pe_int) pa_nil))) (pg_tup rfl (pgs_cons (pg_name (i := 3) sc_Prices_matches.nd rfl (Or.inl rfl)) (pgs_cons (pg_name (i := 4) sc_Prices_matches.nd rfl (Or.inl rfl)) pgs_nil))) (pss_one (ps_if (pt_cmpR op_notN (pe_dget (units1 hr.units) (pe_fld (pv 0) rfl) (pv 3) (fun _ _ => rfl)) (pe_non) (nomark _)) (pss_one (ps_asg (pe_call (ok_lesser T) (hr.mono (by decide)) rfl T.m_lesser T.F_lesser.kp T.b_lesser .nil pass0 (pa_cons (pe_ix ix_list (pv 2) (pv 4) (fun _ _ => rfl)) (pa_cons (pe_tup (pa_cons (pe_dget (units1 hr.units) (pe_fld (pv 0) rfl) (pv 3) (fun _ _ => rfl)) (pa_cons (pv 3) pa_nil))) pa_nil))) (pg_sub (pv 2) (pv 4) set_list))) pss_nil)))
      (pss_cons (ps_for PassesOwn.never rfl (pi_range3 (by rfl) T.z_range (pa_cons (pe_glob (v := .int 258) rfl T.m_MOST_LENGTH ⟨_, rfl⟩) (pa_cons (pe_op op_sub (pe_glob (v := .int 3) rfl T.m_LEAST_LENGTH ⟨_, rfl⟩) (pe_int)) (pa_cons (pe_un un_neg (pe_int)) pa_nil)))) (pg_name (i := 5) sc_Prices_matches.nd rfl (Or.inl rfl)) (pss_one (ps_asg (pe_call (ok_lesser T) (hr.mono (by decide)) rfl T.m_lesser T.F_lesser.kp T.b_lesser .nil pass0 (pa_cons (pe_ix ix_list (pv 2) (pv 5) (fun _ _ => rfl)) (pa_cons (pe_ix ix_list (pv 2) (pe_op op_add (pv 5) (pe_int)) (fun _ _ => rfl)) pa_nil))) (pg_sub (pv 2) (pv 5) set_list))))
      (pss_cons (ps_lock (ps_setLc (i := 6) (own := [("span", 5)]) (g := gName 5) rfl sc_Prices_matches.nd rfl rfl (sw_true rfl rfl rfl (by decide +kernel)) (pi_keys (pe_fld (pv 0) rfl)) (blkOk_by (own := [("span", 5)]) (N := sN_Prices_matches) (sc := defScope s_Prices_matches) (by decide +kernel)) (fun _ _ _ _ _ => pg_name (i := 5) sc_Prices_matches.nd rfl (Or.inl rfl)) (fun _ _ _ _ _ => (pts_one (PW.pt (pw_and (pt_cmpR op_notN (pe_ix (show IxR _ (rIxL K) from ix_list) (pv 2) (pv 5) (fun _ _ => rfl)) (pe_non) (nomark _)) (pw_and1 (pt_cmpR op_notN (pe_dget (units1 hr.units) ((show PE _ _ (tFld K _ "span_costs") from pe_fld (pv 0) rfl)) (pv 5) (fun _ _ => rfl)) (pe_non) (nomark _))))))) (fun _ _ _ _ _ => (pv 5))))
      (pss_one (ps_ret (pe_lc (own := [("span", 5)]) (g := gName 5) (tt := tYes) rfl sc_Prices_matches.nd (pi_list (pv 6)) (blkOk_by (own := [("span", 5)]) (N := sN_Prices_matches) (sc := defScope s_Prices_matches) (by decide +kernel)) (fun _ _ _ _ _ => pg_name (i := 5) sc_Prices_matches.nd rfl (Or.inl rfl)) (fun _ _ _ _ _ => pts_nil) (fun _ _ _ _ _ => (pe_tup (pa_cons (pe_op op_add (pe_dget (units1 hr.units) ((show PE _ _ (tFld K _ "span_costs") from pe_fld (pv 0) rfl)) (pv 5) (fun _ _ => rfl)) (pe_ix (show IxR _ (rIxT K) from ix_tup) (pe_ix (show IxR _ (rIxL K) from ix_list) (pv 2) (pv 5) (fun _ _ => rfl)) (pe_int) (fun _ _ => rfl))) (pa_cons (pe_tup (pa_cons (pv 5) (pa_cons (pe_ix (show IxR _ (rIxT K) from ix_tup) (pe_ix (show IxR _ (rIxL K) from ix_list) (pv 2) (pv 5) (fun _ _ => rfl)) (pe_int) (fun _ _ => rfl)) pa_nil))) pa_nil))))))))))), ?_⟩)
  · obtain ⟨G, W, x, dx, r, l, d1, d2, ns, ms, n, eqs, _, rfl, _⟩ := h
    rfl
  · obtain ⟨G, W, x, dx, r, l, d1, d2, ns, ms, n, eqs, w, rfl, hx, hp, hr', hn, hn2, he, k⟩ := h
    walk_at "zk"
    refine ⟨small (by simp), NewO.good w fun p1 G1 H1 e1 w1 h1 => ?_⟩
    walk_at "zk"
    refine st_repOV (hUp w1 h1) (by decide) (by decide) w1 fun b H2 w2 => ?_
    have hb0 : BL G1 (List.replicate ((258 : Int) + 2).toNat V.non) (fun _ => none) := BL.non (by decide)
    generalize List.replicate ((258 : Int) + 2).toNat V.non = fs0 at w2 hb0
    walk_at "zk"
    refine for_enum1 (i1 := 3) (i2 := 4) (hr'.up e1).seq (fun i σ G' W' => ∃ fs os x3 x4, W' = (b, Is (.lst fs)) :: W ∧ BL G' fs os ∧ (∀ m, m < 260 → Bst (P1 eqs (farN ms) i m) (os m)) ∧ σ = [some (.ref x), some (.ref r), some (.ref b), x3, x4, none, none]) w2
      ⟨fs0, _, none, none, rfl, hb0, fun m hm => Bst.non fun c s h => by have := h.1; have := h.2.1; omega, rfl⟩ ?_ ?_
    · rintro i y σ' G3 G4 W' H4 hy e3 ⟨fs, os, x3, x4, rfl, hB, hO, rfl⟩ e4 w4
      obtain ⟨m, hm, rfl⟩ : ∃ m : Nat, eqs[i]? = some m ∧ y = .int (m : Int) := by
        rw [List.map_map, List.getElem?_map] at hy
        obtain ⟨m, hm, e⟩ := Option.map_eq_some_iff.mp hy
        exact ⟨m, hm, e.symm⟩
      have hi : i < eqs.length := (List.getElem?_eq_some_iff.mp hm).1
      have hm2 := he m (List.mem_of_getElem? hm)
      have e14 := (e1.trans e3).trans e4
      have hx4 := e14 _ _ hx
      have hp4 := hp.up e14
      have hB4 := hB.up e4
      have hdg : DGet H4 d2 (.int ((i + 1 : Nat) : Int)) (some (oV (farN ms (i + 1)))) := far_get (.inl (w4.at hp4.2.2)) (by omega)
      walk_at "zk"
      refine ⟨x, A.C_Prices, dx, _, _, rfl, w4.at hx4, T.cl_Prices, T.nf_Prices_far_costs, rfl, ?_⟩
      walk_at "zk"
      refine ⟨d2, _, rfl, hdg, ?_⟩
      walk_at "zk"
      refine ⟨rfl, ?_⟩
      cases hf : farN ms (i + 1) with
      | none =>
        rw [show (!decide (oV none = V.non)) = false from rfl]
        walk_at "zk"
        exact st_btw (e3.trans e4) w4 ⟨fs, os, _, _, rfl, hB4, fun m hm => (hO m hm).iff (P1_skip hf), rfl⟩
      | some c =>
        rw [show (!decide (oV (some c) = V.non)) = true from rfl]
        obtain ⟨v, hv, hov⟩ := hB4.2 m (by omega)
        walk_at "zk"
        refine st_ixL (SqL.of (Wd.is1 w4)) (atI_nat hv) ?_
        walk_at "zk"
        refine ⟨x, A.C_Prices, dx, _, _, rfl, w4.at hx4, T.cl_Prices, T.nf_Prices_far_costs, rfl, ?_⟩
        rw [hf] at hdg
        walk_at "zk"
        refine ⟨d2, _, rfl, hdg, ?_⟩
        walk_at "zk"
        refine ⟨small (by simp), NewO.good w4 fun p5 G5 H5 e5 w5 h5 => ?_⟩
        have hy5 : OptR stepR G5 (.ref p5) (some (c, i + 1)) := ⟨p5, _, rfl, h5, rfl⟩
        refine ⟨v, .ref p5, _, _, rfl, ((hov.up e5).up w5.ex).c, (hy5.up w5.ex).c, ?_⟩
        walk_at "zk"
        refine st_setL (Wd.is1 w5) (ixNn (by rw [hB.1]; omega)) ?_
        refine st_btw ((e3.trans e4).trans e5) (w5.put1) ⟨fs.set m _, fun i' => if i' = m then les (os m) (some (c, i + 1)) else os i', _, _, rfl, (hB4.up e5).set (by omega) ((hov.up e5).les hy5), fun m' hm' => ?_, rfl⟩
        dsimp only
        by_cases e : m' = m
        · subst e
          rw [if_pos rfl]
          refine (hO m' hm').les Bst.one fun c' s' => (P1_succ hm hf c' s').trans ?_
          rw [show (m' = m' ∧ c' = c ∧ s' = i + 1) ↔ (c' = c ∧ s' = i + 1) from ⟨fun h => h.2, fun h => ⟨rfl, h⟩⟩]
        · rw [if_neg e]
          exact (hO m' hm').iff fun c' s' => ⟨fun h => (P1_succ hm hf c' s').mpr (.inl h), fun h => ((P1_succ hm hf c' s').mp h).resolve_right fun h => e h.1⟩
    · rintro σ' G3 W3 H3 e3 w3 ⟨fs, os, x3, x4, rfl, hB, hO, rfl⟩
      rw [List.length_map, List.length_map] at hO
      have e03 := e1.trans e3
      clear h1 hb0 w2
      walk_at "zk"
      have hrg : RgC 258 (3 - 1) (-1) 256 := RgC.neg (by decide) (by decide) (by decide) (by decide)
      refine for_r3 hrg (fun i σ G' W' => ∃ fs os x5, W' = (b, Is (.lst fs)) :: W ∧ BL G' fs os ∧ (∀ m, m < 260 → if m < 259 - i then Bst (P1 eqs (farN ms) eqs.length m) (os m) else Bst (P2 eqs (farN ms) m) (os m)) ∧ σ = [some (.ref x), some (.ref r), some (.ref b), x3, x4, x5, none]) w3
        ⟨fs, os, none, rfl, hB, fun m hm => ?_, rfl⟩ ?_ ?_
      · split
        · exact hO m hm
        · have hno : ∀ c s, ¬ P2 eqs (farN ms) (m + 1) c s := fun c s ⟨_, _, m', h3, h4⟩ => by
            have := he m' (List.mem_of_getElem? h3)
            omega
          exact (hO m hm).iff fun c s => ⟨fun h => (P2_step c s).mpr (.inl h), fun h => ((P2_step c s).mp h).resolve_right (hno c s)⟩
      · rintro i σ' G4 W4 H4 hi e4 w4 ⟨fs, os, x5, rfl, hB, hO, rfl⟩
        obtain ⟨m, hm⟩ : ∃ m, m = 258 - i := ⟨_, rfl⟩
        have hmi : (258 : Int) + (i : Int) * -1 = (m : Int) := by omega
        rw [hmi]
        have h1 := hO m (by omega)
        have h2 := hO (m + 1) (by omega)
        rw [if_pos (by omega)] at h1
        rw [if_neg (by omega)] at h2
        obtain ⟨v1, hv1, ho1⟩ := hB.2 m (by omega)
        obtain ⟨v2, hv2, ho2⟩ := hB.2 (m + 1) (by omega)
        walk_at "zk"
        refine st_ixL (SqL.of (Wd.is1 w4)) (atI_nat hv1) ?_
        walk_at "zk"
        refine st_ixL (SqL.of (Wd.is1 w4)) (show atI fs ((m : Int) + 1) = some v2 by rw [show (m : Int) + 1 = ((m + 1 : Nat) : Int) by omega]; exact atI_nat hv2) ?_
        walk_at "zk"
        refine ⟨v1, v2, _, _, rfl, (ho1.up w4.ex).c, (ho2.up w4.ex).c, ?_⟩
        walk_at "zk"
        refine st_setL (Wd.is1 w4) (ixNn (by rw [hB.1]; omega)) ?_
        refine st_btw e4 (w4.put1) ⟨fs.set m _, fun i' => if i' = m then les (os m) (os (m + 1)) else os i', _, rfl, hB.set (by omega) (ho1.les ho2), fun m' hm' => ?_, rfl⟩
        dsimp only
        by_cases e : m' = m
        · subst e
          rw [if_pos rfl, if_neg (by omega)]
          exact h1.les h2 P2_step
        · rw [if_neg e]
          have h3 := hO m' hm'
          by_cases hlt : m' < 259 - i
          · rw [if_pos hlt] at h3
            rw [if_pos (by omega)]
            exact h3
          · rw [if_neg hlt] at h3
            rw [if_neg (by omega)]
            exact h3
      · rintro σ' G4 W4 H4 e4 w4 ⟨fs, os, x5, rfl, hB, hO, rfl⟩
        have hO2 : ∀ m, 3 ≤ m → m ≤ 258 → Bst (P2 eqs (farN ms) m) (os m) := fun m h1 h2 => by
          have := hO m (by omega)
          rw [if_neg (by omega)] at this
          exact this
        have e04 := e03.trans e4
        obtain ⟨o, rfl, ho, e5, w5⟩ := w4.freeze1
        have hb5 : (upd G4 b (.lst fs)) b = some (.lst fs) := upd_same
        have hB5 := hB.up e5
        generalize upd G4 b (HO.lst fs) = G5 at e5 w5 hb5 hB5
        have e05 := e04.trans e5
        have hx5 := e05 _ _ hx
        have hp5 := hp.up e05
        clear hB hO w3 w4 ho w
        walk_at "zk"
        refine st_lockG w5 hp5.2.1 fun od H6 w6 => ?_
        have hne : x ≠ d1 := fun z => by
          have h2 := hp5.2.1
          rw [← z, hx5] at h2
          exact nomatch h2
        have hx6 : (del G5 d1) x = some (.ins A.C_Prices dx (priF l d1 d2)) := del_at hx5 hne
        have hb6 : SqL K (del G5 d1) b fs := del_seq hp5.2.1 (SqL.of hb5)
        walk_at "zk"
        refine ⟨x, A.C_Prices, dx, _, _, rfl, w6.at hx6, T.cl_Prices, T.nf_Prices_span_costs, rfl, ?_⟩
        refine lc_keys (d := d1) (od := od) (kvs := rowsK 3 256 (spanO ns)) (fun i acc _ => acc = (knw os (spanN ns) i).map fun m : Nat => V.int (m : Int)) w6 List.mem_cons_self rfl (fun _ => rfl) ?_ ?_
        · rintro i ky v D G7 H7 acc hkv e7 w7 rfl
          have hi : i < 256 := by
            have := (List.getElem?_eq_some_iff.mp hkv).1
            rw [rowsK_len] at this
            exact this
          rw [rowsK_at hi] at hkv
          injection hkv with hkv
          injection hkv with hk1 hk2
          subst hk1
          have hkk : kV (Sum.inl ((3 : Int) + (i : Nat))) = V.int ((i + 3 : Nat) : Int) := by
            show V.int _ = _
            congr 1
            omega
          rw [hkk]
          obtain ⟨v3, hv3, ho3⟩ := hB5.2 (i + 3) (by omega)
          obtain ⟨od1, hfz, rfl⟩ := w7.get (List.mem_cons_of_mem _ List.mem_cons_self)
          have hkl := knw_len os (spanN ns) i
          walk_at "zk"
          refine st_ixL (seq_up w7 (e7.seq hb6)) (atI_nat hv3) ?_
          walk_at "zk"
          refine ⟨rfl, ?_⟩
          cases hos : os (i + 3) with
          | none =>
            rw [hos] at ho3
            obtain rfl : v3 = .non := ho3
            rw [show (!decide (V.non = V.non)) = false from rfl]
            walk_at "zk"
            refine lc_skip w7 e7 ?_
            rw [knw_succ, hos]
            simp
          | some cs =>
            rw [hos] at ho3
            obtain ⟨p, y, rfl, h1, h2⟩ := ho3
            rw [show (!decide (V.ref p = V.non)) = true from rfl]
            walk_at "zk"
            refine ⟨x, A.C_Prices, dx, _, _, rfl, w7.at (e7 _ _ hx6), T.cl_Prices, T.nf_Prices_span_costs, rfl, ?_⟩
            walk_at "zk"
            refine ⟨d1, _, rfl, span_get (.inr ⟨od, hfz⟩) (by omega) (by omega), ?_⟩
            walk_at "zk"
            refine ⟨rfl, ?_⟩
            cases hsp : spanN ns (i + 3) with
            | none =>
              rw [show (!decide (oV none = V.non)) = false from rfl]
              walk_at "zk"
              refine lc_skip w7 e7 ?_
              rw [knw_succ, hos, hsp]
              simp
            | some d =>
              rw [show (!decide (oV (some d) = V.non)) = true from rfl]
              walk_at "zk"
              refine lc_put w7 e7 (by rw [List.length_map]; omega) ?_
              rw [knw_succ, hos, hsp, List.map_append]
              rfl
        rintro D G7 H7 acc e7 w7 rfl
        rw [rowsK_len] at w7
        obtain ⟨o, rfl, ho, e8, w8⟩ := w7.freeze1
        have hD8 : (upd G7 D (.lst ((knw os (spanN ns) 256).map fun m : Nat => V.int (m : Int)))) D = some (.lst ((knw os (spanN ns) 256).map fun m : Nat => V.int (m : Int))) := upd_same
        generalize upd G7 D (HO.lst _) = G8 at e8 w8 hD8
        obtain ⟨hu, G9, e59, e89, hd9, w9⟩ := Wd.unlockG hp5.2.1 (e7.trans e8) w8
        walk_at "zk"
        refine ⟨hu, ?_⟩
        have hx9 := e59 _ _ hx5
        have hb9 := e59 _ _ hb5
        have hB9 := hB5.up e59
        have hD9 := e89 _ _ hD8
        generalize upd H7 d1 _ = H9 at w9
        clear w5 w6 w7 w8 hu hx6 hb6
        have hkl := knw_len os (spanN ns) 256
        generalize hkn : knw os (spanN ns) 256 = kn at hD9 hkl
        dsimp only
        walk_at "zk"
        refine lc_l (SqL.of hD9) (fun i acc G' => Rl chX G' acc ((kn.take i).map (chO os (spanN ns)))) w9 Rl.nil (fun _ => rfl) ?_ ?_
        · rintro i y D2 G10 H10 acc hy e10 w10 hacc
          obtain ⟨m, hm, rfl⟩ : ∃ m : Nat, kn[i]? = some m ∧ y = .int (m : Int) := by
            rw [List.getElem?_map] at hy
            obtain ⟨m, hm, e⟩ := Option.map_eq_some_iff.mp hy
            exact ⟨m, hm, e.symm⟩
          have hmem : m ∈ knw os (spanN ns) 256 := by
            rw [hkn]
            exact List.mem_of_getElem? hm
          have hil := (List.getElem?_eq_some_iff.mp hm).1
          obtain ⟨h3, h4, c, s1, d, h5, h6⟩ := knw_mem.mp hmem
          obtain ⟨v3, hv3, ho3⟩ := hB9.2 m (by omega)
          rw [h5] at ho3
          obtain ⟨p, z, rfl, hp3, hz⟩ := ho3
          obtain rfl : z = .int (s1 : Int) := hz
          have hsg : DGet H10 d1 (.int (m : Int)) (some (oV (spanN ns m))) := span_get (.inl (w10.at (e10 _ _ hd9))) h3 (by omega)
          rw [h6] at hsg
          have hsg : DGet H10 d1 (.int (m : Int)) (some (.int d)) := hsg
          have hal : acc.length ≤ i := by
            rw [hacc.1, List.length_map, List.length_take]
            omega
          walk_at "zk"
          refine ⟨x, A.C_Prices, dx, _, _, rfl, w10.at (e10 _ _ hx9), T.cl_Prices, T.nf_Prices_span_costs, rfl, ?_⟩
          walk_at "zk"
          refine ⟨d1, _, rfl, hsg, ?_⟩
          walk_at "zk"
          refine st_ixL (SqL.of (w10.at (e10 _ _ hb9))) (atI_nat hv3) ?_
          walk_at "zk"
          refine st_ixT (v := .int c) (SqT.of (w10.at (e10 _ _ hp3))) rfl ?_
          walk_at "zk"
          refine st_ixL (SqL.of (w10.at (e10 _ _ hb9))) (atI_nat hv3) ?_
          walk_at "zk"
          refine st_ixT (v := .int (s1 : Int)) (SqT.of (w10.at (e10 _ _ hp3))) rfl ?_
          walk_at "zk"
          refine ⟨small (by simp), NewO.good w10 fun p11 G11 H11 e11 w11 h11 => ?_⟩
          walk_at "zk"
          refine ⟨small (by simp), NewO.good w11 fun p12 G12 H12 e12 w12 h12 => ?_⟩
          refine lc_put w12 (e10.trans (e11.trans e12)) (by omega) ?_
          rw [List.take_add_one, hm, List.map_append]
          refine (hacc.upC (e11.trans e12)).snoc ⟨p12, .ref p11, rfl, ?_, ?_⟩
          · rw [h12]
            unfold chO
            rw [h5, h6]
          · unfold chO
            rw [h5, h6]
            exact ⟨p11, rfl, e12 _ _ h11⟩
        rintro D2 G10 H10 acc e10 w10 hacc
        rw [List.length_map, List.take_length] at hacc
        obtain ⟨o, rfl, ho, e11, w11⟩ := w10.freeze1
        refine k D2 acc _ _ H10 (e05.trans (e59.trans (e10.trans e11))) w11 upd_same (hacc.upC e11) (by rw [List.length_map]; omega) ?_
        rw [← hkn]
        exact matQ_of hO2

/-! ### tokens at a place -/
def Tkn.sp : Tkn → Nat
  | .lit _ => 1
  | .mat l _ => l
def TokAt (row : List Int) (p : Nat) : Tkn → Prop
  | .lit b => row[p]? = some b
  | .mat l m => 3 ≤ l ∧ 1 ≤ m ∧ m ≤ p ∧ l ≤ Eq2 row p (p - m)
theorem TokAt.sp {row : List Int} {p : Nat} {t : Tkn} (h : TokAt row p t) : 1 ≤ t.sp ∧ p + t.sp ≤ row.length := by
  cases t with
  | lit b =>
    have h : row[p]? = some b := h
    have := (List.getElem?_eq_some_iff.mp h).1
    exact ⟨Nat.le_refl _, this⟩
  | mat l m =>
    obtain ⟨h1, h2, h3, h4⟩ := h
    have := Eq2_le row p (p - m)
    show 1 ≤ l ∧ p + l ≤ row.length
    omega
def tkc (ns ms : List Int) : Tkn → Option Int
  | .lit b => szO ns b
  | .mat l m => (spanN ns l).bind fun a => (farN ms m).map fun b => a + b
def Tkp (row : List Int) : Nat → List Tkn → Nat → Prop
  | p, [], q => p = q
  | p, t :: ts, q => TokAt row p t ∧ Tkp row (p + t.sp) ts q
theorem Tkp.snoc {row : List Int} {t : Tkn} : ∀ {ts : List Tkn} {p q : Nat}, Tkp row p ts q → TokAt row q t → Tkp row p (ts ++ [t]) (q + t.sp)
  | [], p, q, h, ht => by
    obtain rfl : p = q := h
    exact ⟨ht, rfl⟩
  | u :: ts, p, q, h, ht => ⟨h.1, Tkp.snoc h.2 ht⟩
theorem Tkp.len {row : List Int} : ∀ {ts : List Tkn} {p q : Nat}, Tkp row p ts q → p + ts.length ≤ q
  | [], p, q, h => by
    obtain rfl : p = q := h
    exact Nat.le_refl _
  | u :: ts, p, q, h => by
    have h1 := Tkp.len h.2
    have h2 := h.1.sp
    rw [List.length_cons]
    omega
def tcs (ns ms : List Int) : List Tkn → Option Int
  | [] => some 0
  | t :: ts => (tkc ns ms t).bind fun a => (tcs ns ms ts).map fun b => a + b
theorem tcs_snoc {ns ms : List Int} {t : Tkn} {d : Int} : ∀ {ts : List Tkn} {c : Int}, tcs ns ms ts = some c → tkc ns ms t = some d → tcs ns ms (ts ++ [t]) = some (c + d)
  | [], c, h, ht => by
    injection h with h
    subst h
    show (tkc ns ms t).bind _ = _
    rw [ht]
    show some (d + 0) = _
    rw [Int.add_zero, Int.zero_add]
  | u :: ts, c, h, ht => by
    have h : (tkc ns ms u).bind (fun a => (tcs ns ms ts).map fun b => a + b) = some c := h
    show (tkc ns ms u).bind (fun a => (tcs ns ms (ts ++ [t])).map fun b => a + b) = some (c + d)
    cases hu : tkc ns ms u with
    | none => rw [hu] at h; exact nomatch h
    | some a =>
      rw [hu] at h
      cases hts : tcs ns ms ts with
      | none => rw [hts] at h; exact nomatch h
      | some b =>
        rw [hts] at h
        have h : some (a + b) = some c := h
        injection h with h
        rw [tcs_snoc hts ht]
        show some (a + (b + d)) = _
        rw [← h, Int.add_assoc]
theorem eqL_get {row : List Int} {p s m : Nat} (h : ((List.range p).map (eqAt row p))[s - 1]? = some m) (hs : 1 ≤ s) : s ≤ p ∧ m = min (Eq2 row p (p - s)) 258 := by
  rw [List.getElem?_map] at h
  obtain ⟨d, hd, rfl⟩ := Option.map_eq_some_iff.mp h
  obtain ⟨h1, h2⟩ := List.getElem?_eq_some_iff.mp hd
  rw [List.length_range] at h1
  rw [List.getElem_range] at h2
  subst h2
  refine ⟨by omega, ?_⟩
  unfold eqAt
  rw [show p - 1 - (s - 1) = p - s by omega]
/-- choices tell the tokens that may stand at a place -/
def ChQ (row : List Int) (p : Nat) (ns ms : List Int) (chs : List (Int × Tkn)) : Prop :=
  (∀ ct ∈ chs, TokAt row p ct.2 ∧ tkc ns ms ct.2 = some ct.1) ∧ ∀ t c, TokAt row p t → tkc ns ms t = some c → ∃ c' t', (c', t') ∈ chs ∧ c' ≤ c ∧ t'.sp = t.sp
theorem mat_cost {ns ms : List Int} {l m : Nat} {c : Int} : tkc ns ms (.mat l m) = some c ↔ ∃ a b, spanN ns l = some a ∧ farN ms m = some b ∧ c = a + b := by
  show ((spanN ns l).bind fun a => (farN ms m).map fun b => a + b) = some c ↔ _
  constructor
  · intro h
    cases ha : spanN ns l with
    | none => rw [ha] at h; exact nomatch h
    | some a =>
      rw [ha] at h
      cases hb : farN ms m with
      | none => rw [hb] at h; exact nomatch h
      | some b =>
        rw [hb] at h
        have h : some (a + b) = some c := h
        injection h with h
        exact ⟨a, b, rfl, rfl, h.symm⟩
  · rintro ⟨a, b, ha, hb, rfl⟩
    rw [ha, hb]
    rfl
theorem chQ_of {row : List Int} {p : Nat} {ns ms : List Int} {chs : List (Int × Tkn)} {b : Int} (hb : row[p]? = some b) (hl : row.length ≤ 100) (h : MatQ ((List.range p).map (eqAt row p)) (farN ms) (spanN ns) chs) :
    ChQ row p ns ms (match szO ns b with | none => chs | some c => (c, Tkn.lit b) :: chs) := by
  have s1 : ∀ ct ∈ chs, TokAt row p ct.2 ∧ tkc ns ms ct.2 = some ct.1 := fun ct hct => by
    obtain ⟨m, s, a, d, rfl, h1, h2, h3, h4, h5, m', h6, h7⟩ := h.1 ct hct
    obtain ⟨h8, h9⟩ := eqL_get h6 h4
    exact ⟨⟨h1, h4, h8, by omega⟩, mat_cost.mpr ⟨a, d, h3, h5, rfl⟩⟩
  have s2 : ∀ l m c, TokAt row p (.mat l m) → tkc ns ms (.mat l m) = some c → ∃ c' t', (c', t') ∈ chs ∧ c' ≤ c ∧ t'.sp = l := fun l m c ht hc => by
    obtain ⟨a, d, h1, h2, rfl⟩ := mat_cost.mp hc
    obtain ⟨h3, h4, h5, h6⟩ := ht
    have := Eq2_le row p (p - m)
    obtain ⟨c', s', h7, h8⟩ := h.2 l m a d h3 (by omega) h1 ⟨h4, h2, min (Eq2 row p (p - m)) 258, by
      rw [List.getElem?_map, List.getElem?_range (by omega)]
      show some (eqAt row p (m - 1)) = _
      unfold eqAt
      rw [show p - 1 - (m - 1) = p - m by omega], by omega⟩
    exact ⟨c', _, h7, h8, rfl⟩
  cases hs : szO ns b with
  | none =>
    refine ⟨s1, fun t c ht hc => ?_⟩
    cases t with
    | lit b' =>
      have ht : row[p]? = some b' := ht
      rw [hb] at ht
      injection ht with ht
      subst ht
      have hc : szO ns b = some c := hc
      rw [hs] at hc
      exact nomatch hc
    | mat l m => exact s2 l m c ht hc
  | some c0 =>
    refine ⟨fun ct hct => ?_, fun t c ht hc => ?_⟩
    · rcases List.mem_cons.mp hct with rfl | hct
      · exact ⟨hb, hs⟩
      · exact s1 ct hct
    · cases t with
      | lit b' =>
        have ht : row[p]? = some b' := ht
        rw [hb] at ht
        injection ht with ht
        subst ht
        have hc : szO ns b = some c := hc
        rw [hs] at hc
        injection hc with hc
        exact ⟨c0, .lit b, List.mem_cons_self, by omega, rfl⟩
      | mat l m =>
        obtain ⟨c', t', h1, h2⟩ := s2 l m c ht hc
        exact ⟨c', t', List.mem_cons_of_mem _ h1, h2⟩
/-! ### choices -/
def sp_choices (K : PySem.W.Frag) (C : Addr) : Sp := fun vs H Q _ => ∃ (G : Hp) (W : Wl) (x dx a e l d1 d2 : Addr) (ns ms row : List Int) (p : Nat), Wd G W H ∧ vs = [.ref x, .ref a, .ref e, .int (p : Int)] ∧ G x = some (.ins C dx (priF l d1 d2)) ∧ PriD G l d1 d2 ns ms row.length ∧ HL G a row ∧ EqT G e row ∧ Byt row ∧ p < row.length ∧ row.length ≤ 100 ∧
  ∀ q xs chs G' H', Same G G' → Wd G' W H' → G' q = some (.lst xs) → Rl chX G' xs chs → ChQ row p ns ms chs → Q (.ref q) H'
theorem ok_Prices_choices (T : Txt K mg A) : FnOk P w K mg base CX0 5 A.f_Prices_choices A.fd_Prices_choices sP_Prices_choices (sp_choices K A.C_Prices) := by
  refine okD T.F_Prices_choices sc_Prices_choices (fun vs H Q E h => ?_) (fun cdv Ar outer s H vs Q E hr h => ⟨_, (pss_cons (ps_set (i := 4) sc_Prices_choices.nd rfl (Or.inl rfl) (pe_meth (pv 0) T.cl_Prices T.mt_Prices_matches (ok_Prices_matches T) (hr.mono (by decide)) T.b_Prices_matches .nil pass0 (pa_cons (pe_ix ix_list (pv 2) (pv 3) (fun _ _ => rfl)) pa_nil)))
      (pss_cons (ps_set (i := 5) sc_Prices_choices.nd rfl (Or.inl rfl) (pe_ix ix_list (pe_fld (pv 0) rfl) (pe_ix ix_list (pv 1) (pv 3) (fun _ _ => rfl)) (fun _ _ => rfl)))
      (pss_one (ps_ret (pe_ifExp (pt_cmpR op_isN (pv 5) (pe_non) (nomark _)) (pv 4) (pe_lst (pa_cons (pe_tup (pa_cons (pv 5) (pa_cons (pe_ix ix_list (pv 1) (pv 3) (fun _ _ => rfl)) pa_nil))) (StX.pa_star (pv 4) pa_nil)))))))), ?_⟩)
  · obtain ⟨G, W, x, dx, a, e, l, d1, d2, ns, ms, row, p, _, rfl, _⟩ := h
    rfl
  · obtain ⟨G, W, x, dx, a, e, l, d1, d2, ns, ms, row, p, w, rfl, hx, hp, ha, he, hB, hpl, hl, k⟩ := h
    obtain ⟨es, he1, he2, he3⟩ := id he
    obtain ⟨r, hr1, hr2⟩ := he3 p hpl
    have hrow : row[p]? = some (row.getD p 0) := by
      rw [List.getD_eq_getElem?_getD, List.getElem?_eq_getElem hpl]
      rfl
    have hb := hB _ (List.mem_of_getElem? hrow)
    generalize row.getD p 0 = b at hrow hb
    have hat : atI (row.map V.int) (p : Int) = some (.int b) := atI_nat (by rw [List.getElem?_map, hrow]; rfl)
    walk_at "zk"
    refine ⟨x, dx, _, rfl, w.at hx, rfl, ?_⟩
    walk_at "zk"
    refine st_ixL (SqL.of (w.at he1)) (atI_nat hr1) ?_
    walk_at "zk"
    refine ⟨G, W, x, dx, r, l, d1, d2, ns, ms, row.length, (List.range p).map (eqAt row p), w, rfl, hx, hp, ?_, by rw [List.length_map, List.length_range]; omega, hl, fun m hm => ?_, fun q xs chs G1 H1 e1 w1 hq hR hl2 hM => ?_⟩
    · rw [List.map_map]
      exact hr2
    · obtain ⟨d, _, rfl⟩ := List.mem_map.mp hm
      unfold eqAt
      omega
    have hC := chQ_of hrow hl hM
    have hbn : ((b.toNat : Nat) : Int) = b := by omega
    have hlit : atI (litL ns) b = some (oV (szO ns b)) := by
      rw [← hbn]
      refine atI_nat ?_
      unfold litL
      rw [List.getElem?_map, List.getElem?_range (by omega)]
      rfl
    walk_at "zk"
    refine ⟨x, A.C_Prices, dx, _, _, rfl, w1.at (e1 _ _ hx), T.cl_Prices, T.nf_Prices_literals, rfl, ?_⟩
    walk_at "zk"
    refine st_ixL (seq_up w1 (ha.up e1).seq) hat ?_
    refine st_ixL (SqL.of (w1.at (e1 _ _ hp.1))) hlit ?_
    walk_at "zk"
    walk_at "zi"
    walk_at "zk"
    refine ⟨rfl, ?_⟩
    cases hs : szO ns b with
    | none =>
      rw [hs] at hC
      rw [show decide (oV none = V.non) = true from rfl]
      walk_at "zk"
      exact k q xs _ G1 H1 e1 w1 hq hR hC
    | some c =>
      rw [hs] at hC
      rw [show decide (oV (some c) = V.non) = false from rfl]
      walk_at "zk"
      refine st_ixL (seq_up w1 (ha.up e1).seq) hat ?_
      walk_at "zk"
      refine ⟨small (by simp), NewO.good w1 fun p2 G2 H2 e2 w2 h2 => ?_⟩
      walk_at "zk"
      refine ⟨q, xs, rfl, .inr (SqL.of (w2.at (e2 _ _ hq))), ?_⟩
      walk_at "zk"
      have hxl := hR.1
      refine ⟨small (by simp; omega), NewO.good w2 fun p3 G3 H3 e3 w3 h3 => ?_⟩
      refine k p3 _ _ G3 H3 (e1.trans (e2.trans e3)) w3 h3 ?_ hC
      rw [List.append_nil]
      exact Rl.app (xs := [.ref p2]) (bs := [(c, Tkn.lit b)]) ⟨rfl, fun z hz => by rw [List.mem_singleton.mp hz]; exact ⟨p2, .int b, rfl, e3 _ _ h2, rfl⟩⟩ (hR.upC (e2.trans e3))
/-! ### span_of -/
theorem TokV.dp {G : Hp} {y : V} {t : Tkn} (h : TokV G y t) : ∃ d, Dp K G y d := by
  cases t with
  | lit b =>
    obtain rfl : y = .int b := h
    exact ⟨_, .int b⟩
  | mat l m =>
    obtain ⟨q, rfl, hq⟩ := h
    exact ⟨_, .tup (SqT.of hq) (.cons (.int _) (.cons (.int _) .nil))⟩
def sp_span (K : PySem.W.Frag) : Sp := fun vs H Q _ => ∃ (y : V) (t : Tkn), vs = [y] ∧ TokV H y t ∧ Q (.int (t.sp : Int)) H
theorem ok_span_of (T : Txt K mg A) : FnOk P w K mg base CX0 1 A.f_span_of A.fd_span_of sP_span_of (sp_span K) := by
  refine okD T.F_span_of sc_span_of (fun vs H Q E h => ?_) (fun cdv Ar outer s H vs Q E hr h => ⟨_, (pss_one (ps_ret (pe_ifExp (pt_val (pe_callB call_isi (by rfl) T.z_isinstance (by decide +kernel) (pa_cons (pv 0) (pa_cons (pe_bltn (v := .ty "int") (u := .type "int") (by rfl) T.z_int (by decide +kernel) rfl) pa_nil)))) (pe_int) (pe_ix ix_tup (pv 0) (pe_int) (fun _ _ => rfl))))), ?_⟩)
  · obtain ⟨y, t, rfl, _⟩ := h
    rfl
  · obtain ⟨y, t, rfl, ht, k⟩ := h
    walk_at "zk"
    walk_at "zi"
    walk_at "zk"
    cases t with
    | lit b =>
      obtain rfl : y = .int b := ht
      refine isiD (K := K) (.int b) (b := true) (show kitB "int" "int" = some true by decide +kernel) ⟨_, rfl, ?_⟩
      walk_at "zk"
      exact k
    | mat l m =>
      obtain ⟨q, rfl, hq⟩ := ht
      refine isiD (K := K) (.tup (SqT.of hq) (.cons (.int _) (.cons (.int _) .nil))) (b := false) (show kitB "tuple" "int" = some false by decide +kernel) ⟨_, rfl, ?_⟩
      walk_at "zk"
      exact st_ixT (v := .int (l : Int)) (SqT.of hq) rfl k

/-! ### the table of cheapest -/
def tokR (G : Hp) (y : V) : Option Tkn → Prop
  | none => y = .non
  | some t => TokV G y t
theorem OptT.up {G G' : Hp} {v : V} {o : Option (Int × Option Tkn)} (e : Same G G') (h : OptR (tokR G) G v o) : OptR (tokR G') G' v o :=
  (h.up e).imp fun y t ht => by
    cases t with
    | none => exact ht
    | some t => exact TokV.up e ht
def BT (G : Hp) (fs : List V) (bt : Nat → Option (Int × Option Tkn)) (n : Nat) : Prop := fs.length = n + 1 ∧ ∀ q, q ≤ n → ∃ v, fs[q]? = some v ∧ OptR (tokR G) G v (bt q)
theorem BT.up {G G' : Hp} {fs : List V} {bt : Nat → Option (Int × Option Tkn)} {n : Nat} (e : Same G G') (h : BT G fs bt n) : BT G' fs bt n := ⟨h.1, fun m hm => let ⟨v, h1, h2⟩ := h.2 m hm; ⟨v, h1, OptT.up e h2⟩⟩
def pt (bt : Nat → Option (Int × Option Tkn)) (m : Nat) (o : Option (Int × Option Tkn)) : Nat → Option (Int × Option Tkn) := fun i => if i = m then o else bt i
theorem pt_same {bt : Nat → Option (Int × Option Tkn)} {m : Nat} {o : Option (Int × Option Tkn)} : pt bt m o m = o := if_pos rfl
theorem pt_ne {bt : Nat → Option (Int × Option Tkn)} {m i : Nat} {o : Option (Int × Option Tkn)} (h : i ≠ m) : pt bt m o i = bt i := if_neg h
theorem pt_pt {bt : Nat → Option (Int × Option Tkn)} {m : Nat} {o o' : Option (Int × Option Tkn)} : pt (pt bt m o) m o' = pt bt m o' := funext fun i => by
  unfold pt
  split <;> rfl
theorem BT.set {G : Hp} {fs : List V} {bt : Nat → Option (Int × Option Tkn)} {m n : Nat} {v : V} {o : Option (Int × Option Tkn)} (h : BT G fs bt n) (hm : m ≤ n) (hv : OptR (tokR G) G v o) : BT G (fs.set m v) (pt bt m o) n := by
  refine ⟨by rw [List.length_set, h.1], fun i hi => ?_⟩
  by_cases e : i = m
  · subst e
    refine ⟨v, by rw [List.getElem?_set_self (by rw [h.1]; omega)], ?_⟩
    rw [pt_same]
    exact hv
  · obtain ⟨u, h1, h2⟩ := h.2 i hi
    refine ⟨u, by rw [List.getElem?_set_ne (fun z => e z.symm)]; exact h1, ?_⟩
    rw [pt_ne e]
    exact h2
def bt0 (n : Nat) : Nat → Option (Int × Option Tkn) := fun q => if q = n then some (0, none) else none
theorem BT.zero {G : Hp} {n m : Nat} {p : Addr} (hm : m = n) (h : G p = some (.tup [.int 0, .non])) : BT G (List.replicate m V.non ++ [V.ref p]) (bt0 n) n := by
  subst hm
  refine ⟨by simp, fun q hq => ?_⟩
  unfold bt0
  by_cases e : q = m
  · subst e
    rw [if_pos rfl]
    exact ⟨.ref p, by rw [List.getElem?_append_right (by simp)]; simp, p, .non, rfl, h, rfl⟩
  · rw [if_neg e]
    refine ⟨.non, ?_, rfl⟩
    rw [List.getElem?_append_left (by simp; omega), List.getElem?_replicate, if_pos (by omega)]
def PC (row ns ms : List Int) (bt : Nat → Option (Int × Option Tkn)) (q : Nat) (c : Int) (ot : Option Tkn) : Prop := ∃ t c1 c2 x2, ot = some t ∧ TokAt row q t ∧ tkc ns ms t = some c1 ∧ bt (q + t.sp) = some (c2, x2) ∧ c = c1 + c2
def PCi (chs : List (Int × Tkn)) (bt : Nat → Option (Int × Option Tkn)) (q i : Nat) (c : Int) (ot : Option Tkn) : Prop := ∃ t c1 c2 x2, ot = some t ∧ (c1, t) ∈ chs.take i ∧ bt (q + t.sp) = some (c2, x2) ∧ c = c1 + c2
theorem PCi_zero {chs : List (Int × Tkn)} {bt : Nat → Option (Int × Option Tkn)} {q : Nat} (c : Int) (ot : Option Tkn) : ¬ PCi chs bt q 0 c ot := by
  rintro ⟨t, c1, c2, x2, _, h, _⟩
  rw [List.take_zero] at h
  exact nomatch h
theorem PCi_succ {chs : List (Int × Tkn)} {bt : Nat → Option (Int × Option Tkn)} {q i : Nat} {t : Tkn} {c1 c2 : Int} {x2 : Option Tkn} (h : chs[i]? = some (c1, t)) (hb : bt (q + t.sp) = some (c2, x2)) (c : Int) (ot : Option Tkn) :
    PCi chs bt q (i + 1) c ot ↔ PCi chs bt q i c ot ∨ c = c1 + c2 ∧ ot = some t := by
  unfold PCi
  rw [List.take_add_one, h]
  constructor
  · rintro ⟨u, d1, d2, y2, h1, h2, h3, h4⟩
    rcases List.mem_append.mp h2 with h2 | h2
    · exact .inl ⟨u, d1, d2, y2, h1, h2, h3, h4⟩
    · have h2 := List.mem_singleton.mp h2
      injection h2 with h5 h6
      subst h5 h6
      rw [hb] at h3
      injection h3 with h3
      injection h3 with h3 h7
      exact .inr ⟨by omega, h1⟩
  · rintro (⟨u, d1, d2, y2, h1, h2, h3, h4⟩ | ⟨h1, h2⟩)
    · exact ⟨u, d1, d2, y2, h1, List.mem_append_left _ h2, h3, h4⟩
    · exact ⟨t, c1, c2, x2, h2, List.mem_append_right _ List.mem_cons_self, hb, h1⟩
theorem PCi_skip {chs : List (Int × Tkn)} {bt : Nat → Option (Int × Option Tkn)} {q i : Nat} {t : Tkn} {c1 : Int} (h : chs[i]? = some (c1, t)) (hb : bt (q + t.sp) = none) (c : Int) (ot : Option Tkn) :
    PCi chs bt q i c ot ↔ PCi chs bt q (i + 1) c ot := by
  unfold PCi
  rw [List.take_add_one, h]
  constructor
  · rintro ⟨u, d1, d2, y2, h1, h2, h3, h4⟩
    exact ⟨u, d1, d2, y2, h1, List.mem_append_left _ h2, h3, h4⟩
  · rintro ⟨u, d1, d2, y2, h1, h2, h3, h4⟩
    rcases List.mem_append.mp h2 with h2 | h2
    · exact ⟨u, d1, d2, y2, h1, h2, h3, h4⟩
    · have h2 := List.mem_singleton.mp h2
      injection h2 with h5 h6
      subst h5 h6
      rw [hb] at h3
      exact nomatch h3
theorem PCi_all {row ns ms : List Int} {chs : List (Int × Tkn)} {bt : Nat → Option (Int × Option Tkn)} {q : Nat} {o : Option (Int × Option Tkn)} (hC : ChQ row q ns ms chs) (h : Bst (PCi chs bt q chs.length) o) : Bst (PC row ns ms (pt bt q o) q) (pt bt q o q) := by
  rw [pt_same]
  refine ⟨fun c x eo => ?_, fun c x hp => ?_⟩
  · obtain ⟨t, c1, c2, x2, h1, h2, h3, h4⟩ := h.1 c x eo
    rw [List.take_length] at h2
    obtain ⟨h5, h6⟩ := hC.1 _ h2
    have h5 : TokAt row q t := h5
    have := h5.sp
    exact ⟨t, c1, c2, x2, h1, h5, h6, by rw [pt_ne (by omega)]; exact h3, h4⟩
  · obtain ⟨t, c1, c2, x2, h1, h2, h3, h4, h5⟩ := hp
    have hsp := h2.sp
    rw [pt_ne (by omega)] at h4
    obtain ⟨c', t', h6, h7, h8⟩ := hC.2 t c1 h2 h3
    rw [← h8] at h4
    obtain ⟨c3, x3, h9, h10⟩ := h.2 (c' + c2) (some t') ⟨t', c', c2, x2, rfl, by rw [List.take_length]; exact h6, h4, rfl⟩
    exact ⟨c3, x3, h9, by omega⟩
theorem PC_pt {row ns ms : List Int} {bt : Nat → Option (Int × Option Tkn)} {p q : Nat} {o : Option (Int × Option Tkn)} (hq : p < q) (h : Bst (PC row ns ms bt q) (bt q)) : Bst (PC row ns ms (pt bt p o) q) (pt bt p o q) := by
  rw [pt_ne (by omega)]
  refine h.iff fun c x => ?_
  unfold PC
  constructor
  · rintro ⟨t, c1, c2, x2, h1, h2, h3, h4, h5⟩
    exact ⟨t, c1, c2, x2, h1, h2, h3, by rw [pt_ne (by omega)]; exact h4, h5⟩
  · rintro ⟨t, c1, c2, x2, h1, h2, h3, h4, h5⟩
    rw [pt_ne (by omega)] at h4
    exact ⟨t, c1, c2, x2, h1, h2, h3, h4, h5⟩
/-- none is cheaper -/
theorem PC_min {row ns ms : List Int} {bt : Nat → Option (Int × Option Tkn)} (hn : bt row.length = some (0, none)) (h : ∀ q, q < row.length → Bst (PC row ns ms bt q) (bt q)) :
    ∀ (ts : List Tkn) (q : Nat) (c : Int), Tkp row q ts row.length → tcs ns ms ts = some c → ∃ c' x, bt q = some (c', x) ∧ c' ≤ c
  | [], q, c, ht, hc => by
    obtain rfl : q = row.length := ht
    injection hc with hc
    exact ⟨0, none, hn, by omega⟩
  | t :: ts, q, c, ht, hc => by
    have hc : (tkc ns ms t).bind (fun a => (tcs ns ms ts).map fun b => a + b) = some c := hc
    have hsp := ht.1.sp
    cases h1 : tkc ns ms t with
    | none => rw [h1] at hc; exact nomatch hc
    | some a =>
      cases h2 : tcs ns ms ts with
      | none => rw [h1, h2] at hc; exact nomatch hc
      | some b =>
        rw [h1, h2] at hc
        have hc : some (a + b) = some c := hc
        injection hc with hc
        obtain ⟨c2, x2, h3, h4⟩ := PC_min hn h ts _ b ht.2 h2
        obtain ⟨c', x', h5, h6⟩ := (h q (by omega)).2 (a + c2) (some t) ⟨t, a, c2, x2, rfl, ht.1, h1, h3, rfl⟩
        exact ⟨c', x', h5, by omega⟩
theorem atI_last {xs : List V} {y : V} : atI (xs ++ [y]) (-1) = some y := by
  have e : ixN (xs ++ [y]).length (-1) = some xs.length := by
    rw [List.length_append, List.length_singleton]
    unfold ixN
    rw [if_neg (by omega), if_pos (by omega)]
    congr 1
    omega
  unfold atI
  rw [e, Option.bind_some, List.getElem?_append_right (Nat.le_refl _)]
  simp
theorem st_catO {G H : Hp} {W : Wl} {Q : VK} {a b : Addr} {xs ys : List V} (ha : H a = some (.lst xs)) (hb : H b = some (.lst ys)) (hz : xs.length + ys.length ≤ 1000000) (w : Wd G W H) (k : ∀ p H', Wd G ((p, Is (.lst (xs ++ ys))) :: W) H' → Q (.ref p) H') : rCat (.ref a) (.ref b) H Q :=
  ⟨a, b, _, _, rfl, rfl, ha, hb, small hz, fun p hp => k p _ (w.newM hp rfl)⟩
theorem Rl.upK {G G' : Hp} {xs : List V} {bs : List Tkn} (e : Same G G') (h : Rl TokV G xs bs) : Rl TokV G' xs bs := ⟨h.1, fun x hx => (h.2 x hx).up e⟩
theorem mk_pri {G H : Hp} {W : Wl} {C a b : Addr} {ns ms : List Int} {n : Nat} {R : Addr → Hp → Prop} (w : Wd G W H) (ha : SqA K G a (ns.map V.int)) (hb : SqA K G b (ms.map V.int)) (hn : n ≤ 100)
    (k : ∀ x dx l d1 d2 G' H', Same G G' → Wd G' W H' → G' x = some (.ins C dx (priF l d1 d2)) → PriD G' l d1 d2 ns ms n → R x H') :
    ∀ x dx, H x = none → H dx = none → dx ≠ x → sp_pinit K C (.ref x :: ([.ref a, .ref b, .int (n : Int)] ++ [])) (upd (upd H dx (.own x)) x (.ins C dx [])) (fun v H2 => v = .non ∧ R x H2) E0 := fun x dx hx hd ne => by
  have w1 : Wd (upd G dx (.own x)) ((x, Is (.ins C dx [])) :: W) (upd (upd H dx (.own x)) x (.ins C dx [])) := (w.new hd).newM (by rw [upd_ne (fun z => ne z.symm)]; exact hx) rfl
  have e1 : Same G (upd G dx (.own x)) := same_upd (w.free hd)
  refine ⟨_, W, x, dx, a, b, ns, ms, n, w1, rfl, ha.up e1, hb.up e1, hn, fun l d1 d2 G2 H2 e2 w2 hp => ?_⟩
  obtain ⟨o, rfl, ho, e3, w3⟩ := w2.freeze1
  exact ⟨rfl, k x dx l d1 d2 _ H2 (e1.trans (e2.trans e3)) w3 upd_same (hp.up e3)⟩
def CheapR (G : Hp) (row ns ms : List Int) (v : V) : Prop :=
  (v = .non ∧ ∀ ts, Tkp row 0 ts row.length → tcs ns ms ts = none) ∨
  ∃ p q xs ts c, v = .ref p ∧ G p = some (.tup [.int c, .ref q]) ∧ G q = some (.lst xs) ∧ Rl TokV G xs ts ∧ Tkp row 0 ts row.length ∧ tcs ns ms ts = some c ∧ ∀ ts' c', Tkp row 0 ts' row.length → tcs ns ms ts' = some c' → c ≤ c'
def sp_cheapest (K : PySem.W.Frag) : Sp := fun vs H Q _ => ∃ (G : Hp) (W : Wl) (a b1 b2 : Addr) (row ns ms : List Int), Wd G W H ∧ vs = [.ref a, .ref b1, .ref b2] ∧ SqL K G a (row.map V.int) ∧ Byt row ∧ row.length ≤ 100 ∧ SqA K G b1 (ns.map V.int) ∧ SqA K G b2 (ms.map V.int) ∧
  ∀ v G' H', Same G G' → Wd G' W H' → CheapR G' row ns ms v → Q v H'
theorem ok_cheapest (T : Txt K mg A) : FnOk P w K mg base CX0 6 A.f_cheapest A.fd_cheapest sP_cheapest (sp_cheapest K) := by
  refine okD T.F_cheapest sc_cheapest (fun vs H Q E h => ?_) (fun cdv Ar outer s H vs Q E hr h => ⟨_, (pss_cons (ps_set (i := 3) sc_cheapest.nd rfl (Or.inl rfl) (pe_call (ok_checked_data T) (hr.mono (by decide)) rfl T.m_checked_data T.F_checked_data.kp T.b_checked_data .nil pass0 (pa_cons (pv 0) pa_nil)))
      (pss_cons (ps_par (i := 4) (j := 5) (by rfl) sc_cheapest.nd rfl rfl (by decide) rfl rfl (pa_cons (pe_call (ok_equal_lengths T) (hr.mono (by decide)) rfl T.m_equal_lengths T.F_equal_lengths.kp T.b_equal_lengths .nil pass0 (pa_cons (pv 3) pa_nil)) (pa_cons (pe_make T.M_Prices (ok_Prices___init__ T) (hr.mono (by decide)) rfl T.gC_Prices T.b_Prices___init__ .nil pass0 (pa_cons (pv 1) (pa_cons (pv 2) (pa_cons (pe_callB call_len_seq (by rfl) T.z_len PySem.boot_len (pa_cons (pv 3) pa_nil)) pa_nil)))) pa_nil)) (by rfl))
      (pss_cons (ps_set (i := 6) sc_cheapest.nd rfl (Or.inl rfl) (pe_op op_cat (pe_op op_rep (pe_lst (pa_cons (pe_non) pa_nil)) (pe_callB call_len_seq (by rfl) T.z_len PySem.boot_len (pa_cons (pv 3) pa_nil))) (pe_lst (pa_cons (pe_tup (pa_cons (pe_int) (pa_cons (pe_non) pa_nil))) pa_nil))))
      (pss_cons (ps_for PassesOwn.never rfl (pi_range3 (by rfl) T.z_range (pa_cons (pe_op op_sub (pe_callB call_len_seq (by rfl) T.z_len PySem.boot_len (pa_cons (pv 3) pa_nil)) (pe_int)) (pa_cons (pe_un un_neg (pe_int)) (pa_cons (pe_un un_neg (pe_int)) pa_nil)))) (pg_name (i := 7) sc_cheapest.nd rfl (Or.inl rfl)) (pss_one (ps_for PassesOwn.never rfl (pi_list (pe_meth (pv 5) T.cl_Prices T.mt_Prices_choices (ok_Prices_choices T) (hr.mono (by decide)) T.b_Prices_choices .nil pass0 (pa_cons (pv 3) (pa_cons (pv 4) (pa_cons (pv 7) pa_nil))))) (pg_tup rfl (pgs_cons (pg_name (i := 8) sc_cheapest.nd rfl (Or.inl rfl)) (pgs_cons (pg_name (i := 9) sc_cheapest.nd rfl (Or.inl rfl)) pgs_nil))) (pss_cons (ps_set (i := 10) sc_cheapest.nd rfl (Or.inl rfl) (pe_ix ix_list (pv 6) (pe_op op_add (pv 7) (pe_call (ok_span_of T) (hr.mono (by decide)) rfl T.m_span_of T.F_span_of.kp T.b_span_of .nil pass0 (pa_cons (pv 9) pa_nil))) (fun _ _ => rfl)))
      (pss_one (ps_if (pt_cmpR op_notN (pv 10) (pe_non) (nomark _)) (pss_one (ps_asg (pe_call (ok_lesser T) (hr.mono (by decide)) rfl T.m_lesser T.F_lesser.kp T.b_lesser .nil pass0 (pa_cons (pe_ix ix_list (pv 6) (pv 7) (fun _ _ => rfl)) (pa_cons (pe_tup (pa_cons (pe_op op_add (pv 8) (pe_ix ix_tup (pv 10) (pe_int) (fun _ _ => rfl))) (pa_cons (pv 9) pa_nil))) pa_nil))) (pg_sub (pv 6) (pv 7) set_list))) pss_nil))))))
      (pss_cons (ps_if (pt_cmpR op_isN (pe_ix ix_list (pv 6) (pe_int) (fun _ _ => rfl)) (pe_non) (nomark _)) (pss_one (ps_ret (pe_non))) pss_nil)
      (pss_cons (ps_par (i := 11) (j := 7) (by rfl) sc_cheapest.nd rfl rfl (by decide) rfl rfl (pa_cons (pe_lst pa_nil) (pa_cons (pe_int) pa_nil)) (by rfl))
      (pss_cons (ps_while PassesOwn.never (pt_cmpR op_lt (pv 7) (pe_callB call_len_seq (by rfl) T.z_len PySem.boot_len (pa_cons (pv 3) pa_nil)) (nomark _)) (pss_cons (ps_expr (pe_bm PySem.F.plainAttrs_list PySem.F.slot_list_append PySem.F.type_list_append mt_append (pv 11) (pa_cons (pe_ix ix_tup (pe_ix ix_list (pv 6) (pv 7) (fun _ _ => rfl)) (pe_int) (fun _ _ => rfl)) pa_nil)))
      (pss_one (ps_aug (i := 7) sc_cheapest.nd rfl (Or.inl rfl) (pe_call (ok_span_of T) (hr.mono (by decide)) rfl T.m_span_of T.F_span_of.kp T.b_span_of .nil pass0 (pa_cons (pe_ix ix_list (pv 11) (pe_un un_neg (pe_int)) (fun _ _ => rfl)) pa_nil)) ip_add))))
      (pss_one (ps_ret (pe_tup (pa_cons (pe_ix ix_tup (pe_ix ix_list (pv 6) (pe_int) (fun _ _ => rfl)) (pe_int) (fun _ _ => rfl)) (pa_cons (pv 11) pa_nil)))))))))))), ?_⟩)
  · obtain ⟨G, W, a, b1, b2, row, ns, ms, _, rfl, _⟩ := h
    rfl
  · obtain ⟨G, W, a0, b1, b2, row, ns, ms, w, rfl, ha0, hB, hl, hb1, hb2, k⟩ := h
    walk_at "zk"
    refine ⟨G, W, a0, row, w, rfl, .inl ha0, hB, by omega, fun a G1 H1 e1 w1 => ?_⟩
    obtain ⟨o, rfl, ho, e2, w2⟩ := w1.freeze1
    have ha : HL (upd G1 a (.lst (row.map V.int))) a row := upd_same
    generalize upd G1 a (HO.lst (row.map V.int)) = G2 at e2 w2 ha
    have e02 := e1.trans e2
    walk_at "zk"
    refine ⟨G2, W, a, row, w2, rfl, ha.seq, by omega, fun e G3 H3 e3 w3 hE3 => ?_⟩
    walk_at "zk"
    refine ⟨a, _, rfl, .inl (seq_up w3 (ha.up e3).seq), ?_⟩
    walk_at "zk"
    rw [List.length_map]
    refine mk_pri w3 (hb1.up (e02.trans e3)) (hb2.up (e02.trans e3)) hl fun x dx l d1 d2 G4 H4 e4 w4 hx4 hp4 => ?_
    have ha4 := ha.up (e3.trans e4)
    have hE4 := hE3.up e4
    refine ⟨_, _, rfl, ?_⟩
    walk_at "zk"
    refine ⟨small (by simp), NewO.good w4 fun p5 G5 H5 e5 w5 h5 => ?_⟩
    walk_at "zk"
    refine ⟨a, _, rfl, .inl (seq_up w5 (ha4.up e5).seq), ?_⟩
    walk_at "zk"
    rw [List.length_map]
    refine st_repOV (hUp w5 h5) (by omega) (by omega) w5 fun r6 H6 w6 => ?_
    walk_at "zk"
    refine ⟨small (by simp), NewO.good w6 fun p7 G7 H7 e7 w7 h7 => ?_⟩
    walk_at "zk"
    refine ⟨small (by simp), NewO.good w7 fun p8 G8 H8 e8 w8 h8 => ?_⟩
    refine st_catO (Wd.is1 w8) (w8.at h8) (by simp; omega) w8 fun b H9 w9 => ?_
    have hb0 : BT G8 (List.replicate ((row.length : Nat) : Int).toNat V.non ++ [V.ref p7]) (bt0 row.length) row.length := BT.zero (Int.toNat_natCast _) (e8 _ _ h7)
    have w9 : Wd G8 ((b, Is (.lst (List.replicate ((row.length : Nat) : Int).toNat V.non ++ [V.ref p7]))) :: W) H9 := Wd.drop (W1 := [_]) w9
    generalize List.replicate ((row.length : Nat) : Int).toNat V.non ++ [V.ref p7] = fs0 at w9 hb0
    have e58 := e5.trans (e7.trans e8)
    have e08 := e02.trans ((e3.trans e4).trans e58)
    have ha8 := ha4.up e58
    have hx8 := e58 _ _ hx4
    have hp8 := hp4.up e58
    have hE8 := hE4.up e58
    clear h5 h7 h8 w1 w2 w3 w4 w5 w6 w7 w8 ha4 hx4 hp4 hE4 hE3 ha ho
    walk_at "zk"
    refine ⟨a, _, rfl, .inl (seq_up w9 ha8.seq), ?_⟩
    walk_at "zk"
    rw [List.length_map]
    have hrg : RgC ((row.length : Int) - 1) (-1) (-1) row.length := by
      have := RgC.neg (i := (row.length : Int) - 1) (j := -1) (by omega) (by omega) (by decide) (by decide)
      rw [show (((row.length : Int) - 1) - -1).toNat = row.length by omega] at this
      exact this
    refine for_r3 hrg (fun i σ G' W' => ∃ fs bt x7 x8 x9 x10, W' = (b, Is (.lst fs)) :: W ∧ BT G' fs bt row.length ∧ bt row.length = some (0, none) ∧ (∀ q, q < row.length → if q < row.length - i then bt q = none else Bst (PC row ns ms bt q) (bt q)) ∧
      σ = [some (.ref a0), some (.ref b1), some (.ref b2), some (.ref a), some (.ref e), some (.ref x), some (.ref b), x7, x8, x9, x10, none]) w9
      ⟨fs0, bt0 row.length, _, _, _, _, rfl, hb0, if_pos rfl, fun q hq => ?_, rfl⟩ ?_ ?_
    · rw [if_pos (by omega)]
      exact if_neg (by omega)
    · rintro i σ' G3 W3 H3 hi e3 w3 ⟨fs, bt, x7, x8, x9, x10, rfl, hBT, hbn, hbq, rfl⟩
      obtain ⟨p, hp⟩ : ∃ p, p = row.length - 1 - i := ⟨_, rfl⟩
      have hpn : p < row.length := by omega
      have hpi : (row.length : Int) - 1 + (i : Int) * -1 = (p : Int) := by omega
      rw [hpi]
      have hpp := hbq p hpn
      rw [if_pos (by omega)] at hpp
      walk_at "zk"
      refine ⟨x, dx, _, rfl, w3.at (e3 _ _ hx8), rfl, ?_⟩
      walk_at "zk"
      refine ⟨G3, _, x, dx, a, e, l, d1, d2, ns, ms, row, p, w3, rfl, e3 _ _ hx8, hp8.up e3, ha8.up e3, hE8.up e3, hB, hpn, hl, fun qc cs chs G4 H4 e4 w4 hqc hR hC => ?_⟩
      have hBT4 := hBT.up e4
      have hpt : pt bt p none = bt := funext fun j => by
        unfold pt
        split
        · rename_i h
          rw [h]
          exact hpp.symm
        · rfl
      refine for_l (SqL.of hqc) (fun j σ G' W' => ∃ fs o x8 x9 x10, W' = (b, Is (.lst fs)) :: W ∧ BT G' fs (pt bt p o) row.length ∧ Bst (PCi chs bt p j) o ∧
        σ = [some (.ref a0), some (.ref b1), some (.ref b2), some (.ref a), some (.ref e), some (.ref x), some (.ref b), some (.int (p : Int)), x8, x9, x10, none]) w4
        ⟨fs, none, _, _, _, rfl, by rw [hpt]; exact hBT4, Bst.non PCi_zero, rfl⟩ ?_ ?_
      · rintro j v σ' G5 W5 H5 hv e5 w5 ⟨fs, o, x8, x9, x10, rfl, hBT, hO, rfl⟩
        obtain ⟨⟨c1, t⟩, hct, pc, y, rfl, hpc, hy⟩ := (hR.upC e5).atV hv
        have hy : TokV G5 y t := hy
        have hta := (hC.1 _ (List.mem_of_getElem? hct)).1
        have hta : TokAt row p t := hta
        have hsp := hta.sp
        obtain ⟨v2, hv2, ho2⟩ := hBT.2 (p + t.sp) (by omega)
        rw [pt_ne (by omega)] at ho2
        obtain ⟨v1, hv1, ho1⟩ := hBT.2 p (by omega)
        rw [pt_same] at ho1
        walk_at "zk"
        refine st_gtup (SqT.of (w5.at hpc)) rfl ?_
        walk_at "zk"
        refine ⟨y, t, rfl, hy.up w5.ex, ?_⟩
        walk_at "zk"
        refine st_ixL (SqL.of (Wd.is1 w5)) (show atI fs ((p : Int) + (t.sp : Int)) = some v2 by rw [show (p : Int) + (t.sp : Int) = ((p + t.sp : Nat) : Int) by omega]; exact atI_nat hv2) ?_
        walk_at "zk"
        refine ⟨rfl, ?_⟩
        cases hb2 : bt (p + t.sp) with
        | none =>
          rw [hb2] at ho2
          obtain rfl : v2 = .non := ho2
          rw [show (!decide (V.non = V.non)) = false from rfl]
          walk_at "zk"
          exact st_btw e5 w5 ⟨fs, o, _, _, _, rfl, hBT, hO.iff (PCi_skip hct hb2), rfl⟩
        | some cx =>
          obtain ⟨c2, x2⟩ := cx
          rw [hb2] at ho2
          obtain ⟨pb, yb, rfl, hpb, _⟩ := ho2
          rw [show (!decide (V.ref pb = V.non)) = true from rfl]
          walk_at "zk"
          refine st_ixL (SqL.of (Wd.is1 w5)) (atI_nat hv1) ?_
          walk_at "zk"
          refine st_ixT (v := .int c2) (SqT.of (w5.at hpb)) rfl ?_
          walk_at "zk"
          refine ⟨small (by simp), NewO.good w5 fun p6 G6 H6 e6 w6 h6 => ?_⟩
          have ho6 : OptR (tokR G6) G6 (.ref p6) (some (c1 + c2, some t)) := ⟨p6, y, rfl, h6, hy.up e6⟩
          have ho1 := OptT.up e6 ho1
          refine ⟨v1, .ref p6, _, _, rfl, (OptR.up w6.ex ho1).c, (OptR.up w6.ex ho6).c, ?_⟩
          walk_at "zk"
          refine st_setL (Wd.is1 w6) (ixNn (by rw [hBT.1]; omega)) ?_
          have hnew := (hBT.up e6).set (Nat.le_of_lt hpn) (ho1.les ho6)
          rw [pt_pt] at hnew
          exact st_btw (e5.trans e6) w6.put1 ⟨_, _, _, _, _, rfl, hnew, hO.les Bst.one (PCi_succ hct hb2), rfl⟩
      · rintro σ' G5 W5 H5 e5 w5 ⟨fs, o, x8, x9, x10, rfl, hBT, hO, rfl⟩
        rw [hR.1] at hO
        refine st_btw (e3.trans (e4.trans e5)) w5 ⟨fs, pt bt p o, _, _, _, _, rfl, hBT, by rw [pt_ne (by omega)]; exact hbn, fun q hq => ?_, rfl⟩
        by_cases hqp : q < p
        · rw [if_pos (by omega), pt_ne (by omega)]
          have := hbq q hq
          rw [if_pos (by omega)] at this
          exact this
        · rw [if_neg (by omega)]
          by_cases hqe : q = p
          · subst hqe
            exact PCi_all hC hO
          · have := hbq q hq
            rw [if_neg (by omega)] at this
            exact PC_pt (by omega) this
    · rintro σ' G3 W3 H3 e3 w3 ⟨fs, bt, x7, x8, x9, x10, rfl, hBT, hbn, hbq, rfl⟩
      have hP : ∀ q, q < row.length → Bst (PC row ns ms bt q) (bt q) := fun q hq => by
        have := hbq q hq
        rw [if_neg (by omega)] at this
        exact this
      have hmin := PC_min hbn hP
      obtain ⟨o, rfl, ho, e4, w4⟩ := w3.freeze1
      have hb4 : (upd G3 b (.lst fs)) b = some (.lst fs) := upd_same
      have hBT := hBT.up e4
      generalize upd G3 b (HO.lst fs) = G4 at e4 w4 hb4 hBT
      clear w3 ho hbq w9 hb0
      have e34 := e3.trans e4
      have ha4 := ha8.up e34
      obtain ⟨v0, hv0, ho0⟩ := hBT.2 0 (by omega)
      have hat0 : atI fs (0 : Int) = some v0 := (show atI fs ((0 : Nat) : Int) = some v0 from atI_nat hv0)
      walk_at "zk"
      refine st_ixL (SqL.of (w4.at hb4)) hat0 ?_
      walk_at "zk"
      refine ⟨rfl, ?_⟩
      cases hb0 : bt 0 with
      | none =>
        rw [hb0] at ho0
        obtain rfl : v0 = .non := ho0
        rw [show decide (V.non = V.non) = true from rfl]
        walk_at "zk"
        refine k _ G4 H3 (e08.trans e34) w4 (.inl ⟨rfl, fun ts hts => ?_⟩)
        cases hc : tcs ns ms ts with
        | none => rfl
        | some c =>
          obtain ⟨_, _, h, _⟩ := hmin ts 0 c hts hc
          rw [hb0] at h
          exact nomatch h
      | some cx =>
        obtain ⟨c0, x0⟩ := cx
        rw [hb0] at ho0
        obtain ⟨pb, yb, rfl, hpb, _⟩ := ho0
        rw [show decide (V.ref pb = V.non) = false from rfl]
        walk_at "zk"
        refine ⟨small (by simp), NewO.own w4 fun tk H5 w5 => ?_⟩
        walk_at "zk"
        refine while_m (fun z σ G' W' => ∃ (q : Nat) (ts : List Tkn) (xs : List V) (c1 c2 : Int) (x2 : Option Tkn), W' = (tk, Is (.lst xs)) :: W ∧ Rl TokV G' xs ts ∧ Tkp row 0 ts q ∧ tcs ns ms ts = some c1 ∧ bt q = some (c2, x2) ∧ c0 = c1 + c2 ∧ q ≤ row.length ∧ z = row.length - q ∧
          σ = [some (.ref a0), some (.ref b1), some (.ref b2), some (.ref a), some (.ref e), some (.ref x), some (.ref b), some (.int (q : Int)), x8, x9, x10, some (.ref tk)]) row.length w5
          ⟨0, [], [], 0, c0, x0, rfl, Rl.nil, rfl, rfl, hb0, by omega, Nat.zero_le _, rfl, rfl⟩ ?_
        rintro z σ' G6 W6 H6 e6 w6 ⟨q, ts, xs, c1, c2, x2, rfl, hR, hT, hc1, hbq, hc0, hq, rfl, rfl⟩
        have hb6 := e6 _ _ hb4
        walk_at "zk"
        refine ⟨a, _, rfl, .inl (seq_up w6 (ha4.up e6).seq), ?_⟩
        walk_at "zk"
        rw [List.length_map]
        by_cases hlt : q < row.length
        · rw [decide_eq_true (show (q : Int) < (row.length : Int) by omega)]
          walk_at "zk"
          refine wt_go ?_
          walk_at "zk"
          refine ⟨tyL' (Wd.is1 w6), ?_⟩
          obtain ⟨t, d1', d2', x3, h1, h2, h3, h4, h5⟩ := (hP q hlt).1 c2 x2 hbq
          subst h1
          obtain ⟨vq, hvq, hoq⟩ := hBT.2 q hq
          rw [hbq] at hoq
          obtain ⟨pq, yq, rfl, hpq, hyq⟩ := hoq
          have hyq : TokV G4 yq t := hyq
          have hlen := hT.len
          have hxl := hR.1
          walk_at "zk"
          refine st_ixL (SqL.of (w6.at hb6)) (atI_nat hvq) ?_
          walk_at "zk"
          refine st_ixT (v := yq) (SqT.of (w6.at (e6 _ _ hpq))) rfl ?_
          walk_at "zk"
          refine st_appL (Wd.is1 w6) (by omega) ?_
          have w7 : Wd G6 ((tk, Is (.lst (xs ++ [yq]))) :: W) (upd H6 tk (.lst (xs ++ [yq]))) := Wd.put1 w6
          generalize upd H6 tk (HO.lst (xs ++ [yq])) = H7 at w7
          walk_at "zk"
          refine st_ixL (SqL.of (Wd.is1 w7)) atI_last ?_
          walk_at "zk"
          refine ⟨yq, t, rfl, (hyq.up e6).up w7.ex, ?_⟩
          walk_at "zk"
          have hsp := h2.sp
          refine st_wbt (m2 := row.length - (q + t.sp)) (by omega) e6 w7 ⟨q + t.sp, ts ++ [t], xs ++ [yq], c1 + d1', d2', x3, rfl, hR.snoc (hyq.up e6), hT.snoc h2, tcs_snoc hc1 h3, h4, by omega, by omega, rfl, ?_⟩
          rw [show (q : Int) + (t.sp : Int) = ((q + t.sp : Nat) : Int) by omega]
          rfl
        · rw [decide_eq_false (show ¬ (q : Int) < (row.length : Int) by omega)]
          obtain rfl : q = row.length := by omega
          rw [hbn] at hbq
          injection hbq with hbq
          injection hbq with hbq1 hbq2
          obtain ⟨o, rfl, ho, e7, w7⟩ := w6.freeze1
          have ht7 : (upd G6 tk (.lst xs)) tk = some (.lst xs) := upd_same
          have hR7 := hR.upK e7
          generalize upd G6 tk (HO.lst xs) = G7 at e7 w7 ht7 hR7
          walk_at "zk"
          refine st_ixL (SqL.of (w7.at (e7 _ _ hb6))) hat0 ?_
          walk_at "zk"
          refine st_ixT (v := .int c0) (SqT.of (w7.at (e7 _ _ (e6 _ _ hpb)))) rfl ?_
          walk_at "zk"
          refine ⟨small (by simp), NewO.good w7 fun p8 G8 H8 e8 w8 h8 => ?_⟩
          refine k _ G8 H8 (e08.trans (e34.trans (e6.trans (e7.trans e8)))) w8 (.inr ⟨p8, tk, xs, ts, c0, rfl, h8, e8 _ _ ht7, hR7.upK e8, hT, by rw [hc1]; congr 1; omega, fun ts' c' h1 h2 => ?_⟩)
          obtain ⟨c3, x3, h3, h4⟩ := hmin ts' 0 c' h1 h2
          rw [hb0] at h3
          injection h3 with h3
          injection h3 with h3 h5
          omega

def lsy (v : Int) : Int × Int := (257 + cnt kc_LENGTHS v, kc_LENGTH_EXTRAS.getD (cnt kc_LENGTHS v).toNat 0)
def dsy (v : Int) : Int × Int := (cnt kc_DISTANCES v, kc_DISTANCE_EXTRAS.getD (cnt kc_DISTANCES v).toNat 0)
def cmb : V → Int → V → Int → V
  | .int x, e, .int y, f => .int (x + e + y + f)
  | _, _, _, _ => .non
def tbV (ns ms : List Int) : PyData → V
  | .int i => szV ns i
  | .tuple [.int l, .int m] => cmb (szV ns (lsy l).1) (lsy l).2 (szV ms (dsy m).1) (dsy m).2
  | _ => .non
theorem lsy_ge {v : Int} (h : 3 ≤ v) : 0 ≤ (lsy v).1 := by
  have := cnt_ge (ns := kc_LENGTHS) (n := 3) (by decide) h
  unfold lsy
  dsimp only
  omega
theorem dsy_ge {v : Int} (h : 1 ≤ v) : 0 ≤ (dsy v).1 := cnt_ge (ns := kc_DISTANCES) (n := 1) (by decide) h
/-! ### the law's symbols -/
def sy : List Nat → Int → Int → Int → Int × Int
  | [], _, s, _ => (s, 0)
  | e :: es, a, s, v => if v < a + 2 ^ e then (s, (e : Int)) else sy es (a + 2 ^ e) (s + 1) v
def syA (f0 f1 p : Int) (es : List Nat) (v : Int) : Int × Int := if v < f0 + p then (f1 + v - f0, 0) else sy es (f0 + p) (f1 + p) v
def esL : List Nat := [1, 1, 1, 1, 2, 2, 2, 2, 3, 3, 3, 3, 4, 4, 4, 4, 5, 5, 5, 5]
def esD : List Nat := [1, 1, 2, 2, 3, 3, 4, 4, 5, 5, 6, 6, 7, 7, 8, 8, 9, 9, 10, 10, 11, 11, 12, 12, 13, 13]
def fs : List Nat → Int → List Int
  | [], _ => []
  | e :: es, a => a :: fs es (a + 2 ^ e)
def fin : List Nat → Int → Int
  | [], a => a
  | e :: es, a => fin es (a + 2 ^ e)
theorem fs_gt : ∀ (es : List Nat) (a v : Int), v < a → (fs es a).filter (fun x => decide (x ≤ v)) = []
  | [], _, _, _ => rfl
  | e :: es, a, v, h => by
    have h2 : (0 : Int) < 2 ^ e := Int.pow_pos (by decide)
    unfold fs
    rw [List.filter_cons, decide_eq_false (by omega)]
    exact fs_gt es _ v (by omega)
theorem sy_cnt : ∀ (es : List Nat) (a s v : Int), a ≤ v → v < fin es a →
    ∃ c : Nat, ((fs es a).filter fun x => decide (x ≤ v)).length = c + 1 ∧ c < es.length ∧ sy es a s v = (s + c, (es.getD c 0 : Int))
  | [], a, s, v, h1, h2 => by
    unfold fin at h2
    omega
  | e :: es, a, s, v, h1, h2 => by
    unfold fs sy
    rw [List.filter_cons, decide_eq_true h1]
    by_cases h : v < a + 2 ^ e
    · rw [if_pos h, fs_gt es _ v h]
      exact ⟨0, rfl, Nat.succ_pos _, by simp⟩
    · rw [if_neg h]
      obtain ⟨c, h3, h5, h4⟩ := sy_cnt es (a + 2 ^ e) (s + 1) v (by omega) h2
      refine ⟨c + 1, ?_, Nat.succ_lt_succ h5, ?_⟩
      · rw [if_pos rfl, List.length_cons, h3]
      · rw [h4]
        simp
        omega
theorem dsy_eq {v : Int} (h0 : 1 ≤ v) (h1 : v ≤ 32768) : syA 1 0 4 esD v = dsy v := by
  unfold syA dsy cnt
  by_cases h : v < 1 + 4
  · rw [if_pos h]
    have : v = 1 ∨ v = 2 ∨ v = 3 ∨ v = 4 := by omega
    rcases this with rfl | rfl | rfl | rfl <;> decide +kernel
  · rw [if_neg h]
    obtain ⟨c, h3, h5, h4⟩ := sy_cnt esD (1 + 4) (0 + 4) v (by omega) (by rw [show fin esD (1 + 4) = 32769 by decide +kernel]; omega)
    have hk : kc_DISTANCES = [1, 2, 3, 4] ++ fs esD (1 + 4) := by decide +kernel
    have hf : ([1, 2, 3, 4] : List Int).filter (fun x => decide (x ≤ v)) = [1, 2, 3, 4] := by
      rw [List.filter_eq_self]
      intro a ha
      simp at ha
      exact decide_eq_true (by omega)
    rw [h4, hk, List.filter_append, hf, List.length_append, h3]
    have hc : (((([1, 2, 3, 4] : List Int).length + (c + 1) : Nat) : Int) - 1).toNat = 4 + c := by
      show (((4 + (c + 1) : Nat) : Int) - 1).toNat = 4 + c
      omega
    rw [hc]
    have h26 : c < 26 := h5
    refine Prod.ext ?_ ?_
    · show (0 : Int) + 4 + (c : Int) = ((4 + (c + 1) : Nat) : Int) - 1
      omega
    · show ((esD.getD c 0 : Nat) : Int) = kc_DISTANCE_EXTRAS.getD (4 + c) 0
      exact (show ∀ c, c < 26 → ((esD.getD c 0 : Nat) : Int) = kc_DISTANCE_EXTRAS.getD (4 + c) 0 by decide +kernel) c h26
theorem lsy_eq {v : Int} (h0 : 3 ≤ v) (h1 : v ≤ 258) : (if v = 258 then (285, 0) else syA 3 257 8 esL v) = lsy v := by
  have h := (show ∀ n : Nat, n < 256 → (if (n : Int) + 3 = 258 then (285, 0) else syA 3 257 8 esL ((n : Int) + 3)) = lsy ((n : Int) + 3) by decide +kernel) (v - 3).toNat (by omega)
  rw [show (((v - 3).toNat : Nat) : Int) + 3 = v by omega] at h
  exact h
theorem drop_at {es : List Nat} {n x : Nat} (h : es[n]? = some x) : es.drop n = x :: es.drop (n + 1) := by
  obtain ⟨h1, h2⟩ := List.getElem?_eq_some_iff.mp h
  rw [List.drop_eq_getElem_cons h1, h2]
def sp_lawsym (K : PySem.W.Frag) : Sp := fun vs H Q _ => ∃ (G : Hp) (W : Wl) (t : Addr) (f0 f1 p : Int) (g e : Nat) (v : Int) (es : List Nat), Wd G W H ∧ vs = [.ref t, .int p, .int (g : Int), .int (e : Int), .int v] ∧ SqT K G t [.int f0, .int f1] ∧ g ≤ 20 ∧ e ≤ 10 ∧
  es.length = g * e ∧ (∀ i, i < g → ∀ j, j < e → es[i * e + j]? = some (i + 1)) ∧ ∀ q G' H', Same G G' → Wd G' W H' → G' q = some (.tup [.int (syA f0 f1 p es v).1, .int (syA f0 f1 p es v).2]) → Q (.ref q) H'
theorem ok__law_symbol (T : Txt K mg A) : FnOk P w K mg base CX0 1 A.f__law_symbol A.fd__law_symbol sP__law_symbol (sp_lawsym K) := by
  refine okD T.F__law_symbol sc__law_symbol (fun vs H Q E h => ?_) (fun cdv Ar outer s H vs Q E hr h => ⟨_, (pss_cons (ps_if (pt_cmpR op_lt (pv 4) (pe_op op_add (pe_ix ix_tup (pv 0) (pe_int) (fun _ _ => rfl)) (pv 1)) (nomark _)) (pss_one (ps_ret (pe_tup (pa_cons (pe_op op_sub (pe_op op_add (pe_ix ix_tup (pv 0) (pe_int) (fun _ _ => rfl)) (pv 4)) (pe_ix ix_tup (pv 0) (pe_int) (fun _ _ => rfl))) (pa_cons (pe_int) pa_nil))))) pss_nil)
      (pss_cons (ps_par (i := 5) (j := 6) (by rfl) sc__law_symbol.nd rfl rfl (by decide) rfl rfl (pa_cons (pe_op op_add (pe_ix ix_tup (pv 0) (pe_int) (fun _ _ => rfl)) (pv 1)) (pa_cons (pe_op op_add (pe_ix ix_tup (pv 0) (pe_int) (fun _ _ => rfl)) (pv 1)) pa_nil)) (by rfl))
      (pss_cons (ps_for PassesOwn.never rfl (pi_range2 (by rfl) T.z_range (pa_cons (pe_int) (pa_cons (pe_op op_add (pv 2) (pe_int)) pa_nil))) (pg_name (i := 7) sc__law_symbol.nd rfl (Or.inl rfl)) (pss_one (ps_for PassesOwn.never rfl (pi_range1 (by rfl) T.z_range (pa_cons (pv 3) pa_nil)) (pg_name (i := 8) sc__law_symbol.nd rfl (Or.inl rfl)) (pss_cons (ps_if (pt_cmpR op_lt (pv 4) (pe_op op_add (pv 5) (pe_op op_shl (pe_int) (pv 7))) (nomark _)) (pss_one (ps_ret (pe_tup (pa_cons (pv 6) (pa_cons (pv 7) pa_nil))))) pss_nil)
      (pss_one (ps_par (i := 5) (j := 6) (by rfl) sc__law_symbol.nd rfl rfl (by decide) rfl rfl (pa_cons (pe_op op_add (pv 5) (pe_op op_shl (pe_int) (pv 7))) (pa_cons (pe_op op_add (pv 6) (pe_int)) pa_nil)) (by rfl)))))))
      (pss_one (ps_ret (pe_tup (pa_cons (pv 6) (pa_cons (pe_int) pa_nil)))))))), ?_⟩)
  · obtain ⟨G, W, t, f0, f1, p, g, e, v, es, _, rfl, _⟩ := h
    rfl
  · obtain ⟨G, W, t, f0, f1, p, g, e, v, es, w, rfl, ht, hg, he, hl, hes, k⟩ := h
    walk_at "zz"
    refine st_ixT (v := .int f0) (tup_up w ht) rfl ?_
    walk_at "zz"
    by_cases h : v < f0 + p
    · rw [decide_eq_true h]
      walk_at "zz"
      refine st_ixT (v := .int f1) (tup_up w ht) rfl ?_
      walk_at "zz"
      refine st_ixT (v := .int f0) (tup_up w ht) rfl ?_
      walk_at "zz"
      unfold syA at k
      rw [if_pos h] at k
      exact ⟨small (by simp), NewO.good w fun p G2 H2 e2 w2 h2 => k p G2 H2 e2 w2 h2⟩
    · rw [decide_eq_false h]
      unfold syA at k
      rw [if_neg h] at k
      walk_at "zz"
      refine st_ixT (v := .int f0) (tup_up w ht) rfl ?_
      walk_at "zz"
      refine st_ixT (v := .int f1) (tup_up w ht) rfl ?_
      walk_at "zz"
      generalize hR : sy es (f0 + p) (f1 + p) v = R at k
      refine for_r2 (by omega) (fun i σ G' W' => W' = W ∧ ∃ a s x7 x8, σ = [some (.ref t), some (.int p), some (.int (g : Int)), some (.int (e : Int)), some (.int v), some (.int a), some (.int s), x7, x8] ∧ sy (es.drop (i * e)) a s v = R) w ⟨rfl, _, _, _, _, rfl, by rw [Nat.zero_mul]; exact hR⟩ ?_ ?_
      · rintro i σ' G1 W1 H1 hi e1 w1 ⟨rfl, a, s1, x7, x8, rfl, hsy⟩
        walk_at "zz"
        refine for_r1 (by omega) (fun j σ G' W' => W' = W1 ∧ ∃ a s x8, σ = [some (.ref t), some (.int p), some (.int (g : Int)), some (.int (e : Int)), some (.int v), some (.int a), some (.int s), some (.int (1 + (i : Int))), x8] ∧ sy (es.drop (i * e + j)) a s v = R) w1 ⟨rfl, _, _, _, rfl, hsy⟩ ?_ ?_
        · rintro j σ' G2 W2 H2 hj e2 w2 ⟨rfl, a, s1, x8, rfl, hsy⟩
          have hx := hes i (by omega) j (by omega)
          rw [drop_at hx] at hsy
          unfold sy at hsy
          have hpow : (1 : Int) * 2 ^ (1 + (i : Int)).toNat = 2 ^ (i + 1) := by
            rw [Int.one_mul, show (1 + (i : Int)).toNat = i + 1 by omega]
          walk_at "zz"
          rw [hpow]
          by_cases hv : v < a + 2 ^ (i + 1)
          · rw [decide_eq_true hv]
            rw [if_pos hv] at hsy
            subst hsy
            walk_at "zz"
            exact ⟨small (by simp), NewO.good w2 fun p G3 H3 e3 w3 h3 => k p G3 H3 (by walk_at "sm") w3 (by rw [h3, show (1 : Int) + (i : Int) = ((i + 1 : Nat) : Int) by omega])⟩
          · rw [decide_eq_false hv]
            rw [if_neg hv] at hsy
            walk_at "zz"
            rw [hpow]
            exact st_btw (by walk_at "sm") w2 ⟨rfl, _, _, _, rfl, hsy⟩
        · rintro σ' G2 W2 H2 e2 w2 ⟨rfl, a, s1, x8, rfl, hsy⟩
          refine st_btw (by walk_at "sm") w2 ⟨rfl, _, _, _, _, rfl, ?_⟩
          rw [← hsy, Nat.succ_mul]
          rfl
      · rintro σ' G1 W1 H1 e1 w1 ⟨rfl, a, s1, x7, x8, rfl, hsy⟩
        rw [show ((g : Int) + 1 - 1).toNat = g by omega, List.drop_eq_nil_of_le (by omega)] at hsy
        unfold sy at hsy
        subst hsy
        walk_at "zz"
        exact ⟨small (by simp), NewO.good w1 fun p G3 H3 e3 w3 h3 => k p G3 H3 (by walk_at "sm") w3 h3⟩
def sp_size (K : PySem.W.Frag) : Sp := fun vs H Q _ => ∃ (a : Addr) (ns : List Int) (s : Int), vs = [.ref a, .int s] ∧ SqL K H a (ns.map V.int) ∧ 0 ≤ s ∧ Q (szV ns s) H
theorem ok__law_size (T : Txt K mg A) : FnOk P w K mg base CX0 1 A.f__law_size A.fd__law_size sP__law_size (sp_size K) := by
  refine okD T.F__law_size sc__law_size (fun vs H Q E h => ?_) (fun cdv Ar outer s H vs Q E hr h => ⟨_, (pss_one (ps_ret (pe_ifExp (PW.pt (pw_and (pt_cmpR op_lt (pv 1) (pe_callB call_len_seq (by rfl) T.z_len PySem.boot_len (pa_cons (pv 0) pa_nil)) (nomark _)) (pw_and1 (pt_cmpR op_gt (pe_ix ix_list (pv 0) (pv 1) (fun _ _ => rfl)) (pe_int) (nomark _))))) (pe_ix ix_list (pv 0) (pv 1) (fun _ _ => rfl)) (pe_non)))), ?_⟩)
  · obtain ⟨a, ns, v, rfl, _⟩ := h
    rfl
  · obtain ⟨a, ns, v, rfl, ha, h0, k⟩ := h
    unfold szV at k
    walk_at "zz"
    walk_at "zi"
    walk_at "zz"
    refine ⟨a, _, rfl, .inl ha, ?_⟩
    walk_at "zz"
    rw [List.length_map]
    by_cases h1 : v < ns.length
    · rw [decide_eq_true h1]
      walk_at "zz"
      refine st_ixL ha (atI_getD h0 h1) ?_
      walk_at "zz"
      by_cases h2 : 0 < ns.getD v.toNat 0
      · rw [decide_eq_true h2]
        walk_at "zz"
        refine st_ixL ha (atI_getD h0 h1) ?_
        rw [if_pos ⟨h1, h2⟩] at k
        exact k
      · rw [decide_eq_false h2]
        walk_at "zz"
        rw [if_neg (fun h => h2 h.2)] at k
        exact k
    · rw [decide_eq_false h1]
      walk_at "zz"
      rw [if_neg (fun h => h1 h.1)] at k
      exact k
def sp_ltbits (K : PySem.W.Frag) : Sp := fun vs H Q _ => ∃ (G : Hp) (W : Wl) (x : V) (d : PyData) (a b : Addr) (ns ms : List Int), Wd G W H ∧ vs = [x, .ref a, .ref b] ∧ Dp K G x d ∧ TokB d ∧ SqL K G a (ns.map V.int) ∧ SqL K G b (ms.map V.int) ∧ ∀ G' H', Same G G' → Wd G' W H' → Q (tbV ns ms d) H'
theorem ok__law_token_bits (T : Txt K mg A) : FnOk P w K mg base CX0 2 A.f__law_token_bits A.fd__law_token_bits sP__law_token_bits (sp_ltbits K) := by
  refine okD T.F__law_token_bits sc__law_token_bits (fun vs H Q E h => ?_) (fun cdv Ar outer s H vs Q E hr h => ⟨_, (pss_cons (ps_if (pt_val (pe_call (ok__law_whole T) (hr.mono (by decide)) rfl T.m__law_whole T.F__law_whole.kp T.b__law_whole .nil pass0 (pa_cons (pv 0) pa_nil))) (pss_one (ps_ret (pe_call (ok__law_size T) (hr.mono (by decide)) rfl T.m__law_size T.F__law_size.kp T.b__law_size .nil pass0 (pa_cons (pv 1) (pa_cons (pv 0) pa_nil))))) pss_nil)
      (C8.pss_cut (ps_set (i := 3) sc__law_token_bits.nd rfl (Or.inl rfl) (pe_ifExp (pt_cmpR op_eq (pe_ix ix_tup (pv 0) (pe_int) (fun _ _ => rfl)) (pe_int) (nomark _)) (pe_tup (pa_cons (pe_int) (pa_cons (pe_int) pa_nil))) (pe_call (ok__law_symbol T) (hr.mono (by decide)) rfl T.m__law_symbol T.F__law_symbol.kp T.b__law_symbol .nil pass0 (pa_cons (pe_tup (pa_cons (pe_int) (pa_cons (pe_int) pa_nil))) (pa_cons (pe_int) (pa_cons (pe_int) (pa_cons (pe_int) (pa_cons (pe_ix ix_tup (pv 0) (pe_int) (fun _ _ => rfl)) pa_nil))))))))
      (pss_cons (ps_set (i := 4) sc__law_token_bits.nd rfl (Or.inl rfl) (pe_call (ok__law_symbol T) (hr.mono (by decide)) rfl T.m__law_symbol T.F__law_symbol.kp T.b__law_symbol .nil pass0 (pa_cons (pe_tup (pa_cons (pe_int) (pa_cons (pe_int) pa_nil))) (pa_cons (pe_int) (pa_cons (pe_int) (pa_cons (pe_int) (pa_cons (pe_ix ix_tup (pv 0) (pe_int) (fun _ _ => rfl)) pa_nil)))))))
      (pss_cons (ps_set (i := 5) sc__law_token_bits.nd rfl (Or.inl rfl) (pe_lst (pa_cons (pe_call (ok__law_size T) (hr.mono (by decide)) rfl T.m__law_size T.F__law_size.kp T.b__law_size .nil pass0 (pa_cons (pv 1) (pa_cons (pe_ix ix_tup (pv 3) (pe_int) (fun _ _ => rfl)) pa_nil))) (pa_cons (pe_call (ok__law_size T) (hr.mono (by decide)) rfl T.m__law_size T.F__law_size.kp T.b__law_size .nil pass0 (pa_cons (pv 2) (pa_cons (pe_ix ix_tup (pv 4) (pe_int) (fun _ _ => rfl)) pa_nil))) pa_nil))))
      (pss_one (ps_ret (pe_ifExp (pt_cmpR op_in_seq (pe_non) (pv 5) rfl) (pe_non) (pe_op op_add (pe_op op_add (pe_op op_add (pe_ix ix_list (pv 5) (pe_int) (fun _ _ => rfl)) (pe_ix ix_tup (pv 3) (pe_int) (fun _ _ => rfl))) (pe_ix ix_list (pv 5) (pe_int) (fun _ _ => rfl))) (pe_ix ix_tup (pv 4) (pe_int) (fun _ _ => rfl)))))))))), ?_⟩)
  · obtain ⟨G, W, x, d, a, b, ns, ms, _, rfl, _⟩ := h
    rfl
  · obtain ⟨G, W, x, d, a, b, ns, ms, w, rfl, hd, ht, ha, hb, k⟩ := h
    walk_at "zz"
    refine ⟨x, rfl, dp_knd (dUp w hd), ?_⟩
    rw [isInt_d (dUp w hd)]
    rcases ht with ⟨i, rfl, h0, h1⟩ | ⟨l, m, rfl, hl0, hl1, hm0, hm1⟩
    · cases hd
      dsimp only [isI]
      walk_at "zz"
      exact ⟨a, ns, i, rfl, seq_up w ha, h0, k G H (Same.refl _) w⟩
    · cases hd with
      | tup hs hall =>
        obtain ⟨x1, x2, d1, d2, rfl, e2, y1, y2⟩ := two_of hall rfl
        cases e2
        cases y1
        cases y2
        rename_i t
        dsimp only [isI]
        walk_at "zz"
        refine st_cut (fun σ H => ∃ G' p, Same G G' ∧ Wd G' W H ∧ G' p = some (.tup [.int (lsy l).1, .int (lsy l).2]) ∧ σ = [some (.ref t), some (.ref a), some (.ref b), some (.ref p), none, none]) ?_ ?_
        · have hq := lsy_eq hl0 hl1
          walk_at "zz"
          walk_at "zi"
          walk_at "zz"
          refine st_ixT (v := .int l) (tup_up w hs) rfl ?_
          walk_at "zz"
          by_cases h258 : l = 258
          · rw [decide_eq_true (show V.int l = V.int 258 by rw [h258])]
            rw [if_pos h258] at hq
            walk_at "zz"
            exact ⟨by decide, NewO.good w fun p1 G1 H1 e1 w1 h1 => ⟨G1, p1, e1, w1, by rw [h1, ← hq], rfl⟩⟩
          · rw [decide_eq_false (show ¬ V.int l = V.int 258 from fun h => h258 (by injection h))]
            rw [if_neg h258] at hq
            walk_at "zz"
            refine ⟨by decide, NewO.good w fun p1 G1 H1 e1 w1 h1 => ?_⟩
            walk_at "zz"
            refine st_ixT (v := .int l) (tup_up w1 (seqT e1 hs)) rfl ?_
            walk_at "zz"
            exact ⟨G1, W, p1, 3, 257, 8, 5, 4, l, esL, w1, rfl, SqT.of h1, by decide, by decide, by decide, by decide, fun q G2 H2 e2 w2 h2 => ⟨G2, q, e1.trans e2, w2, by rw [h2, ← hq], rfl⟩⟩
        · rintro σ1 H1 ⟨G1, p1, e1, w1, h1, rfl⟩
          have hq := dsy_eq hm0 hm1
          walk_at "zz"
          refine ⟨by decide, NewO.good w1 fun p2 G2 H2 e2 w2 h2 => ?_⟩
          walk_at "zz"
          refine st_ixT (v := .int m) (tup_up w2 (seqT (e1.trans e2) hs)) rfl ?_
          walk_at "zz"
          refine ⟨G2, W, p2, 1, 0, 4, 13, 2, m, esD, w2, rfl, SqT.of h2, by decide, by decide, by decide, by decide, fun q G3 H3 e3 w3 h3 => ?_⟩
          rw [hq] at h3
          have e13 := (e1.trans e2).trans e3
          have h13 := e3 _ _ (e2 _ _ h1)
          walk_at "zz"
          refine st_ixT (v := .int (lsy l).1) (SqT.of (w3.at h13)) rfl ?_
          walk_at "zz"
          refine ⟨a, ns, _, rfl, seq_up w3 (e13.seq ha), lsy_ge hl0, ?_⟩
          walk_at "zz"
          refine st_ixT (v := .int (dsy m).1) (SqT.of (w3.at h3)) rfl ?_
          walk_at "zz"
          refine ⟨b, ms, _, rfl, seq_up w3 (e13.seq hb), dsy_ge hm0, ?_⟩
          walk_at "zz"
          refine ⟨small (by simp), NewO.good w3 fun p4 G4 H4 e4 w4 h4 => ?_⟩
          have k2 : Q (cmb (szV ns (lsy l).1) (lsy l).2 (szV ms (dsy m).1) (dsy m).2) H4 := k G4 H4 (by walk_at "sm") w4
          walk_at "zz"
          walk_at "zi"
          walk_at "zz"
          rcases szV_or ns (lsy l).1 with h | ⟨n, h, _⟩
          · rw [h] at k2 h4
            rcases szV_or ms (dsy m).1 with h | ⟨n2, h, _⟩
            · rw [h] at k2 h4
              refine ⟨p4, _, rfl, .inl (SqL.of (w4.at h4)), rfl, rfl, ?_⟩
              walk_at "zz"
              exact k2
            · rw [h] at k2 h4
              refine ⟨p4, _, rfl, .inl (SqL.of (w4.at h4)), rfl, rfl, ?_⟩
              walk_at "zz"
              exact k2
          · rw [h] at k2 h4
            rcases szV_or ms (dsy m).1 with h | ⟨n2, h, _⟩
            · rw [h] at k2 h4
              refine ⟨p4, _, rfl, .inl (SqL.of (w4.at h4)), rfl, rfl, ?_⟩
              walk_at "zz"
              exact k2
            · rw [h] at k2 h4
              refine ⟨p4, _, rfl, .inl (SqL.of (w4.at h4)), rfl, rfl, ?_⟩
              walk_at "zz"
              refine iteBF rfl ?_
              walk_at "zz"
              refine st_ixL (v := .int n) (SqL.of (w4.at h4)) rfl ?_
              walk_at "zz"
              refine st_ixT (v := .int (lsy l).2) (SqT.of (w4.at (e4 _ _ h13))) rfl ?_
              walk_at "zz"
              refine st_ixL (v := .int n2) (SqL.of (w4.at h4)) rfl ?_
              walk_at "zz"
              refine st_ixT (v := .int (dsy m).2) (SqT.of (w4.at (e4 _ _ h3))) rfl ?_
              walk_at "zz"
              exact k2

/-! ### lengths that are split -/
def Bnd (ns : List Int) : Prop := ∀ n ∈ ns, 0 ≤ n ∧ n < ns.length
def Bd (B : Int) (ns : List Int) : Prop := ∀ n ∈ ns, 0 ≤ n ∧ n ≤ B
theorem eqI_dec {xs ys : List Int} : PyData.eqv (dI xs) (dI ys) = decide (xs = ys) := eqv_dI xs ys
theorem st_repO {G H : Hp} {W : Wl} {Q : VK} {a : Addr} {x k : Int} (ha : H a = some (.lst [.int x])) (h0 : 0 ≤ k) (h1 : k ≤ 1000000) (w : Wd G W H) (q : ∀ p H', Wd G ((p, Is (.lst ((List.replicate k.toNat x).map V.int))) :: W) H' → Q (.ref p) H') : rRep (.ref a) (.int k) H Q := by
  refine ⟨a, k, _, rfl, rfl, ha, by omega, by omega, small (by simp; omega), fun p hp => ?_⟩
  rw [flat_rep, ← List.map_replicate]
  exact q p _ (w.newM hp rfl)
def sp_split (K : PySem.W.Frag) : Sp := fun vs H Q _ => ∃ (G : Hp) (W : Wl) (b u : Addr) (us : List Int) (n : Int), Wd G W H ∧ (b, BagI) ∈ W ∧ vs = [.ref b, .ref u, .int n] ∧ SqL K G u (us.map V.int) ∧ (∀ x ∈ us, 0 ≤ x ∧ x < n) ∧ us.length ≤ 60 ∧ 0 ≤ n ∧ n ≤ 1000 ∧
  ∀ p gs G' H', Same G G' → Wd G' W H' → HL G' p gs → Bd 61 gs → Q (.ref p) H'
theorem ok__law_split (T : Txt K mg A) : FnOk P w K mg base CX0 2 A.f__law_split A.fd__law_split sP__law_split (sp_split K) := by
  refine okD T.F__law_split sc__law_split (fun vs H Q E h => ?_) (fun cdv Ar outer s H vs Q E hr h => ⟨_, (pss_cons (ps_set (i := 3) sc__law_split.nd rfl (Or.inl rfl) (pe_lst (pa_cons (pe_int) pa_nil)))
      (pss_cons (ps_while PassesOwn.never (pt_cmpR op_lt (pe_callB call_len_seq (by rfl) T.z_len PySem.boot_len (pa_cons (pv 3) pa_nil)) (pe_callB call_len_seq (by rfl) T.z_len PySem.boot_len (pa_cons (pv 1) pa_nil)) (nomark _)) (pss_cons (ps_set (i := 4) sc__law_split.nd rfl (Or.inl rfl) (pe_call (ok__law_take T) (hr.mono (by decide)) rfl T.m__law_take T.F__law_take.kp T.b__law_take .nil pass0 (pa_cons (pv 0) (pa_cons (pe_callB call_len_seq (by rfl) T.z_len PySem.boot_len (pa_cons (pv 3) pa_nil)) pa_nil))))
      (C8.pss_cut (ps_if (pt_cmpR op_eq (pe_ix ix_list (pv 3) (pv 4) (fun _ _ => rfl)) (pe_int) (nomark _)) (pss_one (ps_set (i := 4) sc__law_split.nd rfl (Or.inl rfl) (pe_bm PySem.F.plainAttrs_list PySem.F.slot_list_index PySem.F.type_list_index mt_index (pv 3) (pa_cons (pe_callB (cr_min rfl) (by rfl) T.z_min (by decide +kernel) (pa_cons (pv 3) pa_nil)) pa_nil)))) pss_nil)
      (pss_cons (ps_asg (pe_op op_add (pe_ix ix_list (pv 3) (pv 4) (fun _ _ => rfl)) (pe_int)) (pg_sub (pv 3) (pv 4) set_list))
      (pss_one (ps_expr (pe_bm PySem.F.plainAttrs_list PySem.F.slot_list_insert PySem.F.type_list_insert mt_insert (pv 3) (pa_cons (pe_call (ok__law_take T) (hr.mono (by decide)) rfl T.m__law_take T.F__law_take.kp T.b__law_take .nil pass0 (pa_cons (pv 0) (pa_cons (pe_op op_add (pe_callB call_len_seq (by rfl) T.z_len PySem.boot_len (pa_cons (pv 3) pa_nil)) (pe_int)) pa_nil))) (pa_cons (pe_ix ix_list (pv 3) (pv 4) (fun _ _ => rfl)) pa_nil)))))))))
      (C8.pss_cut (ps_if (pt_cmpR (op_eqD hr.units) (pv 3) (pe_lst (pa_cons (pe_int) pa_nil)) (nomark _)) (pss_one (ps_set (i := 3) sc__law_split.nd rfl (Or.inl rfl) (pe_lst (pa_cons (pe_int) pa_nil)))) pss_nil)
      (pss_cons (ps_set (i := 5) sc__law_split.nd rfl (Or.inl rfl) (pe_op op_rep (pe_lst (pa_cons (pe_int) pa_nil)) (pv 2)))
      (pss_cons (ps_for PassesOwn.never rfl (pi_range1 (by rfl) T.z_range (pa_cons (pe_callB call_len_seq (by rfl) T.z_len PySem.boot_len (pa_cons (pv 1) pa_nil)) pa_nil)) (pg_name (i := 6) sc__law_split.nd rfl (Or.inl rfl)) (pss_one (ps_asg (pe_ix ix_list (pv 3) (pv 6) (fun _ _ => rfl)) (pg_sub (pv 5) (pe_ix ix_list (pv 1) (pv 6) (fun _ _ => rfl)) set_list))))
      (pss_one (ps_ret (pv 5)))))))), ?_⟩)
  · obtain ⟨G, W, b, u, us, n, _, _, rfl, _⟩ := h
    rfl
  · obtain ⟨G, W, b, u, us, n, w, hm, rfl, hu, hus, hul, hn0, hn1, k⟩ := h
    walk_at "zz"
    refine ⟨by decide, NewO.own w fun l H1 w1 => ?_⟩
    walk_at "zz"
    refine while_m (fun m σ G' W' => ∃ ns x4, W' = (l, Is (.lst (ns.map V.int))) :: W ∧ Bnd ns ∧ 0 < ns.length ∧ ns.length ≤ us.length + 1 ∧ m = us.length - ns.length ∧ σ = [some (.ref b), some (.ref u), some (.int n), some (.ref l), x4, none, none]) _ w1 ⟨[0], _, rfl, (fun n hn => by rw [List.mem_singleton.mp hn]; decide), by decide, by simp, rfl, rfl⟩ ?_
    rintro m σ' G2 W2 H2 e2 w2 ⟨ns, x4, rfl, hB, hl0, hl1, rfl, rfl⟩
    walk_at "zz"
    refine ⟨l, _, rfl, .inl (SqL.of (Wd.is1 w2)), ?_⟩
    walk_at "zz"
    refine ⟨u, _, rfl, .inl (seq_up w2 (e2.seq hu)), ?_⟩
    walk_at "zz"
    rw [List.length_map, List.length_map]
    have hm2 : (b, BagI) ∈ ((l, Is (.lst (ns.map V.int))) :: W) := List.mem_cons_of_mem _ hm
    refine ite2 (fun hlt => ?_) (fun hge => ?_)
    · have hlt := of_decide_eq_true hlt
      refine wt_go ?_
      walk_at "zz"
      refine ⟨l, _, rfl, .inl (SqL.of (Wd.is1 w2)), ?_⟩
      walk_at "zz"
      rw [List.length_map]
      refine ⟨G2, _, b, _, w2, hm2, rfl, by omega, by omega, fun r H3 hr0 hr1 w3 => ?_⟩
      walk_at "zz"
      refine st_cut (fun σ H => ∃ r : Int, 0 ≤ r ∧ r < ns.length ∧ Wd G2 ((l, Is (.lst (ns.map V.int))) :: W) H ∧ σ = [some (.ref b), some (.ref u), some (.int n), some (.ref l), some (.int r), none, none]) ?_ ?_
      · obtain ⟨q, hq, hmem, _⟩ := atI_map (ns := ns) hr0 hr1
        walk_at "zz"
        refine st_ixL (SqL.of (Wd.is1 w3)) hq ?_
        walk_at "zz"
        refine ite2 (fun _ => ?_) (fun _ => ?_)
        · walk_at "zz"
          refine ⟨tyL' (Wd.is1 w3), ?_⟩
          walk_at "zz"
          refine ⟨l, ns, rfl, SqL.of (Wd.is1 w3), hl0, fun mn hmn _ => ?_⟩
          walk_at "zz"
          refine st_indexI (SqL.of (Wd.is1 w3)) hmn fun j hj _ => ?_
          walk_at "zz"
          exact ⟨(j : Int), by omega, by omega, w3, rfl⟩
        · walk_at "zz"
          exact ⟨r, hr0, hr1, w3, rfl⟩
      · clear hr0 hr1 w3
        rintro σ3 H3 ⟨r, hr0, hr1, w3, rfl⟩
        obtain ⟨q, hq, hmem, _⟩ := atI_map (ns := ns) hr0 hr1
        walk_at "zz"
        refine st_ixL (SqL.of (Wd.is1 w3)) hq ?_
        walk_at "zz"
        refine st_setL (Wd.is1 w3) (ixN_of hr0 (by rw [List.length_map]; exact hr1)) ?_
        rw [map_set']
        have w4 := Wd.put1 (o := .lst ((ns.set r.toNat (q + 1)).map V.int)) w3
        walk_at "zz"
        refine ⟨tyL' upd_same, ?_⟩
        walk_at "zz"
        refine ⟨_, _, rfl, .inl (SqL.of upd_same), ?_⟩
        walk_at "zz"
        rw [List.length_map, List.length_set]
        refine ⟨G2, _, b, _, w4, List.mem_cons_of_mem _ hm, rfl, by omega, by omega, fun r5 H5 hr2 hr3 w5 => ?_⟩
        obtain ⟨q2, hq2, hmem2, _⟩ := atI_map (ns := ns.set r.toNat (q + 1)) hr0 (by rw [List.length_set]; exact hr1)
        walk_at "zz"
        refine st_ixL (SqL.of (Wd.is1 w5)) hq2 ?_
        walk_at "zz"
        refine ⟨l, _, _, _, rfl, rfl, Wd.is1 w5, small' (by rw [List.length_map, List.length_set]; omega), hr2, by omega, ?_⟩
        rw [map_ins]
        have hq' := hB q hmem
        have hset : ∀ x ∈ ns.set r.toNat (q + 1), 0 ≤ x ∧ x < (ns.length : Int) + 1 := fun x hx => by
          rcases List.mem_or_eq_of_mem_set hx with h | h
          · have := hB x h
            omega
          · omega
        have hlen : ((ns.set r.toNat (q + 1)).take r5.toNat ++ [q2] ++ (ns.set r.toNat (q + 1)).drop r5.toNat).length = ns.length + 1 := by
          simp
          omega
        refine st_wbt (m2 := us.length - ((ns.set r.toNat (q + 1)).take r5.toNat ++ [q2] ++ (ns.set r.toNat (q + 1)).drop r5.toNat).length) (by rw [hlen]; omega) (by walk_at "sm") w5.put1 ⟨_, _, rfl, fun x hx => ?_, by rw [hlen]; omega, by rw [hlen]; omega, rfl, rfl⟩
        rw [hlen]
        have hx2 : x ∈ ns.set r.toNat (q + 1) := by
          rcases List.mem_append.mp hx with h | h
          · rcases List.mem_append.mp h with h | h
            · exact List.mem_of_mem_take h
            · rw [List.mem_singleton.mp h]
              exact hmem2
          · exact List.mem_of_mem_drop h
        have := hset x hx2
        omega
    · have hge := of_decide_eq_false (Bool.eq_false_iff.mpr hge)
      refine st_cut (fun σ H => ∃ G' l ns x4, Same G G' ∧ Wd G' ((l, Is (.lst (ns.map V.int))) :: W) H ∧ Bd 61 ns ∧ us.length ≤ ns.length ∧ σ = [some (.ref b), some (.ref u), some (.int n), some (.ref l), x4, none, none]) ?_ ?_
      · walk_at "zz"
        refine ⟨by decide, NewO.good w2 fun p3 G3 H3 e3 w3 h3 => ?_⟩
        walk_at "zz"
        refine st_eqI (xs := ns) (ys := [0]) (SqL.of (Wd.is1 w3)) (SqL.of (w3.at h3)) ?_
        walk_at "zz"
        refine ite2 (fun heq => ?_) (fun _ => ?_)
        · have heq := of_decide_eq_true heq
          walk_at "zz"
          refine ⟨by decide, NewO.own (Wd.drop1 w3) fun l2 H4 w4 => ?_⟩
          walk_at "zz"
          refine ⟨G3, l2, [1], x4, by walk_at "sm", w4, (fun x hx => by rw [List.mem_singleton.mp hx]; decide), ?_, rfl⟩
          rw [heq] at hge
          simp at hge ⊢
          omega
        · walk_at "zz"
          exact ⟨G3, l, ns, x4, by walk_at "sm", w3, (fun x hx => by have := hB x hx; omega), by omega, rfl⟩
      · clear w2 w1 hB hl0 hl1 hge hm2 e2
        rintro σ3 H3 ⟨G3, l3, ns, x4, e3, w3, hB, hle, rfl⟩
        walk_at "zz"
        refine ⟨by decide, NewO.good w3 fun p4 G4 H4 e4 w4 h4 => ?_⟩
        walk_at "zz"
        refine st_repO (hUp w4 h4) hn0 (by omega) w4 fun g H5 w5 => ?_
        walk_at "zz"
        refine ⟨u, _, rfl, .inl (seq_up w5 ((e3.trans e4).seq hu)), ?_⟩
        walk_at "zz"
        rw [List.length_map]
        refine for_r1 (by omega) (fun i σ G' W' => ∃ gs x6, W' = (g, Is (.lst (gs.map V.int))) :: (l3, Is (.lst (ns.map V.int))) :: W ∧ gs.length = n.toNat ∧ Bd 61 gs ∧ σ = [some (.ref b), some (.ref u), some (.int n), some (.ref l3), x4, some (.ref g), x6]) w5 ⟨_, _, rfl, by rw [List.length_replicate], (fun x hx => by rw [(List.mem_replicate.mp hx).2]; decide), rfl⟩ ?_ ?_
        · rintro i σ' G6 W6 H6 hi e6 w6 ⟨gs, x6, rfl, hgl, hgB, rfl⟩
          obtain ⟨o, hl3, rfl⟩ := w6.get (List.mem_cons_of_mem _ List.mem_cons_self)
          obtain ⟨q, hq, hmem, _⟩ := atI_map (ns := ns) (i := (i : Int)) (by omega) (by omega)
          obtain ⟨y, hy, hymem, _⟩ := atI_map (ns := us) (i := (i : Int)) (by omega) (by omega)
          have hy2 := hus y hymem
          walk_at "zz"
          refine st_ixL (SqL.of hl3) hq ?_
          walk_at "zz"
          refine st_ixL (seq_up w6 (((e3.trans e4).trans e6).seq hu)) hy ?_
          walk_at "zz"
          refine st_setL (Wd.is1 w6) (ixN_of hy2.1 (by rw [List.length_map, hgl]; omega)) ?_
          rw [map_set']
          exact st_btw e6 w6.put1 ⟨_, _, rfl, by rw [List.length_set]; exact hgl, fun x hx => by
            rcases List.mem_or_eq_of_mem_set hx with h | h
            · exact hgB x h
            · rw [h]
              exact hB q hmem, rfl⟩
        · rintro σ' G6 W6 H6 e6 w6 ⟨gs, x6, rfl, hgl, hgB, rfl⟩
          obtain ⟨o, rfl, ho, e7, w7⟩ := w6.freeze1
          walk_at "zz"
          exact k g gs _ H6 (by walk_at "sm") (Wd.drop1 w7) upd_same hgB
/-! ### trees that are drawn -/
def sp_trees (K : PySem.W.Frag) : Sp := fun vs H Q _ => ∃ (G : Hp) (W : Wl) (b u : Addr) (us : List Int), Wd G W H ∧ (b, BagI) ∈ W ∧ vs = [.ref b, .ref u] ∧ HL G u us ∧ Byt us ∧ 0 < us.length ∧ us.length ≤ 31 ∧
  ∀ t p q gs hs G' H', Same G G' → Wd G' W H' → G' t = some (.tup [.ref p, .ref q]) → HL G' p gs → HL G' q hs → Bd 61 gs → Bd 61 hs → Q (.ref t) H'
theorem ok__law_trees (T : Txt K mg A) : FnOk P w K mg base CX0 3 A.f__law_trees A.fd__law_trees sP__law_trees (sp_trees K) := by
  refine okD T.F__law_trees sc__law_trees (fun vs H Q E h => ?_) (fun cdv Ar outer s H vs Q E hr h => ⟨_, (pss_cons (ps_set (i := 2) sc__law_trees.nd rfl (Or.inl rfl) (pe_callB (cr_sortedSet rfl) (by rfl) T.z_sorted (by decide +kernel) (pa_cons (pe_callTy (cr_setL rfl) (by rfl) T.z_set (by decide +kernel) (pa_cons (pe_op op_cat (pe_op op_cat (pv 1) (pe_lst (pa_cons (pe_int) pa_nil))) (pe_lc (own := [("_law_turn", 3)]) (g := gName 3) (tt := tYes) rfl sc__law_trees.nd (pi_range1 (by rfl) T.z_range (pa_cons (pe_call (ok__law_take T) (hr.mono (by decide)) rfl T.m__law_take T.F__law_take.kp T.b__law_take .nil pass0 (pa_cons (pv 0) (pa_cons (pe_int) pa_nil))) pa_nil)) (blkOk_by (own := [("_law_turn", 3)]) (N := sN__law_trees) (sc := defScope s__law_trees) (by decide +kernel)) (fun _ _ _ _ _ => pg_name (i := 3) sc__law_trees.nd rfl (Or.inl rfl)) (fun _ _ _ _ _ => pts_nil) (fun _ _ _ _ _ => (pe_op op_add (pe_int) (pe_call (ok__law_take T) (hr.mono (by decide)) rfl T.m__law_take T.F__law_take.kp T.b__law_take .nil pass0 (pa_cons (pv 0) (pa_cons (pe_int) pa_nil))))))) pa_nil)) pa_nil)))
      (C8.pss_cut (ps_if (PW.pt (pw_and (pt_cmpR op_gt (pe_callB call_len_seq (by rfl) T.z_len PySem.boot_len (pa_cons (pv 2) pa_nil)) (pe_int) (nomark _)) (pw_and1 (pt_cmpR op_eq (pe_call (ok__law_take T) (hr.mono (by decide)) rfl T.m__law_take T.F__law_take.kp T.b__law_take .nil pass0 (pa_cons (pv 0) (pa_cons (pe_int) pa_nil))) (pe_int) (nomark _))))) (pss_one (ps_setLc (i := 2) (own := [("_law_symbol_here", 4)]) (g := gName 4) rfl sc__law_trees.nd rfl rfl (sw_true rfl rfl rfl (by decide +kernel)) (pi_list (pv 2)) (blkOk_by (own := [("_law_symbol_here", 4)]) (N := sN__law_trees) (sc := defScope s__law_trees) (by decide +kernel)) (fun _ _ _ _ _ => pg_name (i := 4) sc__law_trees.nd rfl (Or.inl rfl)) (fun _ _ _ _ _ => (pts_one (pt_cmpR op_ne (pv 4) (pe_ix (show IxR _ (rIxL K) from ix_list) (pv 1) (pe_int) (fun _ _ => rfl)) (nomark _)))) (fun _ _ _ _ _ => (pv 4)))) pss_nil)
      (pss_cons (ps_set (i := 5) sc__law_trees.nd rfl (Or.inl rfl) (pe_callB (cr_sortedSet rfl) (by rfl) T.z_sorted (by decide +kernel) (pa_cons (pe_callTy (cr_setL rfl) (by rfl) T.z_set (by decide +kernel) (pa_cons (pe_lc (own := [("_law_turn", 3)]) (g := gName 3) (tt := tYes) rfl sc__law_trees.nd (pi_range1 (by rfl) T.z_range (pa_cons (pe_call (ok__law_take T) (hr.mono (by decide)) rfl T.m__law_take T.F__law_take.kp T.b__law_take .nil pass0 (pa_cons (pv 0) (pa_cons (pe_int) pa_nil))) pa_nil)) (blkOk_by (own := [("_law_turn", 3)]) (N := sN__law_trees) (sc := defScope s__law_trees) (by decide +kernel)) (fun _ _ _ _ _ => pg_name (i := 3) sc__law_trees.nd rfl (Or.inl rfl)) (fun _ _ _ _ _ => pts_nil) (fun _ _ _ _ _ => (pe_call (ok__law_take T) (hr.mono (by decide)) rfl T.m__law_take T.F__law_take.kp T.b__law_take .nil pass0 (pa_cons (pv 0) (pa_cons (pe_int) pa_nil))))) pa_nil)) pa_nil)))
      (pss_cons (ps_set (i := 6) sc__law_trees.nd rfl (Or.inl rfl) (pe_call (ok__law_split T) (hr.mono (by decide)) rfl T.m__law_split T.F__law_split.kp T.b__law_split .nil pass0 (pa_cons (pv 0) (pa_cons (pv 2) (pa_cons (pe_op op_add (pe_int) (pe_call (ok__law_take T) (hr.mono (by decide)) rfl T.m__law_take T.F__law_take.kp T.b__law_take .nil pass0 (pa_cons (pv 0) (pa_cons (pe_int) pa_nil)))) pa_nil)))))
      (pss_one (ps_ret (pe_tup (pa_cons (pv 6) (pa_cons (pe_ifExp (pt_cmpR (op_neD hr.units) (pv 5) (pe_lst pa_nil) (nomark _)) (pe_call (ok__law_split T) (hr.mono (by decide)) rfl T.m__law_split T.F__law_split.kp T.b__law_split .nil pass0 (pa_cons (pv 0) (pa_cons (pv 5) (pa_cons (pe_int) pa_nil)))) (pe_op op_rep (pe_lst (pa_cons (pe_int) pa_nil)) (pe_op op_add (pe_int) (pe_call (ok__law_take T) (hr.mono (by decide)) rfl T.m__law_take T.F__law_take.kp T.b__law_take .nil pass0 (pa_cons (pv 0) (pa_cons (pe_int) pa_nil)))))) pa_nil))))))))), ?_⟩)
  · obtain ⟨G, W, b, u, us, _, _, rfl, _⟩ := h
    rfl
  · obtain ⟨G, W, b, u, us, w, hm, rfl, hu, hB, hu0, hu1, k⟩ := h
    walk_at "zz"
    refine ⟨by decide, NewO.good w fun p1 G1 H1 e1 w1 h1 => ?_⟩
    walk_at "zz"
    refine st_catI (ys := [256]) (hUp w1 (hu.up e1)) (hUp w1 h1) (by simp; omega) w1 fun p2 G2 H2 e2 w2 h2 => ?_
    walk_at "zz"
    refine ⟨G2, _, b, _, w2, hm, rfl, by decide, by decide, fun r H3 hr0 hr1 w3 => ?_⟩
    refine lc_r1 (by omega) (fun i acc _ => ∃ ns : List Int, acc = ns.map V.int ∧ (∀ n ∈ ns, 257 ≤ n ∧ n ≤ 285) ∧ ns.length = i) w3 ⟨[], rfl, (fun _ h => nomatch h), rfl⟩ (fun _ => rfl) ?_ ?_
    · rintro i D G' H' acc hi e w' ⟨ns, rfl, hL, hl⟩
      walk_at "zz"
      refine ⟨G', _, b, _, w', by simp [hm], rfl, by omega, by omega, fun r4 H4 hr4 hr5 w4 => ?_⟩
      walk_at "zz"
      refine lc_put w4 (by walk_at "sm") (by rw [List.length_map]; omega) ⟨ns ++ [257 + r4], by simp, fun n hn => ?_, by simp [hl]⟩
      rcases List.mem_append.mp hn with hn | hn
      · exact hL n hn
      · rw [List.mem_singleton.mp hn]
        omega
    rintro p5 G5 H5 acc e5 w5 ⟨l5, rfl, hB5, hl5⟩
    obtain ⟨o, rfl, ho, e6, w6⟩ := w5.freeze1
    have q5 : HL (upd G5 p5 (.lst (l5.map V.int))) p5 l5 := upd_same
    generalize upd G5 p5 (.lst (l5.map V.int)) = G6 at e6 w6 q5
    walk_at "zz"
    refine st_catI (hUp w6 (h2.up (e5.trans e6))) (hUp w6 q5) (by simp; omega) w6 fun p7 G7 H7 e7 w7 h7 => ?_
    walk_at "zz"
    refine st_setOf (seq_up w7 h7.seq) (by simp; omega) w7 fun p8 n8 G8 H8 e8 w8 hn8 h8 => ?_
    walk_at "zz"
    refine st_sortedSet h8 (by simp at hn8; omega) w8 fun p9 vs9 G9 H9 e9 w9 h9 hpw hin hlen => ?_
    have hus : ∀ x ∈ vs9, 0 ≤ x ∧ x < 286 := fun x hx => by
      have h := of_decide_eq_true ((hin x).mp hx)
      rcases List.mem_append.mp h with h | h
      · rcases List.mem_append.mp h with h | h
        · have := hB x h
          omega
        · rw [List.mem_singleton.mp h]
          decide
      · have := hB5 x h
        omega
    have hlv : vs9.length ≤ 45 := by simp at hn8; omega
    have e19 : Same G G9 := ((((e1.trans e2).trans (e5.trans e6)).trans e7).trans e8).trans e9
    clear h1 h2 h7 h8 q5 hin hpw hn8 hlen w1 w2 w3 w5 w6 w7 w8 e1 e2 e5 e6 e7 e8 e9
    walk_at "zz"
    refine st_cut (fun σ H => ∃ G' p vs x4, Same G G' ∧ Wd G' W H ∧ HL G' p vs ∧ (∀ x ∈ vs, 0 ≤ x ∧ x < 286) ∧ vs.length ≤ 45 ∧ σ = [some (.ref b), some (.ref u), some (.ref p), none, x4, none, none]) ?_ ?_
    · walk_at "zz"
      refine ⟨p9, _, rfl, .inl (seq_up w9 h9.seq), ?_⟩
      walk_at "zz"
      rw [List.length_map]
      refine ite2 (fun _ => ?_) (fun _ => ?_)
      · walk_at "zz"
        refine ⟨G9, _, b, _, w9, hm, rfl, by decide, by decide, fun r10 H10 hr2 hr3 w10 => ?_⟩
        walk_at "zz"
        refine ite2 (fun _ => ?_) (fun _ => ?_)
        · obtain ⟨q0, hq0, _, _⟩ := atI_map (ns := us) (i := 0) (by decide) (by omega)
          walk_at "zz"
          refine lc_l h9.seq (fun i acc _ => ∃ ns : List Int, acc = ns.map V.int ∧ (∀ n ∈ ns, n ∈ vs9) ∧ ns.length ≤ i) w10 ⟨[], rfl, (fun _ h => nomatch h), Nat.le_refl _⟩ (fun _ => rfl) ?_ ?_
          · rintro i x D G11 H11 acc hx e11 w11 ⟨ns, rfl, hn, hl⟩
            obtain ⟨y, hy, rfl⟩ : ∃ y, vs9[i]? = some y ∧ V.int y = x := by
              rw [List.getElem?_map] at hx
              cases e : vs9[i]? with
              | none => rw [e] at hx; exact nomatch hx
              | some n => rw [e] at hx; exact ⟨n, rfl, Option.some.inj hx⟩
            have hi : i < vs9.length := (List.getElem?_eq_some_iff.mp hy).1
            walk_at "zz"
            refine st_ixL (seq_up w11 ((e19.trans e11).seq hu.seq)) hq0 ?_
            walk_at "zz"
            refine ite2 (fun _ => ?_) (fun _ => ?_)
            · walk_at "zz"
              refine lc_put w11 e11 (by rw [List.length_map]; omega) ⟨ns ++ [y], by simp, fun n h => ?_, by rw [List.length_append]; exact Nat.succ_le_succ hl⟩
              rcases List.mem_append.mp h with h | h
              · exact hn n h
              · rw [List.mem_singleton.mp h]
                exact List.mem_of_getElem? hy
            · exact lc_skip w11 e11 ⟨ns, rfl, hn, by omega⟩
          · rintro D G11 H11 acc e11 w11 ⟨ns, rfl, hn, hl⟩
            obtain ⟨o, rfl, ho, e12, w12⟩ := w11.freeze1
            walk_at "zz"
            rw [List.length_map] at hl
            exact ⟨_, D, ns, _, (e19.trans e11).trans e12, w12, upd_same, fun x h => hus x (hn x h), by omega, rfl⟩
        · walk_at "zz"
          exact ⟨G9, p9, vs9, _, e19, w10, h9, hus, hlv, rfl⟩
      · walk_at "zz"
        exact ⟨G9, p9, vs9, _, e19, w9, h9, hus, hlv, rfl⟩
    · clear w9 h9 hus hlv e19
      rintro σ1 H1 ⟨G1, p1, vs1, x4, e1, w1, h1, hus, hlv, rfl⟩
      walk_at "zz"
      refine ⟨G1, _, b, _, w1, hm, rfl, by decide, by decide, fun r2 H2 hr0 hr1 w2 => ?_⟩
      refine lc_r1 (by omega) (fun i acc _ => ∃ ns : List Int, acc = ns.map V.int ∧ (∀ n ∈ ns, 0 ≤ n ∧ n < 12) ∧ ns.length = i) w2 ⟨[], rfl, (fun _ h => nomatch h), rfl⟩ (fun _ => rfl) ?_ ?_
      · rintro i D G' H' acc hi e w' ⟨ns, rfl, hL, hl⟩
        walk_at "zz"
        refine ⟨G', _, b, _, w', by simp [hm], rfl, by omega, by omega, fun r4 H4 hr4 hr5 w4 => ?_⟩
        refine lc_put w4 (by walk_at "sm") (by rw [List.length_map]; omega) ⟨ns ++ [r4], by simp, fun n hn => ?_, by simp [hl]⟩
        rcases List.mem_append.mp hn with hn | hn
        · exact hL n hn
        · rw [List.mem_singleton.mp hn]
          omega
      rintro p5 G5 H5 acc e5 w5 ⟨l5, rfl, hB5, hl5⟩
      obtain ⟨o, rfl, ho, e6, w6⟩ := w5.freeze1
      have q5 : HL (upd G5 p5 (.lst (l5.map V.int))) p5 l5 := upd_same
      generalize upd G5 p5 (.lst (l5.map V.int)) = G6 at e6 w6 q5
      walk_at "zz"
      refine st_setOf (seq_up w6 q5.seq) (by omega) w6 fun p8 n8 G8 H8 e8 w8 hn8 h8 => ?_
      walk_at "zz"
      refine st_sortedSet h8 (by omega) w8 fun p9 vs9 G9 H9 e9 w9 h9 hpw hin hlen => ?_
      have hus9 : ∀ x ∈ vs9, 0 ≤ x ∧ x < 30 := fun x hx => by
        have := hB5 x (of_decide_eq_true ((hin x).mp hx))
        omega
      have e19 := ((e5.trans e6).trans e8).trans e9
      walk_at "zz"
      refine ⟨G9, _, b, _, w9, hm, rfl, by decide, by decide, fun r10 H10 hr2 hr3 w10 => ?_⟩
      walk_at "zz"
      refine ⟨G9, _, b, p1, vs1, _, w10, hm, rfl, (h1.up e19).seq, (fun x h => by have := hus x h; omega), by omega, by omega, by omega, fun p11 gs G11 H11 e11 w11 h11 hg11 => ?_⟩
      walk_at "zz"
      walk_at "zi"
      walk_at "zz"
      refine ⟨by decide, NewO.good w11 fun p12 G12 H12 e12 w12 h12 => ?_⟩
      walk_at "zz"
      refine st_neI (xs := vs9) (ys := []) (seq_up w12 (h9.up (e11.trans e12)).seq) (SqL.of (w12.at h12)) ?_
      walk_at "zz"
      refine ite2 (fun _ => ?_) (fun _ => ?_)
      · walk_at "zz"
        refine ⟨G12, _, b, p9, vs9, _, w12, hm, rfl, (h9.up (e11.trans e12)).seq, hus9, by omega, by decide, by decide, fun p13 hs G13 H13 e13 w13 h13 hg13 => ?_⟩
        walk_at "zz"
        refine ⟨small (by simp), NewO.good w13 fun p14 G14 H14 e14 w14 h14 => ?_⟩
        exact k p14 p11 p13 gs hs G14 H14 ((e1.trans e19).trans (((e11.trans e12).trans e13).trans e14)) w14 h14 (h11.up ((e12.trans e13).trans e14)) (h13.up e14) hg11 hg13
      · walk_at "zz"
        refine ⟨by decide, NewO.good w12 fun p13 G13 H13 e13 w13 h13 => ?_⟩
        walk_at "zz"
        refine ⟨G13, _, b, _, w13, hm, rfl, by decide, by decide, fun r14 H14 hr4 hr5 w14 => ?_⟩
        walk_at "zz"
        refine st_repI (hUp w14 h13) (by omega) (by omega) w14 fun p15 G15 H15 e15 w15 h15 => ?_
        walk_at "zz"
        refine ⟨small (by simp), NewO.good w15 fun p16 G16 H16 e16 w16 h16 => ?_⟩
        exact k p16 p11 p15 gs _ G16 H16 ((e1.trans e19).trans (((e11.trans e12).trans e13).trans (e15.trans e16))) w16 h16 (h11.up ((e12.trans e13).trans (e15.trans e16))) (h15.up e16) hg11 (fun x hx => by rw [(List.mem_replicate.mp hx).2]; decide)


/-! ### the law's costs -/
def Tkn.d : Tkn → PyData
  | .lit b => .int b
  | .mat l m => .tuple [.int (l : Int), .int (m : Int)]
theorem TokV.dpT {G : Hp} {y : V} {t : Tkn} (h : TokV G y t) : Dp K G y t.d := by
  cases t with
  | lit b =>
    obtain rfl : y = .int b := h
    exact .int b
  | mat l m =>
    obtain ⟨q, rfl, hq⟩ := h
    exact .tup (SqT.of hq) (.cons (.int _) (.cons (.int _) .nil))
theorem tbV_tkc (ns ms : List Int) (t : Tkn) : tbV ns ms t.d = oV (tkc ns ms t) := by
  cases t with
  | lit b => exact szV_oV ns b
  | mat l m =>
    show cmb (szV ns (lsy l).1) (lsy l).2 (szV ms (dsy m).1) (dsy m).2 = oV ((spanN ns l).bind fun a => (farN ms m).map fun b => a + b)
    rw [szV_oV, szV_oV]
    have h1 : spanN ns l = (szO ns (lsy l).1).map (· + (lsy l).2) := rfl
    have h2 : farN ms m = (szO ms (dsy m).1).map (· + (dsy m).2) := rfl
    rw [h1, h2]
    cases szO ns (lsy l).1 with
    | none => rfl
    | some a =>
      cases szO ms (dsy m).1 with
      | none => rfl
      | some b =>
        show V.int (a + (lsy l).2 + b + (dsy m).2) = V.int (a + (lsy l).2 + (b + (dsy m).2))
        congr 1
        omega
theorem TokAt.tokB {row : List Int} {p : Nat} {t : Tkn} (h : TokAt row p t) (hB : Byt row) (hl : row.length ≤ 100) : TokB t.d := by
  cases t with
  | lit b =>
    have h : row[p]? = some b := h
    have := hB b (List.mem_of_getElem? h)
    exact .inl ⟨b, rfl, this.1, this.2⟩
  | mat l m =>
    obtain ⟨h1, h2, h3, h4⟩ := h
    have := Eq2_le row p (p - m)
    exact .inr ⟨l, m, rfl, by omega, by omega, by omega, by omega⟩
theorem Tkp.tokB {row : List Int} (hB : Byt row) (hl : row.length ≤ 100) : ∀ {ts : List Tkn} {p q : Nat}, Tkp row p ts q → ∀ t ∈ ts, TokB t.d
  | [], _, _, _, t, h => absurd h List.not_mem_nil
  | u :: ts, p, q, h, t, ht => by
    rcases List.mem_cons.mp ht with rfl | ht
    · exact h.1.tokB hB hl
    · exact Tkp.tokB hB hl h.2 t ht
def rowV (G : Hp) (v : V) (ts : List Tkn) : Prop := ∃ r ys, v = .ref r ∧ G r = some (.lst ys) ∧ Rl TokV G ys ts
theorem rowV.up {G G' : Hp} {v : V} {ts : List Tkn} (e : Same G G') (h : rowV G v ts) : rowV G' v ts := let ⟨r, ys, h1, h2, h3⟩ := h; ⟨r, ys, h1, e _ _ h2, h3.upK e⟩
theorem Rl.upR {G G' : Hp} {xs : List V} {rs : List (List Tkn)} (e : Same G G') (h : Rl rowV G xs rs) : Rl rowV G' xs rs := ⟨h.1, fun x hx => (h.2 x hx).up e⟩
theorem tcs_in (ns ms : List Int) : ∀ ts : List Tkn, (inV .non (ts.map fun t => oV (tkc ns ms t)) = true ↔ tcs ns ms ts = none)
  | [] => ⟨(fun h => nomatch h), (fun h => nomatch h)⟩
  | t :: ts => by
    have ih := tcs_in ns ms ts
    unfold inV at ih ⊢
    rw [List.map_cons, List.any_cons, Bool.or_eq_true, ih]
    show _ ↔ (tkc ns ms t).bind (fun a => (tcs ns ms ts).map fun b => a + b) = none
    cases h1 : tkc ns ms t with
    | none => exact ⟨fun _ => rfl, fun _ => .inl rfl⟩
    | some a =>
      cases h2 : tcs ns ms ts with
      | none => exact ⟨fun _ => rfl, fun _ => .inr rfl⟩
      | some b => exact ⟨fun h => h.elim (fun h => nomatch h) (fun h => nomatch h), (fun h => nomatch h)⟩
theorem tcs_sum (ns ms : List Int) : ∀ {ts : List Tkn} {c : Int}, tcs ns ms ts = some c → ∃ ks : List Int, (ts.map fun t => oV (tkc ns ms t)) = ks.map V.int ∧ ks.sum = c
  | [], c, h => by
    injection h with h
    exact ⟨[], rfl, h⟩
  | t :: ts, c, h => by
    have h : (tkc ns ms t).bind (fun a => (tcs ns ms ts).map fun b => a + b) = some c := h
    cases h1 : tkc ns ms t with
    | none => rw [h1] at h; exact nomatch h
    | some a =>
      cases h2 : tcs ns ms ts with
      | none => rw [h1, h2] at h; exact nomatch h
      | some b =>
        rw [h1, h2] at h
        have h : some (a + b) = some c := h
        injection h with h
        obtain ⟨ks, h3, h4⟩ := tcs_sum ns ms h2
        refine ⟨a :: ks, ?_, ?_⟩
        · rw [List.map_cons, h3, h1]
          rfl
        · rw [List.sum_cons, h4, h]
theorem flat_oV (os : List (Option Int)) : (os.map oV).all flatV = true := by
  rw [List.all_eq_true]
  intro x hx
  obtain ⟨o, _, rfl⟩ := List.mem_map.mp hx
  cases o <;> rfl
def sp_cost (K : PySem.W.Frag) : Sp := fun vs H Q _ => ∃ (G : Hp) (W : Wl) (v : V) (a b : Addr) (ts : List Tkn) (ns ms : List Int), Wd G W H ∧ vs = [v, .ref a, .ref b] ∧ rowV G v ts ∧ (∀ t ∈ ts, TokB t.d) ∧ ts.length ≤ 100 ∧ SqL K G a (ns.map V.int) ∧ SqL K G b (ms.map V.int) ∧
  ∀ G' H', Same G G' → Wd G' W H' → Q (oV (tcs ns ms ts)) H'
theorem ok__law_cost (T : Txt K mg A) : FnOk P w K mg base CX0 3 A.f__law_cost A.fd__law_cost sP__law_cost (sp_cost K) := by
  refine okD T.F__law_cost sc__law_cost (fun vs H Q E h => ?_) (fun cdv Ar outer s H vs Q E hr h => ⟨_, (pss_cons (ps_setLc (i := 3) (own := [("_law_token", 4)]) (g := gName 4) (tt := tYes) rfl sc__law_cost.nd rfl rfl (sw_true rfl rfl rfl (by decide +kernel)) (pi_list (pv 0)) (blkOk_by (own := [("_law_token", 4)]) (N := sN__law_cost) (sc := defScope s__law_cost) (by decide +kernel)) (fun _ _ _ _ _ => pg_name (i := 4) sc__law_cost.nd rfl (Or.inl rfl)) (fun _ _ _ _ _ => pts_nil) (fun _ _ _ _ _ => (pe_call (ok__law_token_bits T) (hr.mono (by decide)) rfl T.m__law_token_bits T.F__law_token_bits.kp T.b__law_token_bits .nil pass0 (pa_cons (pv 4) (pa_cons (pv 1) (pa_cons (pv 2) pa_nil))))))
      (pss_one (ps_ret (pe_ifExp (pt_cmpR op_in_seq (pe_non) (pv 3) rfl) (pe_non) (pe_callB (cr_sum rfl) (by rfl) T.z_sum (by decide +kernel) (pa_cons (pv 3) pa_nil)))))), ?_⟩)
  · obtain ⟨G, W, v, a, b, ts, ns, ms, _, rfl, _⟩ := h
    rfl
  · obtain ⟨G, W, v, a, b, ts, ns, ms, w, rfl, ⟨r, ys, rfl, hr, hR⟩, hT, hl, ha, hb, k⟩ := h
    walk_at "zk"
    refine lc_l (SqL.of hr) (fun i acc _ => acc = (ts.take i).map fun t => oV (tkc ns ms t)) w rfl (fun _ => rfl) ?_ ?_
    · rintro i y D G1 H1 acc hy e1 w1 rfl
      obtain ⟨t, ht, hty⟩ := (hR.upK e1).atV hy
      have hil := (List.getElem?_eq_some_iff.mp ht).1
      walk_at "zk"
      refine ⟨G1, _, y, t.d, a, b, ns, ms, w1, rfl, hty.dpT, hT t (List.mem_of_getElem? ht), e1.seq ha, e1.seq hb, fun G2 H2 e2 w2 => ?_⟩
      rw [tbV_tkc]
      refine lc_put w2 (e1.trans e2) (by rw [List.length_map, List.length_take]; omega) ?_
      rw [List.take_add_one, ht, List.map_append]
      rfl
    rintro D G1 H1 acc e1 w1 rfl
    rw [hR.1, List.take_length] at w1
    obtain ⟨o, rfl, ho, e2, w2⟩ := w1.freeze1
    have k2 := k _ H1 (e1.trans e2) w2
    walk_at "zk"
    walk_at "zi"
    walk_at "zk"
    refine ⟨D, _, rfl, .inl (SqL.of ho), rfl, ?_, ?_⟩
    · have := flat_oV (ts.map (tkc ns ms))
      rw [List.map_map] at this
      exact this
    cases hc : tcs ns ms ts with
    | none =>
      rw [hc] at k2
      have hi := (tcs_in ns ms ts).mpr hc
      dsimp only
      rw [if_neg (by decide), hi]
      walk_at "zk"
      exact k2
    | some c =>
      rw [hc] at k2
      have hi : inV V.non (ts.map fun t => oV (tkc ns ms t)) = false := by
        cases h : inV V.non (ts.map fun t => oV (tkc ns ms t)) with
        | false => rfl
        | true =>
          rw [(tcs_in ns ms ts).mp h] at hc
          exact nomatch hc
      obtain ⟨ks, hk1, hk2⟩ := tcs_sum ns ms hc
      dsimp only
      rw [if_neg (by decide), hi]
      walk_at "zk"
      refine ⟨D, ks, rfl, SqL.of (by rw [← hk1]; exact ho), ?_⟩
      rw [hk2]
      exact k2

/-! ### all rows of tokens -/
theorem Eq2_more {row : List Int} : ∀ (s p o : Nat), o ≤ p → s ≤ Eq2 row p o → p + s < row.length → (row.getD (p + s) 0 = row.getD (o + s) 0 ↔ s + 1 ≤ Eq2 row p o)
  | 0, p, o, h, _, hl => by
    rw [Eq2_step (by omega) (by omega)]
    show row.getD p 0 = row.getD o 0 ↔ _
    split
    · rename_i he
      exact ⟨fun _ => by omega, fun _ => he⟩
    · rename_i he
      exact ⟨fun h => absurd h he, fun h => by omega⟩
  | s + 1, p, o, h, hs, hl => by
    rw [Eq2_step (by omega) (by omega)] at hs ⊢
    split at hs
    · rename_i he
      rw [if_pos he]
      have ih := Eq2_more (row := row) s (p + 1) (o + 1) (by omega) (by omega) (by omega)
      rw [show p + (s + 1) = p + 1 + s by omega, show o + (s + 1) = o + 1 + s by omega, ih]
      omega
    · omega
def Cov (i s : Nat) : Tkn → Prop
  | .lit _ => True
  | .mat l m => m ≤ i ∨ m = i + 1 ∧ l ≤ s
def RI (row : List Int) (p : Nat) (rs : List (List Tkn)) (i s : Nat) : Prop := (∀ ts ∈ rs, Tkp row p ts row.length) ∧ ∀ t ts, Tkp row p (t :: ts) row.length → Cov i s t → t :: ts ∈ rs
theorem RI.next {row : List Int} {p : Nat} {rs : List (List Tkn)} {i s : Nat} (h : RI row p rs i s) (hs : Eq2 row p (p - (i + 1)) ≤ s) : RI row p rs (i + 1) 0 := by
  refine ⟨h.1, fun t ts ht hc => h.2 t ts ht ?_⟩
  cases t with
  | lit b => exact trivial
  | mat l m =>
    have hc : m ≤ i + 1 ∨ m = i + 1 + 1 ∧ l ≤ 0 := hc
    obtain ⟨h1, h2, h3, h4⟩ := ht.1
    show m ≤ i ∨ m = i + 1 ∧ l ≤ s
    by_cases hm : m = i + 1
    · subst hm
      exact .inr ⟨rfl, by omega⟩
    · exact .inl (by omega)
theorem RI.few {row : List Int} {p : Nat} {rs : List (List Tkn)} {i s : Nat} (h : RI row p rs i s) (hs : s + 1 ≤ 2) : RI row p rs i (s + 1) := by
  refine ⟨h.1, fun t ts ht hc => h.2 t ts ht ?_⟩
  cases t with
  | lit b => exact trivial
  | mat l m =>
    have hc : m ≤ i ∨ m = i + 1 ∧ l ≤ s + 1 := hc
    obtain ⟨h1, _⟩ := ht.1
    show m ≤ i ∨ m = i + 1 ∧ l ≤ s
    omega
theorem RI.more {row : List Int} {p : Nat} {rs qs : List (List Tkn)} {i s : Nat} (h : RI row p rs i s) (hs : s + 1 ≤ Eq2 row p (p - (i + 1))) (h3 : 3 ≤ s + 1) (hi : i < p) (hq : ∀ ts ∈ qs, Tkp row (p + (s + 1)) ts row.length) (hq2 : ∀ ts, Tkp row (p + (s + 1)) ts row.length → ts ∈ qs) :
    RI row p (rs ++ qs.map (Tkn.mat (s + 1) (i + 1) :: ·)) i (s + 1) := by
  refine ⟨fun ts hts => ?_, fun t ts ht hc => ?_⟩
  · rcases List.mem_append.mp hts with hts | hts
    · exact h.1 ts hts
    · obtain ⟨us, hus, rfl⟩ := List.mem_map.mp hts
      exact ⟨⟨h3, by omega, by omega, hs⟩, hq us hus⟩
  · by_cases he : t = .mat (s + 1) (i + 1)
    · subst he
      exact List.mem_append_right _ (List.mem_map.mpr ⟨ts, hq2 ts ht.2, rfl⟩)
    · refine List.mem_append_left _ (h.2 t ts ht ?_)
      cases t with
      | lit b => exact trivial
      | mat l m =>
        have hc : m ≤ i ∨ m = i + 1 ∧ l ≤ s + 1 := hc
        show m ≤ i ∨ m = i + 1 ∧ l ≤ s
        rcases hc with hc | ⟨rfl, hc⟩
        · exact .inl hc
        · refine .inr ⟨rfl, ?_⟩
          by_cases hl : l = s + 1
          · subst hl
            exact absurd rfl he
          · omega
theorem rowsB : ∀ kk, kk < 10 → 1 ≤ kk → 4 ^ (kk - 1) + ((9 - kk) * (kk - 2)) * 4 ^ (kk - 3) ≤ 4 ^ kk := by decide
def sp_rows (K : PySem.W.Frag) (N : Nat) : Sp := fun vs H Q _ => ∃ (G : Hp) (W : Wl) (a : Addr) (row : List Int) (p : Nat), Wd G W H ∧ vs = [.ref a, .int (p : Int)] ∧ HL G a row ∧ p ≤ row.length ∧ row.length ≤ 9 ∧ row.length - p < N ∧
  ∀ q xs rs G' H', Same G G' → Wd G' W H' → G' q = some (.lst xs) → Rl rowV G' xs rs → rs.length ≤ 4 ^ (row.length - p) → (∀ ts ∈ rs, Tkp row p ts row.length) → (∀ ts, Tkp row p ts row.length → ts ∈ rs) → Q (.ref q) H'
theorem step_rows (T : Txt K mg A) (N : Nat) (F : FnOk P w K mg base CX0 (1 + N) A.f__law_all_rows A.fd__law_all_rows sP__law_all_rows (sp_rows K N)) : FnOk P w K mg base CX0 (1 + N + 1) A.f__law_all_rows A.fd__law_all_rows sP__law_all_rows (sp_rows K (N + 1)) := by
  refine okD T.F__law_all_rows sc__law_all_rows (fun vs H Q E h => ?_) (fun cdv Ar outer s H vs Q E hr h => ⟨_, (pss_cons (ps_if (pt_cmpR op_eq (pv 1) (pe_callB call_len_seq (by rfl) T.z_len PySem.boot_len (pa_cons (pv 0) pa_nil)) (nomark _)) (pss_one (ps_ret (pe_lst (pa_cons (pe_lst pa_nil) pa_nil)))) pss_nil)
      (pss_cons (ps_setLc (i := 2) (own := [("_law_rest", 3)]) (g := gName 3) (tt := tYes) rfl sc__law_all_rows.nd rfl rfl (sw_true rfl rfl rfl (by decide +kernel)) (pi_list (pe_call F hr rfl T.m__law_all_rows T.F__law_all_rows.kp T.b__law_all_rows .nil pass0 (pa_cons (pv 0) (pa_cons (pe_op op_add (pv 1) (pe_int)) pa_nil)))) (blkOk_by (own := [("_law_rest", 3)]) (N := sN__law_all_rows) (sc := defScope s__law_all_rows) (by decide +kernel)) (fun _ _ _ _ _ => pg_name (i := 3) sc__law_all_rows.nd rfl (Or.inl rfl)) (fun _ _ _ _ _ => pts_nil) (fun _ _ _ _ _ => (pe_op op_cat (pe_lst (pa_cons (pe_ix (show IxR _ (rIxL K) from ix_list) (pv 0) (pv 1) (fun _ _ => rfl)) pa_nil)) (pv 3))))
      (pss_cons (ps_for PassesOwn.never rfl (pi_range2 (by rfl) T.z_range (pa_cons (pe_int) (pa_cons (pe_op op_add (pv 1) (pe_int)) pa_nil))) (pg_name (i := 4) sc__law_all_rows.nd rfl (Or.inr rfl)) (pss_cons (ps_set (i := 5) sc__law_all_rows.nd rfl (Or.inr rfl) (pe_int))
      (pss_one (ps_while PassesOwn.never (PW.pt (pw_and (pt_cmpR op_lt (pe_op op_add (pv 1) (pv 5)) (pe_callB call_len_seq (by rfl) T.z_len PySem.boot_len (pa_cons (pv 0) pa_nil)) (nomark _)) (pw_and1 (pt_cmpR op_eq (pe_ix ix_list (pv 0) (pe_op op_add (pv 1) (pv 5)) (fun _ _ => rfl)) (pe_ix ix_list (pv 0) (pe_op op_sub (pe_op op_add (pv 1) (pv 5)) (pv 4)) (fun _ _ => rfl)) (nomark _))))) (pss_cons (ps_set (i := 5) sc__law_all_rows.nd rfl (Or.inr rfl) (pe_op op_add (pv 5) (pe_int)))
      (pss_one (ps_if (pt_cmpR op_gt (pv 5) (pe_int) (nomark _)) (pss_one (ps_expr (pe_bm PySem.F.plainAttrs_list PySem.F.slot_list_extend PySem.F.type_list_extend mt_extend (pv 2) (pa_cons (pe_lc (own := [("_law_rest", 3)]) (g := gName 3) (tt := tYes) rfl sc__law_all_rows.nd (pi_list (pe_call F hr rfl T.m__law_all_rows T.F__law_all_rows.kp T.b__law_all_rows .nil pass0 (pa_cons (pv 0) (pa_cons (pe_op op_add (pv 1) (pv 5)) pa_nil)))) (blkOk_by (own := [("_law_rest", 3)]) (N := sN__law_all_rows) (sc := defScope s__law_all_rows) (by decide +kernel)) (fun _ _ _ _ _ => pg_name (i := 3) sc__law_all_rows.nd rfl (Or.inl rfl)) (fun _ _ _ _ _ => pts_nil) (fun _ _ _ _ _ => (pe_op op_cat (pe_lst (pa_cons (pe_tup (pa_cons (pv 5) (pa_cons (pv 4) pa_nil))) pa_nil)) (pv 3)))) pa_nil)))) pss_nil)))))))
      (pss_one (ps_ret (pv 2)))))), ?_⟩)
  · obtain ⟨G, W, a, row, p, _, rfl, _⟩ := h
    rfl
  · obtain ⟨G, W, a, row, p, w, rfl, ha, hp, hl, hN, k⟩ := h
    walk_at "zk"
    refine ⟨a, _, rfl, .inl (seq_up w ha.seq), ?_⟩
    walk_at "zk"
    rw [List.length_map]
    by_cases hpn : p = row.length
    · rw [decide_eq_true (show V.int (p : Int) = V.int (row.length : Int) by rw [hpn])]
      walk_at "zk"
      refine ⟨small (by simp), NewO.good w fun p1 G1 H1 e1 w1 h1 => ?_⟩
      walk_at "zk"
      refine ⟨small (by simp), NewO.good w1 fun p2 G2 H2 e2 w2 h2 => ?_⟩
      refine k p2 _ [[]] G2 H2 (e1.trans e2) w2 h2 (Rl.nil.snoc ⟨p1, [], rfl, e2 _ _ h1, Rl.nil⟩) (by rw [hpn, Nat.sub_self]; decide) (fun ts hts => ?_) fun ts hts => ?_
      · obtain rfl := List.mem_singleton.mp hts
        exact hpn
      · have := hts.len
        cases ts with
        | nil => exact List.mem_cons_self
        | cons t ts =>
          rw [List.length_cons] at this
          omega
    · rw [decide_eq_false (show ¬ V.int (p : Int) = V.int (row.length : Int) from fun h => hpn (by injection h with h; omega))]
      have hlt : p < row.length := by omega
      have hrow : row[p]? = some (row.getD p 0) := by
        rw [List.getD_eq_getElem?_getD, List.getElem?_eq_getElem hlt]
        rfl
      generalize hbv : row.getD p 0 = b at hrow
      have hat : atI (row.map V.int) (p : Int) = some (.int b) := atI_nat (by rw [List.getElem?_map, hrow]; rfl)
      obtain ⟨kk, hkk⟩ : ∃ kk, kk = row.length - p := ⟨_, rfl⟩
      have hk9 : kk < 10 := by omega
      have hrb := rowsB kk hk9 (by omega)
      have h49 : 4 ^ kk ≤ 262144 := Nat.le_trans (Nat.pow_le_pow_right (by decide) (show kk ≤ 9 by omega)) (by decide)
      have hpk : p * (kk - 2) ≤ (9 - kk) * (kk - 2) := Nat.mul_le_mul_right _ (by omega)
      have hpk2 : (p * (kk - 2)) * 4 ^ (kk - 3) ≤ ((9 - kk) * (kk - 2)) * 4 ^ (kk - 3) := Nat.mul_le_mul_right _ hpk
      walk_at "zk"
      refine ⟨G, W, a, row, p + 1, w, by rw [Int.natCast_add]; rfl, ha, by omega, hl, by omega, fun p3 xs0 rs0 G3 H3 e3 w3 h3 hR hrl hS hC => ?_⟩
      rw [show row.length - (p + 1) = kk - 1 by omega] at hrl
      have h4k : 4 ^ (kk - 1) ≤ 262144 := Nat.le_trans (Nat.pow_le_pow_right (by decide) (show kk - 1 ≤ 9 by omega)) (by decide)
      refine lc_l (SqL.of h3) (fun j acc G' => Rl rowV G' acc ((rs0.take j).map (Tkn.lit b :: ·))) w3 Rl.nil (fun _ => rfl) ?_ ?_
      · rintro j v D G4 H4 acc hv e4 w4 hacc
        obtain ⟨ts, hts, r, ys, rfl, hr', hR2⟩ := (hR.upR e4).atV hv
        have hlen := (hS ts (List.mem_of_getElem? hts)).len
        have hyl := hR2.1
        have hal : acc.length ≤ rs0.length := by
          rw [hacc.1, List.length_map, List.length_take]
          omega
        walk_at "zk"
        refine st_ixL (seq_up w4 (ha.up (e3.trans e4)).seq) hat ?_
        walk_at "zk"
        refine ⟨small (by simp), NewO.good w4 fun p5 G5 H5 e5 w5 h5 => ?_⟩
        walk_at "zk"
        refine st_catV (w5.at h5) (w5.at (e5 _ _ hr')) (by rw [List.length_singleton]; omega) w5 fun p6 G6 H6 e6 w6 h6 => ?_
        refine lc_put w6 (e4.trans (e5.trans e6)) (by omega) ?_
        rw [List.take_add_one, hts, List.map_append]
        refine (hacc.upR (e5.trans e6)).snoc ⟨p6, _, rfl, h6, ?_⟩
        exact Rl.app (xs := [.int b]) (bs := [Tkn.lit b]) ⟨rfl, fun z hz => by rw [List.mem_singleton.mp hz]; exact rfl⟩ (hR2.upK (e5.trans e6))
      rintro D G4 H4 acc e4 w4 hacc
      rw [hR.1, List.take_length] at hacc
      have hRI : RI row p (rs0.map (Tkn.lit b :: ·)) 0 0 := by
        refine ⟨fun ts hts => ?_, fun t ts ht hc => ?_⟩
        · obtain ⟨us, hus, rfl⟩ := List.mem_map.mp hts
          exact ⟨hrow, hS us hus⟩
        · cases t with
          | lit b' =>
            have h1 : row[p]? = some b' := ht.1
            rw [hrow] at h1
            injection h1 with h1
            subst h1
            exact List.mem_map.mpr ⟨ts, hC ts ht.2, rfl⟩
          | mat l m =>
            obtain ⟨h1, h2, h3, h4⟩ := ht.1
            have hc : m ≤ 0 ∨ m = 0 + 1 ∧ l ≤ 0 := hc
            omega
      walk_at "zk"
      refine for_r2 (by omega) (fun i σ G' W' => ∃ xs rs x3 x4 x5, W' = (D, Is (.lst xs)) :: W ∧ Rl rowV G' xs rs ∧ rs.length ≤ 4 ^ (kk - 1) + (i * (kk - 2)) * 4 ^ (kk - 3) ∧ RI row p rs i 0 ∧ σ = [some (.ref a), some (.int (p : Int)), some (.ref D), x3, x4, x5]) w4
        ⟨acc, _, _, _, _, rfl, hacc, by rw [List.length_map, Nat.zero_mul, Nat.zero_mul]; exact hrl, hRI, rfl⟩ ?_ ?_
      · rintro i σ' G5 W5 H5 hi e5 w5 ⟨xs, rs, x3, x4, x5, rfl, hRR, hrs, hI, rfl⟩
        have hip : i < p := by omega
        walk_at "zk"
        refine while_m (fun z σ G' W' => ∃ (s : Nat) (xs : List V) (rs : List (List Tkn)), W' = (D, Is (.lst xs)) :: W ∧ Rl rowV G' xs rs ∧ rs.length ≤ 4 ^ (kk - 1) + (i * (kk - 2) + (s - 2)) * 4 ^ (kk - 3) ∧ RI row p rs i s ∧ s ≤ Eq2 row p (p - (i + 1)) ∧ z = row.length - s ∧
          σ = [some (.ref a), some (.int (p : Int)), some (.ref D), x3, some (.int (1 + (i : Int))), some (.int (s : Int))]) row.length w5 ⟨0, xs, rs, rfl, hRR, hrs, hI, Nat.zero_le _, rfl, rfl⟩ ?_
        rintro z σ' G6 W6 H6 e6 w6 ⟨sz, xs, rs, rfl, hRR, hrs, hI, hsz, rfl, rfl⟩
        have hel := Eq2_le row p (p - (i + 1))
        have a6 := ha.up (e3.trans (e4.trans (e5.trans e6)))
        have hend : Eq2 row p (p - (i + 1)) ≤ sz → rs.length ≤ 4 ^ (kk - 1) + ((i + 1) * (kk - 2)) * 4 ^ (kk - 3) ∧ RI row p rs (i + 1) 0 := fun h => by
          refine ⟨Nat.le_trans hrs (Nat.add_le_add_left (Nat.mul_le_mul_right _ ?_) _), hI.next h⟩
          rw [Nat.succ_mul]
          omega
        walk_at "zk"
        refine ⟨a, _, rfl, .inl (seq_up w6 a6.seq), ?_⟩
        walk_at "zk"
        rw [List.length_map]
        by_cases hc1 : p + sz < row.length
        · rw [decide_eq_true (show (p : Int) + (sz : Int) < (row.length : Int) by omega)]
          have hmore := Eq2_more sz p (p - (i + 1)) (by omega) hsz hc1
          have i1 : (p : Int) + (sz : Int) = ((p + sz : Nat) : Int) := by omega
          have i2 : (p : Int) + (sz : Int) - (1 + (i : Int)) = ((p - (i + 1) + sz : Nat) : Int) := by omega
          walk_at "zk"
          refine st_ixL (seq_up w6 a6.seq) (by rw [i1]; exact gN hc1) ?_
          walk_at "zk"
          refine st_ixL (seq_up w6 a6.seq) (by rw [i2]; exact gN (by omega)) ?_
          walk_at "zk"
          by_cases hc2 : row.getD (p + sz) 0 = row.getD (p - (i + 1) + sz) 0
          · have hsz1 := hmore.mp hc2
            rw [decide_eq_true (show V.int (row.getD (p + sz) 0) = V.int (row.getD (p - (i + 1) + sz) 0) by rw [hc2])]
            walk_at "zk"
            refine wt_go ?_
            walk_at "zk"
            by_cases hc3 : 3 ≤ sz + 1
            · rw [decide_eq_true (show (2 : Int) < (sz : Int) + 1 by omega)]
              walk_at "zk"
              refine ⟨tyL' (Wd.is1 w6), ?_⟩
              walk_at "zk"
              refine ⟨G6, _, a, row, p + (sz + 1), w6, by rw [Int.natCast_add, Int.natCast_add]; rfl, a6, by omega, hl, by omega, fun p7 xs2 qs G7 H7 e7 w7 h7 hR7 hql hqS hqC => ?_⟩
              have hql2 : qs.length ≤ 4 ^ (kk - 3) := Nat.le_trans hql (Nat.pow_le_pow_right (by decide) (by omega))
              have hU : 4 ^ (kk - 3) ≤ 262144 := Nat.le_trans (Nat.pow_le_pow_right (by decide) (show kk - 3 ≤ 9 by omega)) (by decide)
              refine lc_l (SqL.of h7) (fun j acc G' => Rl rowV G' acc ((qs.take j).map (Tkn.mat (sz + 1) (i + 1) :: ·))) w7 Rl.nil (fun _ => rfl) ?_ ?_
              · rintro j v D2 G8 H8 acc hv e8 w8 hacc
                obtain ⟨ts, hts, r, ys, rfl, hr', hR2⟩ := (hR7.upR e8).atV hv
                have hlen := (hqS ts (List.mem_of_getElem? hts)).len
                have hyl := hR2.1
                have hal : acc.length ≤ qs.length := by
                  rw [hacc.1, List.length_map, List.length_take]
                  omega
                walk_at "zk"
                refine ⟨small (by simp), NewO.good w8 fun p9 G9 H9 e9 w9 h9 => ?_⟩
                walk_at "zk"
                refine ⟨small (by simp), NewO.good w9 fun p10 G10 H10 e10 w10 h10 => ?_⟩
                walk_at "zk"
                refine st_catV (w10.at h10) (w10.at ((e9.trans e10) _ _ hr')) (by rw [List.length_singleton]; omega) w10 fun p11 G11 H11 e11 w11 h11 => ?_
                have e911 := (e9.trans e10).trans e11
                refine lc_put w11 (e8.trans e911) (by omega) ?_
                rw [List.take_add_one, hts, List.map_append]
                refine (hacc.upR e911).snoc ⟨p11, _, rfl, h11, ?_⟩
                refine Rl.app (xs := [.ref p9]) (bs := [Tkn.mat (sz + 1) (i + 1)]) ⟨rfl, fun z hz => ?_⟩ (hR2.upK e911)
                rw [List.mem_singleton.mp hz]
                refine ⟨p9, rfl, ?_⟩
                rw [(e10.trans e11) _ _ h9]
                show some (HO.tup [V.int ((sz : Int) + 1), V.int (1 + (i : Int))]) = some (HO.tup [V.int ((sz + 1 : Nat) : Int), V.int ((i + 1 : Nat) : Int)])
                rw [show ((sz + 1 : Nat) : Int) = (sz : Int) + 1 by omega, show ((i + 1 : Nat) : Int) = 1 + (i : Int) by omega]
              rintro D2 G8 H8 acc e8 w8 hacc
              rw [hR7.1, List.take_length] at hacc
              obtain ⟨o, rfl, ho, e9, w9⟩ := w8.freeze1
              have hD : (upd G8 D2 (.lst acc)) D2 = some (.lst acc) := upd_same
              have hacc := hacc.upR e9
              generalize upd G8 D2 (.lst acc) = G9 at e9 w9 hD hacc
              have hal : acc.length = qs.length := by rw [hacc.1, List.length_map]
              have hxl := hRR.1
              have hm1 : (i * (kk - 2) + (sz - 2)) * 4 ^ (kk - 3) ≤ (p * (kk - 2)) * 4 ^ (kk - 3) := Nat.mul_le_mul_right _ (by
                have h1 : (i + 1) * (kk - 2) ≤ p * (kk - 2) := Nat.mul_le_mul_right _ hip
                rw [Nat.succ_mul] at h1
                omega)
              have hz2 : xs.length + acc.length ≤ 1000000 := by omega
              refine ⟨D, D2, xs, acc, rfl, rfl, Wd.is1 w9, w9.at hD, small hz2, ?_⟩
              have w10 : Wd G9 ((D, Is (.lst (xs ++ acc))) :: W) (upd H8 D (.lst (xs ++ acc))) := Wd.put (W1 := []) w9 rfl
              have e79 := e7.trans (e8.trans e9)
              refine st_wbt (m2 := row.length - (sz + 1)) (by omega) (e6.trans e79) w10 ⟨sz + 1, xs ++ acc, _, rfl, (hRR.upR e79).app hacc, ?_, hI.more hsz1 hc3 hip hqS hqC, hsz1, rfl, rfl⟩
              rw [List.length_append, List.length_map, show sz + 1 - 2 = (sz - 2) + 1 by omega, ← Nat.add_assoc, Nat.succ_mul]
              omega
            · rw [decide_eq_false (show ¬ (2 : Int) < (sz : Int) + 1 by omega)]
              walk_at "zk"
              refine st_wbt (m2 := row.length - (sz + 1)) (by omega) e6 w6 ⟨sz + 1, xs, rs, rfl, hRR, ?_, hI.few (by omega), hsz1, rfl, rfl⟩
              rw [show sz + 1 - 2 = sz - 2 by omega]
              exact hrs
          · rw [decide_eq_false (show ¬ V.int (row.getD (p + sz) 0) = V.int (row.getD (p - (i + 1) + sz) 0) from fun h => hc2 (by injection h))]
            obtain ⟨h1, h2⟩ := hend (by
              have := mt hmore.mpr hc2
              omega)
            walk_at "zk"
            exact st_btw (e5.trans e6) w6 ⟨xs, rs, _, _, _, rfl, hRR, h1, h2, rfl⟩
        · rw [decide_eq_false (show ¬ (p : Int) + (sz : Int) < (row.length : Int) by omega)]
          obtain ⟨h1, h2⟩ := hend (by omega)
          walk_at "zk"
          exact st_btw (e5.trans e6) w6 ⟨xs, rs, _, _, _, rfl, hRR, h1, h2, rfl⟩
      · rintro σ' G5 W5 H5 e5 w5 ⟨xs, rs, x3, x4, x5, rfl, hRR, hrs, hI, rfl⟩
        rw [show ((p : Int) + 1 - 1).toNat = p by omega] at hrs hI
        obtain ⟨o, rfl, ho, e6, w6⟩ := w5.freeze1
        walk_at "zk"
        refine k D xs rs _ H5 (e3.trans (e4.trans (e5.trans e6))) w6 upd_same (hRR.upR e6) (by rw [← hkk]; omega) hI.1 fun ts hts => ?_
        cases ts with
        | nil =>
          exact absurd hts hpn
        | cons t ts =>
          refine hI.2 t ts hts ?_
          cases t with
          | lit b' => exact trivial
          | mat l m =>
            obtain ⟨h1, h2, h3, h4⟩ := hts.1
            exact .inl h3
theorem ok_rows (T : Txt K mg A) : ∀ n, FnOk P w K mg base CX0 (1 + n) A.f__law_all_rows A.fd__law_all_rows sP__law_all_rows (sp_rows K n)
  | 0 => ⟨fun vs H Q E h => by obtain ⟨_, _, _, _, _, _, _, _, _, _, h0, _⟩ := h; omega, fun A' outer s H args us vs Q E _ _ _ _ h => by obtain ⟨_, _, _, _, _, _, _, _, _, _, h0, _⟩ := h; omega⟩
  | n + 1 => step_rows T n (ok_rows T n)
theorem ok__law_all_rows (T : Txt K mg A) : FnOk P w K mg base CX0 11 A.f__law_all_rows A.fd__law_all_rows sP__law_all_rows (sp_rows K 10) := ok_rows T 10

/-! ### the law -/
theorem cut_lo2 {ns : List Int} {j : Int} (h : 0 ≤ j) : cutV (ns.map V.int) none (some j) = (ns.take j.toNat).map V.int := by
  unfold cutV
  simp only [HT.sIx, if_neg (show ¬ j < 0 by omega), List.length_map]
  rw [List.drop_zero, Nat.sub_zero, List.map_take]
  rcases Nat.le_total j.toNat ns.length with h | h
  · rw [Nat.min_eq_left h]
  · rw [Nat.min_eq_right h, List.take_of_length_le (by rw [List.length_map]; omega), List.take_of_length_le (by rw [List.length_map]; omega)]
def fixedL : List Int := List.replicate 144 8 ++ List.replicate 112 9 ++ List.replicate 24 7 ++ List.replicate 8 8
def five : List Int := List.replicate 32 5
theorem fixedB : Bd 61 fixedL := (show ∀ n ∈ fixedL, 0 ≤ n ∧ n ≤ 61 by decide +kernel)
theorem fiveB : Bd 61 five := (show ∀ n ∈ five, 0 ≤ n ∧ n ≤ 61 by decide +kernel)
theorem Byt.app {ns ms : List Int} (h : Byt ns) (h2 : Byt ms) : Byt (ns ++ ms) := fun n hn => (List.mem_append.mp hn).elim (h n) (h2 n)
theorem tokB_of {d : PyData} (h : TokB d) : tokB d = true := by
  rcases h with ⟨i, rfl, h0, h1⟩ | ⟨l, m, rfl, h1, h2, h3, h4⟩
  · show (decide (0 ≤ i) && decide (i ≤ 255)) = true
    rw [decide_eq_true h0, decide_eq_true h1]
    rfl
  · show ((decide (3 ≤ l) && decide (l ≤ 258)) && (decide (1 ≤ m) && decide (m ≤ 32768))) = true
    rw [decide_eq_true h1, decide_eq_true h2, decide_eq_true h3, decide_eq_true h4]
    rfl
theorem take_getD {row : List Int} {p j : Nat} (h : j < p) : (row.take p).getD j 0 = row.getD j 0 := by
  rw [List.getD_eq_getElem?_getD, List.getD_eq_getElem?_getD, List.getElem?_take, if_pos h]
theorem cp_take {row : List Int} {p l m : Nat} (h : TokAt row p (.mat l m)) : ∀ i, i ≤ l → cp m (row.take p) i = row.take (p + i)
  | 0, _ => rfl
  | i + 1, hi => by
    obtain ⟨h1, h2, h3, h4⟩ := id h
    have hle := Eq2_le row p (p - m)
    have ih := cp_take h i (by omega)
    have hm := (Eq2_more (row := row) i p (p - m) (by omega) (by omega) (by omega)).mpr (by omega)
    unfold cp
    rw [ih]
    have hlen : (row.take (p + i)).length = p + i := by
      rw [List.length_take]
      omega
    rw [hlen, take_getD (by omega), show p + i - m = p - m + i by omega, ← hm, show p + (i + 1) = (p + i) + 1 by omega, List.take_add_one, List.getD_eq_getElem?_getD, List.getElem?_eq_getElem (show p + i < row.length by omega)]
    rfl
theorem tk_take {row : List Int} {p : Nat} {t : Tkn} (h : TokAt row p t) : tkrow t.d (row.take p) = row.take (p + t.sp) ∧ farB t.d (row.take p) = false := by
  have hsp := h.sp
  have hlen : (row.take p).length = p := by
    rw [List.length_take]
    omega
  cases t with
  | lit b =>
    have hb : row[p]? = some b := h
    refine ⟨?_, rfl⟩
    show row.take p ++ [b] = row.take (p + 1)
    rw [List.take_add_one, hb]
    rfl
  | mat l m =>
    refine ⟨?_, ?_⟩
    · show cp ((m : Int)).toNat (row.take p) ((l : Int)).toNat = row.take (p + l)
      rw [Int.toNat_natCast, Int.toNat_natCast]
      exact cp_take h l (Nat.le_refl _)
    · obtain ⟨h1, h2, h3, h4⟩ := h
      show decide ((((row.take p).length : Nat) : Int) < (m : Int)) = false
      rw [hlen]
      exact decide_eq_false (by omega)
theorem tk_fold {row : List Int} : ∀ {ts : List Tkn} {p q : Nat}, Tkp row p ts q → q ≤ row.length → ((ts.map Tkn.d).foldl (fun r d => tkrow d r) (row.take p) = row.take q ∧
    ∀ i d, (ts.map Tkn.d)[i]? = some d → farB d (((ts.map Tkn.d).take i).foldl (fun r d => tkrow d r) (row.take p)) = false)
  | [], p, q, h, _ => by
    obtain rfl : p = q := h
    exact ⟨rfl, fun i d hd => nomatch hd⟩
  | t :: ts, p, q, h, hq => by
    obtain ⟨h1, h2⟩ := tk_take h.1
    obtain ⟨h3, h4⟩ := tk_fold h.2 hq
    rw [← h1] at h3 h4
    refine ⟨h3, fun i d hd => ?_⟩
    cases i with
    | zero =>
      injection hd with hd
      rw [← hd]
      exact h2
    | succ i => exact h4 i d hd
theorem Rl.dps {G : Hp} : ∀ {xs : List V} {ts : List Tkn}, Rl TokV G xs ts → DpAll K G xs (ts.map Tkn.d)
  | [], [], _ => .nil
  | [], _ :: _, h => nomatch h.1
  | _ :: _, [], h => nomatch h.1
  | x :: xs, t :: ts, h => .cons (h.2 (x, t) List.mem_cons_self).dpT (Rl.dps ⟨by have := h.1; rw [List.length_cons, List.length_cons] at this; omega, fun e he => h.2 e (List.mem_cons_of_mem _ he)⟩)
def sp_right (K : PySem.W.Frag) : Sp := fun vs H Q _ => ∃ (G : Hp) (W : Wl) (a b1 b2 : Addr) (row ns ms : List Int), Wd G W H ∧ vs = [.ref a, .ref b1, .ref b2] ∧ HL G a row ∧ Byt row ∧ row.length ≤ 9 ∧ HL G b1 ns ∧ HL G b2 ms ∧ ∀ G' H', Same G G' → Wd G' W H' → Q (.bl true) H'
theorem ok__law_right (T : Txt K mg A) : FnOk P w K mg base CX0 12 A.f__law_right A.fd__law_right sP__law_right (sp_right K) := by
  refine okD T.F__law_right sc__law_right (fun vs H Q E h => ?_) (fun cdv Ar outer s H vs Q E hr h => ⟨_, (pss_cons (ps_set (i := 3) sc__law_right.nd rfl (Or.inl rfl) (pe_call (ok_cheapest T) (hr.mono (by decide)) rfl T.m_cheapest T.F_cheapest.kp T.b_cheapest .nil pass0 (pa_cons (pv 0) (pa_cons (pv 1) (pa_cons (pv 2) pa_nil)))))
      (pss_cons (ps_setLc (i := 4) (own := [("_law_one_here", 5)]) (g := gName 5) (tt := tYes) rfl sc__law_right.nd rfl rfl (sw_true rfl rfl rfl (by decide +kernel)) (pi_list (pe_call (ok__law_all_rows T) (hr.mono (by decide)) rfl T.m__law_all_rows T.F__law_all_rows.kp T.b__law_all_rows .nil pass0 (pa_cons (pv 0) (pa_cons (pe_int) pa_nil)))) (blkOk_by (own := [("_law_one_here", 5)]) (N := sN__law_right) (sc := defScope s__law_right) (by decide +kernel)) (fun _ _ _ _ _ => pg_name (i := 5) sc__law_right.nd rfl (Or.inl rfl)) (fun _ _ _ _ _ => pts_nil) (fun _ _ _ _ _ => (pe_call (ok__law_cost T) (hr.mono (by decide)) rfl T.m__law_cost T.F__law_cost.kp T.b__law_cost .nil pass0 (pa_cons (pv 5) (pa_cons (pv 1) (pa_cons (pv 2) pa_nil))))))
      (pss_cons (ps_setLc (i := 6) (own := [("_law_cost_here", 7)]) (g := gName 7) rfl sc__law_right.nd rfl rfl (sw_true rfl rfl rfl (by decide +kernel)) (pi_list (pv 4)) (blkOk_by (own := [("_law_cost_here", 7)]) (N := sN__law_right) (sc := defScope s__law_right) (by decide +kernel)) (fun _ _ _ _ _ => pg_name (i := 7) sc__law_right.nd rfl (Or.inl rfl)) (fun _ _ _ _ _ => (pts_one (pt_cmpR op_notN (pv 7) (pe_non) (nomark _)))) (fun _ _ _ _ _ => (pv 7)))
      (pss_cons (ps_if (pt_cmpR op_isN (pv 3) (pe_non) (nomark _)) (pss_one (ps_ret (pe_cmpR (op_eqD hr.units) (pv 6) (pe_lst pa_nil) (nomark _)))) pss_nil)
      (pss_one (ps_ret ((pe_and (pe_cmpR (op_neD hr.units) (pv 6) (pe_lst pa_nil) (nomark _)) (pe_and (pe_cmpR op_eq (pe_ix ix_tup (pv 3) (pe_int) (fun _ _ => rfl)) (pe_callB (cr_min rfl) (by rfl) T.z_min (by decide +kernel) (pa_cons (pv 6) pa_nil)) (nomark _)) (pe_one (pe_cmpR (op_eqD hr.units) (pe_call (ok_expand T) (hr.mono (by decide)) rfl T.m_expand T.F_expand.kp T.b1_expand.choose_spec.2 T.b1_expand.choose_spec.1 pass0 (pa_cons (pe_ix ix_tup (pv 3) (pe_int) (fun _ _ => rfl)) pa_nil)) (pv 0) (nomark _)))))))))))), ?_⟩)
  · obtain ⟨G, W, a, b1, b2, row, ns, ms, _, rfl, _⟩ := h
    rfl
  · obtain ⟨G, W, a, b1, b2, row, ns, ms, w, rfl, ha, hB, hl, hb1, hb2, k⟩ := h
    walk_at "zk"
    refine ⟨G, W, a, b1, b2, row, ns, ms, w, rfl, ha.seq, hB, by omega, .inl hb1.seq, .inl hb2.seq, fun v G1 H1 e1 w1 hv => ?_⟩
    walk_at "zk"
    refine ⟨G1, W, a, row, 0, w1, rfl, ha.up e1, Nat.zero_le _, hl, by omega, fun q xs rs G2 H2 e2 w2 hq hR hrl hS hC => ?_⟩
    have hrl2 : rs.length ≤ 262144 := Nat.le_trans hrl (Nat.le_trans (Nat.pow_le_pow_right (by decide) (show row.length - 0 ≤ 9 by omega)) (by decide))
    refine lc_l (SqL.of hq) (fun i acc _ => acc = (rs.take i).map fun ts => oV (tcs ns ms ts)) w2 rfl (fun _ => rfl) ?_ ?_
    · rintro i y D G3 H3 acc hy e3 w3 rfl
      obtain ⟨ts, hts, hy2⟩ := (hR.upR e3).atV hy
      have hT := hS ts (List.mem_of_getElem? hts)
      have hlen := hT.len
      walk_at "zk"
      refine ⟨G3, _, y, b1, b2, ts, ns, ms, w3, rfl, hy2, hT.tokB hB (by omega), by omega, (hb1.up (e1.trans (e2.trans e3))).seq, (hb2.up (e1.trans (e2.trans e3))).seq, fun G4 H4 e4 w4 => ?_⟩
      refine lc_put w4 (e3.trans e4) (by rw [List.length_map, List.length_take]; omega) ?_
      rw [List.take_add_one, hts, List.map_append]
      rfl
    rintro c G3 H3 acc e3 w3 rfl
    rw [hR.1, List.take_length] at w3
    obtain ⟨o, rfl, ho, e4, w4⟩ := w3.freeze1
    have hc4 : (upd G3 c (.lst (rs.map fun ts => oV (tcs ns ms ts)))) c = some (.lst (rs.map fun ts => oV (tcs ns ms ts))) := upd_same
    generalize upd G3 c (HO.lst (rs.map fun ts => oV (tcs ns ms ts))) = G4 at e4 w4 hc4
    walk_at "zk"
    refine lc_l (SqL.of hc4) (fun i acc _ => acc = ((rs.take i).filterMap (tcs ns ms)).map V.int) w4 rfl (fun _ => rfl) ?_ ?_
    · rintro i y D G5 H5 acc hy e5 w5 rfl
      rw [List.getElem?_map] at hy
      obtain ⟨ts, hts, rfl⟩ := Option.map_eq_some_iff.mp hy
      have hfl : ((rs.take i).filterMap (tcs ns ms)).length ≤ i := by
        refine Nat.le_trans (List.length_filterMap_le _ _) ?_
        rw [List.length_take]
        omega
      have hil := (List.getElem?_eq_some_iff.mp hts).1
      walk_at "zk"
      refine ⟨rfl, ?_⟩
      cases hc : tcs ns ms ts with
      | none =>
        rw [show (!decide (oV none = V.non)) = false from rfl]
        walk_at "zk"
        refine lc_skip w5 e5 ?_
        rw [List.take_add_one, hts, List.filterMap_append]
        simp [hc]
      | some n =>
        rw [show (!decide (oV (some n) = V.non)) = true from rfl]
        walk_at "zk"
        refine lc_put w5 e5 (by rw [List.length_map]; omega) ?_
        rw [List.take_add_one, hts, List.filterMap_append]
        simp [hc, oV]
    rintro kn G5 H5 acc e5 w5 rfl
    rw [List.length_map, List.take_length] at w5
    obtain ⟨o, rfl, ho, e6, w6⟩ := w5.freeze1
    have hk6 : HL (upd G5 kn (.lst ((rs.filterMap (tcs ns ms)).map V.int))) kn (rs.filterMap (tcs ns ms)) := upd_same
    generalize upd G5 kn (HO.lst ((rs.filterMap (tcs ns ms)).map V.int)) = G6 at e6 w6 hk6
    have e26 := e2.trans (e3.trans (e4.trans (e5.trans e6)))
    clear w w1 w2 w3 w4 w5 ho
    walk_at "zk"
    refine ⟨rfl, ?_⟩
    rcases hv with ⟨rfl, hno⟩ | ⟨pt', qt, ys, ts, c0, rfl, hp1, hq1, hRt, hTt, hct, hmin⟩
    · rw [show decide (V.non = V.non) = true from rfl]
      walk_at "zk"
      refine ⟨small (by simp), NewO.good w6 fun p7 G7 H7 e7 w7 h7 => ?_⟩
      have hks : rs.filterMap (tcs ns ms) = [] := List.filterMap_eq_nil_iff.mpr fun ts hts => hno ts (hS ts hts)
      refine st_eqI (xs := rs.filterMap (tcs ns ms)) (ys := []) (seq_up w7 (hk6.up e7).seq) (SqL.of (w7.at h7)) ?_
      rw [decide_eq_true hks]
      exact k G7 H7 (e1.trans (e26.trans e7)) w7
    · rw [show decide (V.ref pt' = V.non) = false from rfl]
      have hmem : c0 ∈ rs.filterMap (tcs ns ms) := List.mem_filterMap.mpr ⟨ts, hC ts hTt, hct⟩
      have hne : rs.filterMap (tcs ns ms) ≠ [] := fun h => by
        rw [h] at hmem
        exact nomatch hmem
      have hall : ∀ y ∈ rs.filterMap (tcs ns ms), c0 ≤ y := fun y hy => by
        obtain ⟨us, hus, hc⟩ := List.mem_filterMap.mp hy
        exact hmin us y (hS us hus) hc
      walk_at "zk"
      refine ⟨small (by simp), NewO.good w6 fun p7 G7 H7 e7 w7 h7 => ?_⟩
      refine st_neI (xs := rs.filterMap (tcs ns ms)) (ys := []) (seq_up w7 (hk6.up e7).seq) (SqL.of (w7.at h7)) ?_
      rw [decide_eq_false hne]
      walk_at "zk"
      have e17 := e26.trans e7
      refine st_ixT (v := .int c0) (SqT.of (w7.at (e17 _ _ hp1))) rfl ?_
      walk_at "zk"
      refine ⟨kn, _, rfl, seq_up w7 (hk6.up e7).seq, List.length_pos_iff.mpr hne, fun m hm1 hm2 => ?_⟩
      obtain rfl : m = c0 := by
        have h1 := hm2 c0 hmem
        have h2 := hall m hm1
        omega
      walk_at "zk"
      rw [decide_eq_true rfl]
      walk_at "zk"
      refine st_ixT (v := .ref qt) (SqT.of (w7.at (e17 _ _ hp1))) rfl ?_
      walk_at "zk"
      have hlen := hTt.len
      have hyl := hRt.1
      obtain ⟨hf1, hf2⟩ := tk_fold hTt (Nat.le_refl _)
      have hB2 := hTt.tokB hB (by omega)
      refine ⟨G7, W, qt, A.d_expand_before, ys, ts.map Tkn.d, [], w7, rfl, SqL.of (e17 _ _ hq1), (hRt.upK e17).dps, fun d hd => ?_, .inr (T.dt_expand_before _), (fun _ h => nomatch h), by omega, by simp, fun i d hd => hf2 i d hd, fun r G8 H8 e8 w8 h8 => ?_⟩
      · obtain ⟨t, ht, rfl⟩ := List.mem_map.mp hd
        exact tokB_of (hB2 t ht)
      have hrow : (rowAt (ts.map Tkn.d) [] (ts.map Tkn.d).length).drop ([] : List Int).length = row := by
        unfold rowAt
        rw [List.take_length]
        have h9 : (ts.map Tkn.d).foldl (fun r d => tkrow d r) [] = row.take row.length := hf1
        rw [h9, List.take_length]
        rfl
      rw [hrow] at h8
      walk_at "zk"
      refine st_eqI (xs := row) (ys := row) (seq_up w8 h8.seq) (seq_up w8 (ha.up (e1.trans (e17.trans e8))).seq) ?_
      rw [decide_eq_true rfl]
      exact k G8 H8 (e1.trans (e17.trans e8)) w8
def spLaw (K : PySem.W.Frag) : Sp := fun vs H Q _ => ∃ (a : Addr) (ns : List Int), vs = [.ref a] ∧ SqL K H a (ns.map V.int) ∧ ns.length ≤ 63 ∧ ∀ H', Q (.bl true) H'
theorem ok_law (T : Txt K mg A) : FnG P w K mg base 13 A.f_law A.fd_law sP_law (spLaw K) := by
  refine okG T.F_law sc_law (fun vs H Q E h => ?_) (fun cdv Ar outer s H vs Q E hgd hr h => ⟨_, (pss_cons (ps_set (i := 1) sc_law.nd rfl (Or.inl rfl) (pe_op op_cat (pe_op op_cat (pe_op op_cat (pe_op op_rep (pe_lst (pa_cons (pe_int) pa_nil)) (pe_int)) (pe_op op_rep (pe_lst (pa_cons (pe_int) pa_nil)) (pe_int))) (pe_op op_rep (pe_lst (pa_cons (pe_int) pa_nil)) (pe_int))) (pe_op op_rep (pe_lst (pa_cons (pe_int) pa_nil)) (pe_int))))
      (pss_cons (ps_for PassesOwn.never rfl (pi_range1 (by rfl) T.z_range (pa_cons (pe_callB (call_max2 rfl) (by rfl) T.z_max (by decide +kernel) (pa_cons (pe_int) (pa_cons (pe_callB (call_min2 rfl) (by rfl) T.z_min (by decide +kernel) (pa_cons (pe_int) (pa_cons (pe_callB call_len_seq (by rfl) T.z_len PySem.boot_len (pa_cons (pv 0) pa_nil)) pa_nil))) pa_nil))) pa_nil)) (pg_name (i := 2) sc_law.nd rfl (Or.inl rfl)) (pss_cons (ps_set (i := 3) sc_law.nd rfl (Or.inr rfl) (pe_call (ok__law_bag T) (hr.mono (by decide)) rfl T.m__law_bag T.F__law_bag.kp T.b__law_bag .nil pass0 (pa_cons (pv 0) (pa_cons (pv 2) pa_nil))))
      (pss_one (ps_for PassesOwn.never rfl (pi_range1 (by rfl) T.z_range (pa_cons (pe_int) pa_nil)) (pg_name (i := 4) sc_law.nd rfl (Or.inl rfl)) (pss_cons (ps_asg (pe_lc (own := [("_law_turn", 4)]) (g := gName 4) (tt := tYes) rfl sc_law.nd (pi_range1 (by rfl) T.z_range (pa_cons (pe_op op_add (pe_int) (pe_call (ok__law_take T) (hr.mono (by decide)) rfl T.m__law_take T.F__law_take.kp T.b__law_take .nil pass0 (pa_cons (pv 3) (pa_cons (pe_int) pa_nil)))) pa_nil)) (blkOk_by (own := [("_law_turn", 4)]) (N := sN_law) (sc := defScope s_law) (by decide +kernel)) (fun _ _ _ _ _ => pg_name (i := 4) sc_law.nd rfl (Or.inl rfl)) (fun _ _ _ _ _ => pts_nil) (fun _ _ _ _ _ => (pe_call (ok__law_take T) (hr.mono (by decide)) rfl T.m__law_take T.F__law_take.kp T.b__law_take .nil pass0 (pa_cons (pv 3) (pa_cons (pe_int) pa_nil))))) (pg_name (i := 5) sc_law.nd rfl (Or.inr rfl)))
      (pss_cons (ps_setLc (i := 6) (own := [("_law_turn", 4)]) (g := gName 4) (tt := tYes) rfl sc_law.nd rfl rfl (sw_true rfl rfl rfl (by decide +kernel)) (pi_range1 (by rfl) T.z_range (pa_cons (pe_call (ok__law_take T) (hr.mono (by decide)) rfl T.m__law_take T.F__law_take.kp T.b__law_take .nil pass0 (pa_cons (pv 3) (pa_cons (pe_int) pa_nil))) pa_nil)) (blkOk_by (own := [("_law_turn", 4)]) (N := sN_law) (sc := defScope s_law) (by decide +kernel)) (fun _ _ _ _ _ => pg_name (i := 4) sc_law.nd rfl (Or.inl rfl)) (fun _ _ _ _ _ => pts_nil) (fun _ _ _ _ _ => (pe_call (ok__law_one T) (hr.mono (by decide)) rfl T.m__law_one T.F__law_one.kp T.b__law_one .nil pass0 (pa_cons (pv 3) (pa_cons (pv 5) pa_nil)))))
      (pss_cons (ps_asg (pe_call (ok__law_trees T) (hr.mono (by decide)) rfl T.m__law_trees T.F__law_trees.kp T.b__law_trees .nil pass0 (pa_cons (pv 3) (pa_cons (pe_op op_cat (pv 6) (pe_slice sl_list (pv 5) po_none (po_some (pe_int)))) pa_nil))) (pg_tup rfl (pgs_cons (pg_name (i := 7) sc_law.nd rfl (Or.inl rfl)) (pgs_cons (pg_name (i := 8) sc_law.nd rfl (Or.inl rfl)) pgs_nil))))
      (pss_one (ps_if (PW.pt (pw_or (pt_not (pt_val (pe_call (ok__law_right T) (hr.mono (by decide)) rfl T.m__law_right T.F__law_right.kp T.b__law_right .nil pass0 (pa_cons (pv 6) (pa_cons (pv 7) (pa_cons (pv 8) pa_nil)))))) (pw_or1 (pt_not (pt_val (pe_call (ok__law_right T) (hr.mono (by decide)) rfl T.m__law_right T.F__law_right.kp T.b__law_right .nil pass0 (pa_cons (pv 6) (pa_cons (pv 1) (pa_cons (pe_op op_rep (pe_lst (pa_cons (pe_int) pa_nil)) (pe_int)) pa_nil))))))))) (pss_one (ps_ret (pe_bl))) pss_nil)))))))))
      (pss_one (ps_ret (pe_bl))))), ?_⟩)
  · obtain ⟨a, ns, rfl, _⟩ := h
    rfl
  · obtain ⟨a, ns, rfl, hS, hn, k⟩ := h
    have w0 : Wd H [] H := ⟨Same.refl _, (fun _ h => nomatch h), List.nodup_nil⟩
    walk_at "zk"
    refine ⟨by decide, NewO.good w0 fun p1 G1 H1 e1 w1 h1 => ?_⟩
    walk_at "zk"
    refine st_repI (hUp w1 h1) (by decide) (by decide) w1 fun p2 G2 H2 e2 w2 h2 => ?_
    walk_at "zk"
    refine ⟨by decide, NewO.good w2 fun p3 G3 H3 e3 w3 h3 => ?_⟩
    walk_at "zk"
    refine st_repI (hUp w3 h3) (by decide) (by decide) w3 fun p4 G4 H4 e4 w4 h4 => ?_
    walk_at "zk"
    refine st_catI (hUp w4 (h2.up (e3.trans e4))) (hUp w4 h4) (by simp) w4 fun p5 G5 H5 e5 w5 h5 => ?_
    walk_at "zk"
    refine ⟨by decide, NewO.good w5 fun p6 G6 H6 e6 w6 h6 => ?_⟩
    walk_at "zk"
    refine st_repI (hUp w6 h6) (by decide) (by decide) w6 fun p7 G7 H7 e7 w7 h7 => ?_
    walk_at "zk"
    refine st_catI (hUp w7 (h5.up (e6.trans e7))) (hUp w7 h7) (by simp) w7 fun p8 G8 H8 e8 w8 h8 => ?_
    walk_at "zk"
    refine ⟨by decide, NewO.good w8 fun p9 G9 H9 e9 w9 h9 => ?_⟩
    walk_at "zk"
    refine st_repI (hUp w9 h9) (by decide) (by decide) w9 fun p10 G10 H10 e10 w10 h10 => ?_
    walk_at "zk"
    refine st_catI (hUp w10 (h8.up (e9.trans e10))) (hUp w10 h10) (by simp) w10 fun f G0 H0 e11 wf hf => ?_
    have hf : HL G0 f fixedL := by
      rw [show (144 : Int).toNat = 144 from rfl, show (112 : Int).toNat = 112 from rfl, show (24 : Int).toNat = 24 from rfl, show (8 : Int).toNat = 8 from rfl] at hf
      exact hf
    have e0 : Same H G0 := ((((((((((e1.trans e2).trans e3).trans e4).trans e5).trans e6).trans e7).trans e8).trans e9).trans e10)).trans e11
    clear h1 h2 h3 h4 h5 h6 h7 h8 h9 h10 w0 w1 w2 w3 w4 w5 w6 w7 w8 w9 w10 e1 e2 e3 e4 e5 e6 e7 e8 e9 e10 e11
    walk_at "zk"
    refine ⟨a, _, rfl, .inl (seq_up wf (e0.seq hS)), ?_⟩
    walk_at "zk"
    rw [List.length_map]
    refine ⟨_, _, rfl, ?_⟩
    walk_at "zk"
    refine ⟨_, _, rfl, ?_⟩
    walk_at "zk"
    refine for_r1 (by split <;> split <;> omega) (fun i σ G' W' => W' = [] ∧ ∃ x2 x3 x4 x5 x6 x7 x8, σ = [some (.ref a), some (.ref f), x2, x3, x4, x5, x6, x7, x8]) wf ⟨rfl, _, _, _, _, _, _, _, rfl⟩ ?_ ?_
    · rintro i σ' G1 W1 H1 hi e1 w1 ⟨rfl, x2, x3, x4, x5, x6, x7, x8, rfl⟩
      have hi6 : (i : Int) < 6 := by split at hi <;> split at hi <;> omega
      walk_at "zk"
      refine ⟨G1, [], a, ns, _, w1, rfl, (e0.trans e1).seq hS, by omega, by omega, fun b H2 w2 => ?_⟩
      have hm : (b, BagI) ∈ [(b, BagI)] := List.mem_cons_self
      walk_at "zk"
      refine for_r1 (by omega) (fun i2 σ G' W' => W' = [(b, BagI)] ∧ ∃ x4 x5 x6 x7 x8, σ = [some (.ref a), some (.ref f), some (.int i), some (.ref b), x4, x5, x6, x7, x8]) w2 ⟨rfl, _, _, _, _, _, rfl⟩ ?_ ?_
      · rintro i2 σ' G3 W3 H3 hi2 e3 w3 ⟨rfl, y4, y5, y6, y7, y8, rfl⟩
        walk_at "zk"
        refine ⟨G3, _, b, _, w3, hm, rfl, by decide, by decide, fun r4 H4 hr0 hr1 w4 => ?_⟩
        walk_at "zk"
        refine lc_r1 (by omega) (fun i acc _ => ∃ ps : List Int, acc = ps.map V.int ∧ Byt ps ∧ ps.length = i) w4 ⟨[], rfl, (fun _ h => nomatch h), rfl⟩ (fun _ => rfl) ?_ ?_
        · rintro j D G' H' acc hj e' w' ⟨ps, rfl, hps, hpl⟩
          walk_at "zk"
          refine ⟨G', _, b, _, w', by simp, rfl, by decide, by decide, fun r5 H5 hr50 hr51 w5 => ?_⟩
          refine lc_put w5 e' (by rw [List.length_map]; omega) ⟨ps ++ [r5], by simp, Byt.app hps fun n hn => by rw [List.mem_singleton.mp hn]; omega, by simp [hpl]⟩
        rintro pl G5 H5 acc e5 w5 ⟨ps, rfl, hps, hpl⟩
        obtain ⟨o, rfl, ho, e6, w6⟩ := w5.freeze1
        have hp6 : HL (upd G5 pl (.lst (ps.map V.int))) pl ps := upd_same
        generalize upd G5 pl (HO.lst (ps.map V.int)) = G6 at e6 w6 hp6
        walk_at "zk"
        refine ⟨G6, _, b, _, w6, hm, rfl, by decide, by decide, fun r7 H7 hr70 hr71 w7 => ?_⟩
        walk_at "zk"
        refine lc_r1 (by omega) (fun i acc _ => ∃ rs : List Int, acc = rs.map V.int ∧ Byt rs ∧ rs.length = i) w7 ⟨[], rfl, (fun _ h => nomatch h), rfl⟩ (fun _ => rfl) ?_ ?_
        · rintro j D G' H' acc hj e' w' ⟨rs, rfl, hrs, hrl⟩
          walk_at "zk"
          refine ⟨G', _, b, pl, _, w', by simp, rfl, (hp6.up e').seq, by rw [List.length_map]; omega, by rw [List.length_map]; omega, fun v H5 hv w5 => ?_⟩
          obtain ⟨n, hn, rfl⟩ := List.mem_map.mp hv
          refine lc_put w5 e' (by rw [List.length_map]; omega) ⟨rs ++ [n], by simp, Byt.app hrs fun m hm => by rw [List.mem_singleton.mp hm]; exact hps n hn, by simp [hrl]⟩
        rintro rw' G8 H8 acc e8 w8 ⟨row, rfl, hB, hrl⟩
        obtain ⟨o, rfl, ho2, e9, w9⟩ := w8.freeze1
        have hr9 : HL (upd G8 rw' (.lst (row.map V.int))) rw' row := upd_same
        generalize upd G8 rw' (HO.lst (row.map V.int)) = G9 at e9 w9 hr9
        have hp9 := hp6.up (e8.trans e9)
        clear ho ho2
        walk_at "zk"
        refine ⟨_, rfl, ?_⟩
        refine st_slL (seq_up w9 hp9.seq) w9 fun p10 G10 H10 e10 w10 h10 => ?_
        rw [cut_lo2 (by decide), show (1 : Int).toNat = 1 from rfl] at h10
        have ht1 : (ps.take 1).length = 1 := by
          rw [List.length_take]
          omega
        refine st_catI (hUp w10 (hr9.up e10)) (hUp w10 h10) (by omega) w10 fun u G11 H11 e11 w11 hu => ?_
        walk_at "zk"
        refine ⟨G11, _, b, u, row ++ ps.take 1, w11, hm, rfl, hu, Byt.app hB fun n hn => hps n (List.mem_of_mem_take hn), by rw [List.length_append]; omega, by rw [List.length_append]; omega, fun t p q gs hs G12 H12 e12 w12 ht hp hq hg hh => ?_⟩
        walk_at "zk"
        refine st_gtup (SqT.of (w12.at ht)) rfl ?_
        have hr12 := hr9.up (e10.trans (e11.trans e12))
        walk_at "zk"
        refine ⟨G12, _, rw', p, q, row, gs, hs, w12, rfl, hr12, hB, by omega, hp, hq, fun G13 H13 e13 w13 => ?_⟩
        walk_at "zk"
        refine ⟨by decide, NewO.good w13 fun p14 G14 H14 e14 w14 h14 => ?_⟩
        walk_at "zk"
        refine st_repI (hUp w14 h14) (by decide) (by decide) w14 fun p15 G15 H15 e15 w15 h15 => ?_
        walk_at "zk"
        have e1115 := e13.trans (e14.trans e15)
        have e315 := (e5.trans (e6.trans (e8.trans (e9.trans (e10.trans (e11.trans e12)))))).trans e1115
        refine ⟨G15, _, rw', f, p15, row, fixedL, _, w15, rfl, hr12.up e1115, hB, by omega, hf.up ((e1.trans e3).trans e315), h15, fun G16 H16 e16 w16 => ?_⟩
        walk_at "zk"
        exact st_btw (e3.trans (e315.trans e16)) w16 ⟨rfl, _, _, _, _, _, rfl⟩
      · rintro σ' G3 W3 H3 e3 w3 ⟨rfl, y4, y5, y6, y7, y8, rfl⟩
        exact st_btw (e1.trans e3) w3.drop1 ⟨rfl, _, _, _, _, _, _, _, rfl⟩
    · rintro σ' G1 W1 H1 e1 w1 ⟨rfl, x2, x3, x4, x5, x6, x7, x8, rfl⟩
      walk_at "zk"
      exact k _


end
theorem all_mk {l : PySem.W.OpenLaw} {w : World} {K : PySem.W.Frag} {h : Heap} {mg : Str → Option Value} {fa : Addr} (X : K.In h) (G : h.Ns mainGlobals mg) (hfa : mg "law" = some (.ref fa))
    {A0 : Addr} {od0 an0 : Option Addr} {sl0 : Array (Option Value)} {oc0 kV0 dc0 pm0 cd0 ct0 : Value}
    {A1 : Addr} {od1 an1 : Option Addr} {sl1 : Array (Option Value)} {oc1 kV1 dc1 pm1 cd1 ct1 : Value}
    {A2 : Addr} {od2 an2 : Option Addr} {sl2 : Array (Option Value)} {oc2 kV2 dc2 pm2 cd2 ct2 : Value}
    {A3 : Addr} {od3 an3 : Option Addr} {sl3 : Array (Option Value)} {oc3 kV3 dc3 pm3 cd3 ct3 : Value}
    {A4 : Addr} {od4 an4 : Option Addr} {sl4 : Array (Option Value)} {oc4 kV4 dc4 pm4 cd4 ct4 : Value}
    {A5 : Addr} {od5 an5 : Option Addr} {sl5 : Array (Option Value)} {oc5 kV5 dc5 pm5 cd5 ct5 : Value}
    {A6 : Addr} {od6 an6 : Option Addr} {sl6 : Array (Option Value)} {oc6 kV6 dc6 pm6 cd6 ct6 : Value}
    {A7 : Addr} {od7 an7 : Option Addr} {sl7 : Array (Option Value)} {oc7 dc7 pm7 cd7 ct7 : Value}
    {KD7 : Addr}
    {KT7_0 : Addr} {kn7_0 : Nat} {ks7_0 : Array (Option Value)} {kd7_0 : Option Addr}
    {A8 : Addr} {od8 an8 : Option Addr} {sl8 : Array (Option Value)} {oc8 kV8 dc8 pm8 cd8 ct8 : Value}
    {A9 : Addr} {od9 an9 : Option Addr} {sl9 : Array (Option Value)} {oc9 kV9 dc9 pm9 cd9 ct9 : Value}
    {A10 : Addr} {od10 an10 : Option Addr} {sl10 : Array (Option Value)} {oc10 kV10 dc10 pm10 cd10 ct10 : Value}
    {A11 : Addr} {od11 an11 : Option Addr} {sl11 : Array (Option Value)} {oc11 kV11 dc11 pm11 cd11 ct11 : Value}
    {A12 : Addr} {od12 an12 : Option Addr} {sl12 : Array (Option Value)} {oc12 kV12 dc12 pm12 cd12 ct12 : Value}
    {A13 : Addr} {od13 an13 : Option Addr} {sl13 : Array (Option Value)} {oc13 kV13 dc13 pm13 cd13 ct13 : Value}
    {A14 : Addr} {od14 an14 : Option Addr} {sl14 : Array (Option Value)} {oc14 kV14 dc14 pm14 cd14 ct14 : Value}
    {A15 : Addr} {od15 an15 : Option Addr} {sl15 : Array (Option Value)} {oc15 kV15 dc15 pm15 cd15 ct15 : Value}
    {CPrices : Addr}
    {A16 : Addr} {od16 an16 : Option Addr} {sl16 : Array (Option Value)} {oc16 kV16 dc16 pm16 cd16 ct16 : Value}
    {A17 : Addr} {od17 an17 : Option Addr} {sl17 : Array (Option Value)} {oc17 kV17 dc17 pm17 cd17 ct17 : Value}
    {A18 : Addr} {od18 an18 : Option Addr} {sl18 : Array (Option Value)} {oc18 kV18 dc18 pm18 cd18 ct18 : Value}
    {A19 : Addr} {od19 an19 : Option Addr} {sl19 : Array (Option Value)} {oc19 kV19 dc19 pm19 cd19 ct19 : Value}
    {A20 : Addr} {od20 an20 : Option Addr} {sl20 : Array (Option Value)} {oc20 kV20 dc20 pm20 cd20 ct20 : Value}
    {A21 : Addr} {od21 an21 : Option Addr} {sl21 : Array (Option Value)} {oc21 kV21 dc21 pm21 cd21 ct21 : Value}
    {A22 : Addr} {od22 an22 : Option Addr} {sl22 : Array (Option Value)} {oc22 kV22 dc22 pm22 cd22 ct22 : Value}
    {A23 : Addr} {od23 an23 : Option Addr} {sl23 : Array (Option Value)} {oc23 kV23 dc23 pm23 cd23 ct23 : Value}
    {A24 : Addr} {od24 an24 : Option Addr} {sl24 : Array (Option Value)} {oc24 kV24 dc24 pm24 cd24 ct24 : Value}
    {A25 : Addr} {od25 an25 : Option Addr} {sl25 : Array (Option Value)} {oc25 kV25 dc25 pm25 cd25 ct25 : Value}
    {A26 : Addr} {od26 an26 : Option Addr} {sl26 : Array (Option Value)} {oc26 kV26 dc26 pm26 cd26 ct26 : Value}
    {A27 : Addr} {od27 an27 : Option Addr} {sl27 : Array (Option Value)} {oc27 kV27 dc27 pm27 cd27 ct27 : Value}
    {A28 : Addr} {od28 an28 : Option Addr} {sl28 : Array (Option Value)} {oc28 kV28 dc28 pm28 cd28 ct28 : Value}
    {A29 : Addr} {od29 an29 : Option Addr} {sl29 : Array (Option Value)} {oc29 kV29 dc29 pm29 cd29 ct29 : Value}
    {A30 : Addr} {od30 an30 : Option Addr} {sl30 : Array (Option Value)} {oc30 kV30 dc30 pm30 cd30 ct30 : Value}
    {A31 : Addr} {od31 an31 : Option Addr} {sl31 : Array (Option Value)} {oc31 kV31 dc31 pm31 cd31 ct31 : Value}
    {A32 : Addr} {od32 an32 : Option Addr} {sl32 : Array (Option Value)} {oc32 kV32 dc32 pm32 cd32 ct32 : Value}
    {A33 : Addr} {od33 an33 : Option Addr} {sl33 : Array (Option Value)} {oc33 kV33 dc33 pm33 cd33 ct33 : Value}
    {tc0 : Tok}
    {tc1 : Tok}
    {tc2 : Tok}
    {tc3 : Tok}
    {KC4 : Addr} {kcn4 : Nat} {kcs4 : Array (Option Value)} {kcd4 : Option Addr} {kt4_0 kt4_1 kt4_2 kt4_3 kt4_4 kt4_5 kt4_6 kt4_7 kt4_8 kt4_9 kt4_10 kt4_11 kt4_12 kt4_13 kt4_14 kt4_15 kt4_16 kt4_17 kt4_18 kt4_19 kt4_20 kt4_21 kt4_22 kt4_23 kt4_24 kt4_25 kt4_26 kt4_27 kt4_28 : Tok}
    {tc5 : Tok}
    {KC6 : Addr} {kcn6 : Nat} {kcs6 : Array (Option Value)} {kcd6 : Option Addr} {kt6_0 kt6_1 kt6_2 kt6_3 kt6_4 kt6_5 kt6_6 kt6_7 kt6_8 kt6_9 kt6_10 kt6_11 kt6_12 kt6_13 kt6_14 kt6_15 kt6_16 kt6_17 kt6_18 kt6_19 kt6_20 kt6_21 kt6_22 kt6_23 kt6_24 kt6_25 kt6_26 kt6_27 kt6_28 : Tok}
    {KC7 : Addr} {kcn7 : Nat} {kcs7 : Array (Option Value)} {kcd7 : Option Addr} {kt7_0 kt7_1 kt7_2 kt7_3 kt7_4 kt7_5 kt7_6 kt7_7 kt7_8 kt7_9 kt7_10 kt7_11 kt7_12 kt7_13 kt7_14 kt7_15 kt7_16 kt7_17 kt7_18 kt7_19 kt7_20 kt7_21 kt7_22 kt7_23 kt7_24 kt7_25 kt7_26 kt7_27 kt7_28 kt7_29 : Tok}
    {KC8 : Addr} {kcn8 : Nat} {kcs8 : Array (Option Value)} {kcd8 : Option Addr} {kt8_0 kt8_1 kt8_2 kt8_3 kt8_4 kt8_5 kt8_6 kt8_7 kt8_8 kt8_9 kt8_10 kt8_11 kt8_12 kt8_13 kt8_14 kt8_15 kt8_16 kt8_17 kt8_18 kt8_19 kt8_20 kt8_21 kt8_22 kt8_23 kt8_24 kt8_25 kt8_26 kt8_27 kt8_28 kt8_29 : Tok}
    (a0 : PySem.W.nsIn K mainGlobals "is_integer" = some (some (.ref A0)))
    (l0 : K.lookup A0 = some ⟨oc0, od0, .func (PySem.W.fnOf "is_integer" "is_integer" (defArgs s_is_integer) (defBody s_is_integer) (defScope s_is_integer) .none kV0 dc0 pm0 an0 cd0 ct0), sl0⟩)
    (c0 : PySem.W.codeIn K cd0 "is_integer" = true) (k0 : PySem.W.keepIn K (.ref A0) = true)
    (a1 : PySem.W.nsIn K mainGlobals "in_range" = some (some (.ref A1)))
    (l1 : K.lookup A1 = some ⟨oc1, od1, .func (PySem.W.fnOf "in_range" "in_range" (defArgs s_in_range) (defBody s_in_range) (defScope s_in_range) .none kV1 dc1 pm1 an1 cd1 ct1), sl1⟩)
    (c1 : PySem.W.codeIn K cd1 "in_range" = true) (k1 : PySem.W.keepIn K (.ref A1) = true)
    (a2 : PySem.W.nsIn K mainGlobals "is_byte" = some (some (.ref A2)))
    (l2 : K.lookup A2 = some ⟨oc2, od2, .func (PySem.W.fnOf "is_byte" "is_byte" (defArgs s_is_byte) (defBody s_is_byte) (defScope s_is_byte) .none kV2 dc2 pm2 an2 cd2 ct2), sl2⟩)
    (c2 : PySem.W.codeIn K cd2 "is_byte" = true) (k2 : PySem.W.keepIn K (.ref A2) = true)
    (a3 : PySem.W.nsIn K mainGlobals "checked_data" = some (some (.ref A3)))
    (l3 : K.lookup A3 = some ⟨oc3, od3, .func (PySem.W.fnOf "checked_data" "checked_data" (defArgs s_checked_data) (defBody s_checked_data) (defScope s_checked_data) .none kV3 dc3 pm3 an3 cd3 ct3), sl3⟩)
    (c3 : PySem.W.codeIn K cd3 "checked_data" = true) (k3 : PySem.W.keepIn K (.ref A3) = true)
    (a4 : PySem.W.nsIn K mainGlobals "is_token" = some (some (.ref A4)))
    (l4 : K.lookup A4 = some ⟨oc4, od4, .func (PySem.W.fnOf "is_token" "is_token" (defArgs s_is_token) (defBody s_is_token) (defScope s_is_token) .none kV4 dc4 pm4 an4 cd4 ct4), sl4⟩)
    (c4 : PySem.W.codeIn K cd4 "is_token" = true) (k4 : PySem.W.keepIn K (.ref A4) = true)
    (a5 : PySem.W.nsIn K mainGlobals "check_tokens" = some (some (.ref A5)))
    (l5 : K.lookup A5 = some ⟨oc5, od5, .func (PySem.W.fnOf "check_tokens" "check_tokens" (defArgs s_check_tokens) (defBody s_check_tokens) (defScope s_check_tokens) .none kV5 dc5 pm5 an5 cd5 ct5), sl5⟩)
    (c5 : PySem.W.codeIn K cd5 "check_tokens" = true) (k5 : PySem.W.keepIn K (.ref A5) = true)
    (a6 : PySem.W.nsIn K mainGlobals "copy_into" = some (some (.ref A6)))
    (l6 : K.lookup A6 = some ⟨oc6, od6, .func (PySem.W.fnOf "copy_into" "copy_into" (defArgs s_copy_into) (defBody s_copy_into) (defScope s_copy_into) .none kV6 dc6 pm6 an6 cd6 ct6), sl6⟩)
    (c6 : PySem.W.codeIn K cd6 "copy_into" = true) (k6 : PySem.W.keepIn K (.ref A6) = true)
    (a7 : PySem.W.nsIn K mainGlobals "expand" = some (some (.ref A7)))
    (l7 : K.lookup A7 = some ⟨oc7, od7, .func (PySem.W.fnOf "expand" "expand" (defArgs s_expand) (defBody s_expand) (defScope s_expand) .none (.ref KD7) dc7 pm7 an7 cd7 ct7), sl7⟩)
    (kx7_0 : PySem.W.nsIn K KD7 "before" = some (some (.ref KT7_0)))
    (kl7_0 : K.lookup KT7_0 = some ⟨.type "tuple", kd7_0, .seq #[] kn7_0, ks7_0⟩)
    (c7 : PySem.W.codeIn K cd7 "expand" = true) (k7 : PySem.W.keepIn K (.ref A7) = true)
    (a8 : PySem.W.nsIn K mainGlobals "place_in" = some (some (.ref A8)))
    (l8 : K.lookup A8 = some ⟨oc8, od8, .func (PySem.W.fnOf "place_in" "place_in" (defArgs s_place_in) (defBody s_place_in) (defScope s_place_in) .none kV8 dc8 pm8 an8 cd8 ct8), sl8⟩)
    (c8 : PySem.W.codeIn K cd8 "place_in" = true) (k8 : PySem.W.keepIn K (.ref A8) = true)
    (a9 : PySem.W.nsIn K mainGlobals "length_symbol" = some (some (.ref A9)))
    (l9 : K.lookup A9 = some ⟨oc9, od9, .func (PySem.W.fnOf "length_symbol" "length_symbol" (defArgs s_length_symbol) (defBody s_length_symbol) (defScope s_length_symbol) .none kV9 dc9 pm9 an9 cd9 ct9), sl9⟩)
    (c9 : PySem.W.codeIn K cd9 "length_symbol" = true) (k9 : PySem.W.keepIn K (.ref A9) = true)
    (a10 : PySem.W.nsIn K mainGlobals "distance_symbol" = some (some (.ref A10)))
    (l10 : K.lookup A10 = some ⟨oc10, od10, .func (PySem.W.fnOf "distance_symbol" "distance_symbol" (defArgs s_distance_symbol) (defBody s_distance_symbol) (defScope s_distance_symbol) .none kV10 dc10 pm10 an10 cd10 ct10), sl10⟩)
    (c10 : PySem.W.codeIn K cd10 "distance_symbol" = true) (k10 : PySem.W.keepIn K (.ref A10) = true)
    (a11 : PySem.W.nsIn K mainGlobals "symbol_bits" = some (some (.ref A11)))
    (l11 : K.lookup A11 = some ⟨oc11, od11, .func (PySem.W.fnOf "symbol_bits" "symbol_bits" (defArgs s_symbol_bits) (defBody s_symbol_bits) (defScope s_symbol_bits) .none kV11 dc11 pm11 an11 cd11 ct11), sl11⟩)
    (c11 : PySem.W.codeIn K cd11 "symbol_bits" = true) (k11 : PySem.W.keepIn K (.ref A11) = true)
    (a12 : PySem.W.nsIn K mainGlobals "equal_lengths" = some (some (.ref A12)))
    (l12 : K.lookup A12 = some ⟨oc12, od12, .func (PySem.W.fnOf "equal_lengths" "equal_lengths" (defArgs s_equal_lengths) (defBody s_equal_lengths) (defScope s_equal_lengths) .none kV12 dc12 pm12 an12 cd12 ct12), sl12⟩)
    (c12 : PySem.W.codeIn K cd12 "equal_lengths" = true) (k12 : PySem.W.keepIn K (.ref A12) = true)
    (a13 : PySem.W.nsIn K mainGlobals "part_bits" = some (some (.ref A13)))
    (l13 : K.lookup A13 = some ⟨oc13, od13, .func (PySem.W.fnOf "part_bits" "part_bits" (defArgs s_part_bits) (defBody s_part_bits) (defScope s_part_bits) .none kV13 dc13 pm13 an13 cd13 ct13), sl13⟩)
    (c13 : PySem.W.codeIn K cd13 "part_bits" = true) (k13 : PySem.W.keepIn K (.ref A13) = true)
    (a14 : PySem.W.nsIn K mainGlobals "first_of" = some (some (.ref A14)))
    (l14 : K.lookup A14 = some ⟨oc14, od14, .func (PySem.W.fnOf "first_of" "first_of" (defArgs s_first_of) (defBody s_first_of) (defScope s_first_of) .none kV14 dc14 pm14 an14 cd14 ct14), sl14⟩)
    (c14 : PySem.W.codeIn K cd14 "first_of" = true) (k14 : PySem.W.keepIn K (.ref A14) = true)
    (a15 : PySem.W.nsIn K mainGlobals "lesser" = some (some (.ref A15)))
    (l15 : K.lookup A15 = some ⟨oc15, od15, .func (PySem.W.fnOf "lesser" "lesser" (defArgs s_lesser) (defBody s_lesser) (defScope s_lesser) .none kV15 dc15 pm15 an15 cd15 ct15), sl15⟩)
    (c15 : PySem.W.codeIn K cd15 "lesser" = true) (k15 : PySem.W.keepIn K (.ref A15) = true)
    (yg_Prices : PySem.W.nsIn K mainGlobals "Prices" = some (some (.ref CPrices)))
    (ypg_Prices : PySem.W.plainGet K CPrices Str.empty = true)
    (yhd_Prices : PySem.W.hasDictIn K CPrices = true)
    (ypo_Prices : PySem.W.plainOver K CPrices = true)
    (ysa_Prices : PySem.W.findIn K (.ref CPrices) "__setattr__" = some (some (.builtin "object.__setattr__")))
    (ymk_Prices : PySem.W.makesIn K CPrices = true)
    (ykc_Prices : PySem.W.keepIn K (.ref CPrices) = true)
    (yf_literals_Prices : PySem.W.findIn K (.ref CPrices) "literals" = some none)
    (yf_span_costs_Prices : PySem.W.findIn K (.ref CPrices) "span_costs" = some none)
    (yf_far_costs_Prices : PySem.W.findIn K (.ref CPrices) "far_costs" = some none)
    (a16 : PySem.W.findIn K (.ref CPrices) "__init__" = some (some (.ref A16)))
    (u16 : PySem.W.isFn K (.ref A16) = true)
    (l16 : K.lookup A16 = some ⟨oc16, od16, .func (PySem.W.fnOf "__init__" "Prices.__init__" (defArgs s_Prices___init__) (defBody s_Prices___init__) (defScope s_Prices___init__) .none kV16 dc16 pm16 an16 cd16 ct16), sl16⟩)
    (c16 : PySem.W.codeIn K cd16 "Prices.__init__" = true) (k16 : PySem.W.keepIn K (.ref A16) = true)
    (a17 : PySem.W.findIn K (.ref CPrices) "matches" = some (some (.ref A17)))
    (u17 : PySem.W.isFn K (.ref A17) = true)
    (l17 : K.lookup A17 = some ⟨oc17, od17, .func (PySem.W.fnOf "matches" "Prices.matches" (defArgs s_Prices_matches) (defBody s_Prices_matches) (defScope s_Prices_matches) .none kV17 dc17 pm17 an17 cd17 ct17), sl17⟩)
    (c17 : PySem.W.codeIn K cd17 "Prices.matches" = true) (k17 : PySem.W.keepIn K (.ref A17) = true)
    (a18 : PySem.W.findIn K (.ref CPrices) "choices" = some (some (.ref A18)))
    (u18 : PySem.W.isFn K (.ref A18) = true)
    (l18 : K.lookup A18 = some ⟨oc18, od18, .func (PySem.W.fnOf "choices" "Prices.choices" (defArgs s_Prices_choices) (defBody s_Prices_choices) (defScope s_Prices_choices) .none kV18 dc18 pm18 an18 cd18 ct18), sl18⟩)
    (c18 : PySem.W.codeIn K cd18 "Prices.choices" = true) (k18 : PySem.W.keepIn K (.ref A18) = true)
    (a19 : PySem.W.nsIn K mainGlobals "span_of" = some (some (.ref A19)))
    (l19 : K.lookup A19 = some ⟨oc19, od19, .func (PySem.W.fnOf "span_of" "span_of" (defArgs s_span_of) (defBody s_span_of) (defScope s_span_of) .none kV19 dc19 pm19 an19 cd19 ct19), sl19⟩)
    (c19 : PySem.W.codeIn K cd19 "span_of" = true) (k19 : PySem.W.keepIn K (.ref A19) = true)
    (a20 : PySem.W.nsIn K mainGlobals "cheapest" = some (some (.ref A20)))
    (l20 : K.lookup A20 = some ⟨oc20, od20, .func (PySem.W.fnOf "cheapest" "cheapest" (defArgs s_cheapest) (defBody s_cheapest) (defScope s_cheapest) .none kV20 dc20 pm20 an20 cd20 ct20), sl20⟩)
    (c20 : PySem.W.codeIn K cd20 "cheapest" = true) (k20 : PySem.W.keepIn K (.ref A20) = true)
    (a21 : PySem.W.nsIn K mainGlobals "_law_bag" = some (some (.ref A21)))
    (l21 : K.lookup A21 = some ⟨oc21, od21, .func (PySem.W.fnOf "_law_bag" "_law_bag" (defArgs s__law_bag) (defBody s__law_bag) (defScope s__law_bag) .none kV21 dc21 pm21 an21 cd21 ct21), sl21⟩)
    (c21 : PySem.W.codeIn K cd21 "_law_bag" = true) (k21 : PySem.W.keepIn K (.ref A21) = true)
    (a22 : PySem.W.nsIn K mainGlobals "_law_take" = some (some (.ref A22)))
    (l22 : K.lookup A22 = some ⟨oc22, od22, .func (PySem.W.fnOf "_law_take" "_law_take" (defArgs s__law_take) (defBody s__law_take) (defScope s__law_take) .none kV22 dc22 pm22 an22 cd22 ct22), sl22⟩)
    (c22 : PySem.W.codeIn K cd22 "_law_take" = true) (k22 : PySem.W.keepIn K (.ref A22) = true)
    (a23 : PySem.W.nsIn K mainGlobals "_law_one" = some (some (.ref A23)))
    (l23 : K.lookup A23 = some ⟨oc23, od23, .func (PySem.W.fnOf "_law_one" "_law_one" (defArgs s__law_one) (defBody s__law_one) (defScope s__law_one) .none kV23 dc23 pm23 an23 cd23 ct23), sl23⟩)
    (c23 : PySem.W.codeIn K cd23 "_law_one" = true) (k23 : PySem.W.keepIn K (.ref A23) = true)
    (a24 : PySem.W.nsIn K mainGlobals "_law_whole" = some (some (.ref A24)))
    (l24 : K.lookup A24 = some ⟨oc24, od24, .func (PySem.W.fnOf "_law_whole" "_law_whole" (defArgs s__law_whole) (defBody s__law_whole) (defScope s__law_whole) .none kV24 dc24 pm24 an24 cd24 ct24), sl24⟩)
    (c24 : PySem.W.codeIn K cd24 "_law_whole" = true) (k24 : PySem.W.keepIn K (.ref A24) = true)
    (a25 : PySem.W.nsIn K mainGlobals "_law_symbol" = some (some (.ref A25)))
    (l25 : K.lookup A25 = some ⟨oc25, od25, .func (PySem.W.fnOf "_law_symbol" "_law_symbol" (defArgs s__law_symbol) (defBody s__law_symbol) (defScope s__law_symbol) .none kV25 dc25 pm25 an25 cd25 ct25), sl25⟩)
    (c25 : PySem.W.codeIn K cd25 "_law_symbol" = true) (k25 : PySem.W.keepIn K (.ref A25) = true)
    (a26 : PySem.W.nsIn K mainGlobals "_law_size" = some (some (.ref A26)))
    (l26 : K.lookup A26 = some ⟨oc26, od26, .func (PySem.W.fnOf "_law_size" "_law_size" (defArgs s__law_size) (defBody s__law_size) (defScope s__law_size) .none kV26 dc26 pm26 an26 cd26 ct26), sl26⟩)
    (c26 : PySem.W.codeIn K cd26 "_law_size" = true) (k26 : PySem.W.keepIn K (.ref A26) = true)
    (a27 : PySem.W.nsIn K mainGlobals "_law_token_bits" = some (some (.ref A27)))
    (l27 : K.lookup A27 = some ⟨oc27, od27, .func (PySem.W.fnOf "_law_token_bits" "_law_token_bits" (defArgs s__law_token_bits) (defBody s__law_token_bits) (defScope s__law_token_bits) .none kV27 dc27 pm27 an27 cd27 ct27), sl27⟩)
    (c27 : PySem.W.codeIn K cd27 "_law_token_bits" = true) (k27 : PySem.W.keepIn K (.ref A27) = true)
    (a28 : PySem.W.nsIn K mainGlobals "_law_split" = some (some (.ref A28)))
    (l28 : K.lookup A28 = some ⟨oc28, od28, .func (PySem.W.fnOf "_law_split" "_law_split" (defArgs s__law_split) (defBody s__law_split) (defScope s__law_split) .none kV28 dc28 pm28 an28 cd28 ct28), sl28⟩)
    (c28 : PySem.W.codeIn K cd28 "_law_split" = true) (k28 : PySem.W.keepIn K (.ref A28) = true)
    (a29 : PySem.W.nsIn K mainGlobals "_law_trees" = some (some (.ref A29)))
    (l29 : K.lookup A29 = some ⟨oc29, od29, .func (PySem.W.fnOf "_law_trees" "_law_trees" (defArgs s__law_trees) (defBody s__law_trees) (defScope s__law_trees) .none kV29 dc29 pm29 an29 cd29 ct29), sl29⟩)
    (c29 : PySem.W.codeIn K cd29 "_law_trees" = true) (k29 : PySem.W.keepIn K (.ref A29) = true)
    (a30 : PySem.W.nsIn K mainGlobals "_law_all_rows" = some (some (.ref A30)))
    (l30 : K.lookup A30 = some ⟨oc30, od30, .func (PySem.W.fnOf "_law_all_rows" "_law_all_rows" (defArgs s__law_all_rows) (defBody s__law_all_rows) (defScope s__law_all_rows) .none kV30 dc30 pm30 an30 cd30 ct30), sl30⟩)
    (c30 : PySem.W.codeIn K cd30 "_law_all_rows" = true) (k30 : PySem.W.keepIn K (.ref A30) = true)
    (a31 : PySem.W.nsIn K mainGlobals "_law_cost" = some (some (.ref A31)))
    (l31 : K.lookup A31 = some ⟨oc31, od31, .func (PySem.W.fnOf "_law_cost" "_law_cost" (defArgs s__law_cost) (defBody s__law_cost) (defScope s__law_cost) .none kV31 dc31 pm31 an31 cd31 ct31), sl31⟩)
    (c31 : PySem.W.codeIn K cd31 "_law_cost" = true) (k31 : PySem.W.keepIn K (.ref A31) = true)
    (a32 : PySem.W.nsIn K mainGlobals "_law_right" = some (some (.ref A32)))
    (l32 : K.lookup A32 = some ⟨oc32, od32, .func (PySem.W.fnOf "_law_right" "_law_right" (defArgs s__law_right) (defBody s__law_right) (defScope s__law_right) .none kV32 dc32 pm32 an32 cd32 ct32), sl32⟩)
    (c32 : PySem.W.codeIn K cd32 "_law_right" = true) (k32 : PySem.W.keepIn K (.ref A32) = true)
    (a33 : PySem.W.nsIn K mainGlobals "law" = some (some (.ref A33)))
    (l33 : K.lookup A33 = some ⟨oc33, od33, .func (PySem.W.fnOf "law" "law" (defArgs s_law) (defBody s_law) (defScope s_law) .none kV33 dc33 pm33 an33 cd33 ct33), sl33⟩)
    (c33 : PySem.W.codeIn K cd33 "law" = true) (k33 : PySem.W.keepIn K (.ref A33) = true)
    (co0 : PySem.W.nsIn K mainGlobals "MOST_DATA" = some (some (.int 70000 tc0)))
    (co1 : PySem.W.nsIn K mainGlobals "LEAST_LENGTH" = some (some (.int 3 tc1)))
    (co2 : PySem.W.nsIn K mainGlobals "MOST_LENGTH" = some (some (.int 258 tc2)))
    (co3 : PySem.W.nsIn K mainGlobals "MOST_DISTANCE" = some (some (.int 32768 tc3)))
    (co4 : PySem.W.nsIn K mainGlobals "LENGTHS" = some (some (.ref KC4))) (cl4 : K.lookup KC4 = some ⟨.type "tuple", kcd4, .seq #[.int 3 kt4_0, .int 4 kt4_1, .int 5 kt4_2, .int 6 kt4_3, .int 7 kt4_4, .int 8 kt4_5, .int 9 kt4_6, .int 10 kt4_7, .int 11 kt4_8, .int 13 kt4_9, .int 15 kt4_10, .int 17 kt4_11, .int 19 kt4_12, .int 23 kt4_13, .int 27 kt4_14, .int 31 kt4_15, .int 35 kt4_16, .int 43 kt4_17, .int 51 kt4_18, .int 59 kt4_19, .int 67 kt4_20, .int 83 kt4_21, .int 99 kt4_22, .int 115 kt4_23, .int 131 kt4_24, .int 163 kt4_25, .int 195 kt4_26, .int 227 kt4_27, .int 258 kt4_28] kcn4, kcs4⟩)
    (co5 : PySem.W.nsIn K mainGlobals "FIRST_LENGTH" = some (some (.int 257 tc5)))
    (co6 : PySem.W.nsIn K mainGlobals "LENGTH_EXTRAS" = some (some (.ref KC6))) (cl6 : K.lookup KC6 = some ⟨.type "tuple", kcd6, .seq #[.int 0 kt6_0, .int 0 kt6_1, .int 0 kt6_2, .int 0 kt6_3, .int 0 kt6_4, .int 0 kt6_5, .int 0 kt6_6, .int 0 kt6_7, .int 1 kt6_8, .int 1 kt6_9, .int 1 kt6_10, .int 1 kt6_11, .int 2 kt6_12, .int 2 kt6_13, .int 2 kt6_14, .int 2 kt6_15, .int 3 kt6_16, .int 3 kt6_17, .int 3 kt6_18, .int 3 kt6_19, .int 4 kt6_20, .int 4 kt6_21, .int 4 kt6_22, .int 4 kt6_23, .int 5 kt6_24, .int 5 kt6_25, .int 5 kt6_26, .int 5 kt6_27, .int 0 kt6_28] kcn6, kcs6⟩)
    (co7 : PySem.W.nsIn K mainGlobals "DISTANCES" = some (some (.ref KC7))) (cl7 : K.lookup KC7 = some ⟨.type "tuple", kcd7, .seq #[.int 1 kt7_0, .int 2 kt7_1, .int 3 kt7_2, .int 4 kt7_3, .int 5 kt7_4, .int 7 kt7_5, .int 9 kt7_6, .int 13 kt7_7, .int 17 kt7_8, .int 25 kt7_9, .int 33 kt7_10, .int 49 kt7_11, .int 65 kt7_12, .int 97 kt7_13, .int 129 kt7_14, .int 193 kt7_15, .int 257 kt7_16, .int 385 kt7_17, .int 513 kt7_18, .int 769 kt7_19, .int 1025 kt7_20, .int 1537 kt7_21, .int 2049 kt7_22, .int 3073 kt7_23, .int 4097 kt7_24, .int 6145 kt7_25, .int 8193 kt7_26, .int 12289 kt7_27, .int 16385 kt7_28, .int 24577 kt7_29] kcn7, kcs7⟩)
    (co8 : PySem.W.nsIn K mainGlobals "DISTANCE_EXTRAS" = some (some (.ref KC8))) (cl8 : K.lookup KC8 = some ⟨.type "tuple", kcd8, .seq #[.int 0 kt8_0, .int 0 kt8_1, .int 0 kt8_2, .int 0 kt8_3, .int 1 kt8_4, .int 1 kt8_5, .int 2 kt8_6, .int 2 kt8_7, .int 3 kt8_8, .int 3 kt8_9, .int 4 kt8_10, .int 4 kt8_11, .int 5 kt8_12, .int 5 kt8_13, .int 6 kt8_14, .int 6 kt8_15, .int 7 kt8_16, .int 7 kt8_17, .int 8 kt8_18, .int 8 kt8_19, .int 9 kt8_20, .int 9 kt8_21, .int 10 kt8_22, .int 10 kt8_23, .int 11 kt8_24, .int 11 kt8_25, .int 12 kt8_26, .int 12 kt8_27, .int 13 kt8_28, .int 13 kt8_29] kcn8, kcs8⟩)
    (z_isinstance : PySem.W.nsIn K mainGlobals "isinstance" = some none)
    (z_int : PySem.W.nsIn K mainGlobals "int" = some none)
    (z_bool : PySem.W.nsIn K mainGlobals "bool" = some none)
    (z_enumerate : PySem.W.nsIn K mainGlobals "enumerate" = some none)
    (z_list : PySem.W.nsIn K mainGlobals "list" = some none)
    (z_len : PySem.W.nsIn K mainGlobals "len" = some none)
    (z_tuple : PySem.W.nsIn K mainGlobals "tuple" = some none)
    (z_range : PySem.W.nsIn K mainGlobals "range" = some none)
    (z_min : PySem.W.nsIn K mainGlobals "min" = some none)
    (z_abs : PySem.W.nsIn K mainGlobals "abs" = some none)
    (z_sorted : PySem.W.nsIn K mainGlobals "sorted" = some none)
    (z_set : PySem.W.nsIn K mainGlobals "set" = some none)
    (z_sum : PySem.W.nsIn K mainGlobals "sum" = some none)
    (z_max : PySem.W.nsIn K mainGlobals "max" = some none) :
    ∃ fd : FuncData, (∀ (s : Shared) (v : Value), BindsTo s fd ⟨[v], []⟩ [("_law_script", v)]) ∧ ∀ base : Heap, K.In base → base.Ns mainGlobals mg → FnG l.prog w K mg base 13 fa fd ["_law_script"] (spLaw K) := by
  have e := hfa.symm.trans (PySem.W.mg_of X G a33)
  cases e
  have F0 : FunD K "is_integer" "is_integer" (defArgs s_is_integer) (defBody s_is_integer) (defScope s_is_integer) [] [] A0 (PySem.W.fnOf "is_integer" "is_integer" (defArgs s_is_integer) (defBody s_is_integer) (defScope s_is_integer) .none kV0 dc0 pm0 an0 cd0 ct0) :=
    ⟨⟨oc0, od0, .none, kV0, dc0, pm0, an0, cd0, ct0, sl0, rfl, l0, c0, (.inl ⟨rfl, rfl⟩), .inl rfl⟩, k0⟩
  have F1 : FunD K "in_range" "in_range" (defArgs s_in_range) (defBody s_in_range) (defScope s_in_range) [] [] A1 (PySem.W.fnOf "in_range" "in_range" (defArgs s_in_range) (defBody s_in_range) (defScope s_in_range) .none kV1 dc1 pm1 an1 cd1 ct1) :=
    ⟨⟨oc1, od1, .none, kV1, dc1, pm1, an1, cd1, ct1, sl1, rfl, l1, c1, (.inl ⟨rfl, rfl⟩), .inl rfl⟩, k1⟩
  have F2 : FunD K "is_byte" "is_byte" (defArgs s_is_byte) (defBody s_is_byte) (defScope s_is_byte) [] [] A2 (PySem.W.fnOf "is_byte" "is_byte" (defArgs s_is_byte) (defBody s_is_byte) (defScope s_is_byte) .none kV2 dc2 pm2 an2 cd2 ct2) :=
    ⟨⟨oc2, od2, .none, kV2, dc2, pm2, an2, cd2, ct2, sl2, rfl, l2, c2, (.inl ⟨rfl, rfl⟩), .inl rfl⟩, k2⟩
  have F3 : FunD K "checked_data" "checked_data" (defArgs s_checked_data) (defBody s_checked_data) (defScope s_checked_data) [] [] A3 (PySem.W.fnOf "checked_data" "checked_data" (defArgs s_checked_data) (defBody s_checked_data) (defScope s_checked_data) .none kV3 dc3 pm3 an3 cd3 ct3) :=
    ⟨⟨oc3, od3, .none, kV3, dc3, pm3, an3, cd3, ct3, sl3, rfl, l3, c3, (.inl ⟨rfl, rfl⟩), .inl rfl⟩, k3⟩
  have F4 : FunD K "is_token" "is_token" (defArgs s_is_token) (defBody s_is_token) (defScope s_is_token) [] [] A4 (PySem.W.fnOf "is_token" "is_token" (defArgs s_is_token) (defBody s_is_token) (defScope s_is_token) .none kV4 dc4 pm4 an4 cd4 ct4) :=
    ⟨⟨oc4, od4, .none, kV4, dc4, pm4, an4, cd4, ct4, sl4, rfl, l4, c4, (.inl ⟨rfl, rfl⟩), .inl rfl⟩, k4⟩
  have F5 : FunD K "check_tokens" "check_tokens" (defArgs s_check_tokens) (defBody s_check_tokens) (defScope s_check_tokens) [] [] A5 (PySem.W.fnOf "check_tokens" "check_tokens" (defArgs s_check_tokens) (defBody s_check_tokens) (defScope s_check_tokens) .none kV5 dc5 pm5 an5 cd5 ct5) :=
    ⟨⟨oc5, od5, .none, kV5, dc5, pm5, an5, cd5, ct5, sl5, rfl, l5, c5, (.inl ⟨rfl, rfl⟩), .inl rfl⟩, k5⟩
  have F6 : FunD K "copy_into" "copy_into" (defArgs s_copy_into) (defBody s_copy_into) (defScope s_copy_into) [] [] A6 (PySem.W.fnOf "copy_into" "copy_into" (defArgs s_copy_into) (defBody s_copy_into) (defScope s_copy_into) .none kV6 dc6 pm6 an6 cd6 ct6) :=
    ⟨⟨oc6, od6, .none, kV6, dc6, pm6, an6, cd6, ct6, sl6, rfl, l6, c6, (.inl ⟨rfl, rfl⟩), .inl rfl⟩, k6⟩
  have F7 : FunD K "expand" "expand" (defArgs s_expand) (defBody s_expand) (defScope s_expand) [] [("before", .ref KT7_0)] A7 (PySem.W.fnOf "expand" "expand" (defArgs s_expand) (defBody s_expand) (defScope s_expand) .none (.ref KD7) dc7 pm7 an7 cd7 ct7) :=
    ⟨⟨oc7, od7, .none, (.ref KD7), dc7, pm7, an7, cd7, ct7, sl7, rfl, l7, c7, (.inl ⟨rfl, rfl⟩), .inr ⟨KD7, rfl, fun q hq => (List.mem_cons.mp hq).elim (fun e => by cases e; exact ⟨_, kx7_0, rfl⟩) fun hq => (List.not_mem_nil hq).elim⟩⟩, k7⟩
  have F8 : FunD K "place_in" "place_in" (defArgs s_place_in) (defBody s_place_in) (defScope s_place_in) [] [] A8 (PySem.W.fnOf "place_in" "place_in" (defArgs s_place_in) (defBody s_place_in) (defScope s_place_in) .none kV8 dc8 pm8 an8 cd8 ct8) :=
    ⟨⟨oc8, od8, .none, kV8, dc8, pm8, an8, cd8, ct8, sl8, rfl, l8, c8, (.inl ⟨rfl, rfl⟩), .inl rfl⟩, k8⟩
  have F9 : FunD K "length_symbol" "length_symbol" (defArgs s_length_symbol) (defBody s_length_symbol) (defScope s_length_symbol) [] [] A9 (PySem.W.fnOf "length_symbol" "length_symbol" (defArgs s_length_symbol) (defBody s_length_symbol) (defScope s_length_symbol) .none kV9 dc9 pm9 an9 cd9 ct9) :=
    ⟨⟨oc9, od9, .none, kV9, dc9, pm9, an9, cd9, ct9, sl9, rfl, l9, c9, (.inl ⟨rfl, rfl⟩), .inl rfl⟩, k9⟩
  have F10 : FunD K "distance_symbol" "distance_symbol" (defArgs s_distance_symbol) (defBody s_distance_symbol) (defScope s_distance_symbol) [] [] A10 (PySem.W.fnOf "distance_symbol" "distance_symbol" (defArgs s_distance_symbol) (defBody s_distance_symbol) (defScope s_distance_symbol) .none kV10 dc10 pm10 an10 cd10 ct10) :=
    ⟨⟨oc10, od10, .none, kV10, dc10, pm10, an10, cd10, ct10, sl10, rfl, l10, c10, (.inl ⟨rfl, rfl⟩), .inl rfl⟩, k10⟩
  have F11 : FunD K "symbol_bits" "symbol_bits" (defArgs s_symbol_bits) (defBody s_symbol_bits) (defScope s_symbol_bits) [] [] A11 (PySem.W.fnOf "symbol_bits" "symbol_bits" (defArgs s_symbol_bits) (defBody s_symbol_bits) (defScope s_symbol_bits) .none kV11 dc11 pm11 an11 cd11 ct11) :=
    ⟨⟨oc11, od11, .none, kV11, dc11, pm11, an11, cd11, ct11, sl11, rfl, l11, c11, (.inl ⟨rfl, rfl⟩), .inl rfl⟩, k11⟩
  have F12 : FunD K "equal_lengths" "equal_lengths" (defArgs s_equal_lengths) (defBody s_equal_lengths) (defScope s_equal_lengths) [] [] A12 (PySem.W.fnOf "equal_lengths" "equal_lengths" (defArgs s_equal_lengths) (defBody s_equal_lengths) (defScope s_equal_lengths) .none kV12 dc12 pm12 an12 cd12 ct12) :=
    ⟨⟨oc12, od12, .none, kV12, dc12, pm12, an12, cd12, ct12, sl12, rfl, l12, c12, (.inl ⟨rfl, rfl⟩), .inl rfl⟩, k12⟩
  have F13 : FunD K "part_bits" "part_bits" (defArgs s_part_bits) (defBody s_part_bits) (defScope s_part_bits) [] [] A13 (PySem.W.fnOf "part_bits" "part_bits" (defArgs s_part_bits) (defBody s_part_bits) (defScope s_part_bits) .none kV13 dc13 pm13 an13 cd13 ct13) :=
    ⟨⟨oc13, od13, .none, kV13, dc13, pm13, an13, cd13, ct13, sl13, rfl, l13, c13, (.inl ⟨rfl, rfl⟩), .inl rfl⟩, k13⟩
  have F14 : FunD K "first_of" "first_of" (defArgs s_first_of) (defBody s_first_of) (defScope s_first_of) [] [] A14 (PySem.W.fnOf "first_of" "first_of" (defArgs s_first_of) (defBody s_first_of) (defScope s_first_of) .none kV14 dc14 pm14 an14 cd14 ct14) :=
    ⟨⟨oc14, od14, .none, kV14, dc14, pm14, an14, cd14, ct14, sl14, rfl, l14, c14, (.inl ⟨rfl, rfl⟩), .inl rfl⟩, k14⟩
  have F15 : FunD K "lesser" "lesser" (defArgs s_lesser) (defBody s_lesser) (defScope s_lesser) [] [] A15 (PySem.W.fnOf "lesser" "lesser" (defArgs s_lesser) (defBody s_lesser) (defScope s_lesser) .none kV15 dc15 pm15 an15 cd15 ct15) :=
    ⟨⟨oc15, od15, .none, kV15, dc15, pm15, an15, cd15, ct15, sl15, rfl, l15, c15, (.inl ⟨rfl, rfl⟩), .inl rfl⟩, k15⟩
  have F16 : FunD K "__init__" "Prices.__init__" (defArgs s_Prices___init__) (defBody s_Prices___init__) (defScope s_Prices___init__) [] [] A16 (PySem.W.fnOf "__init__" "Prices.__init__" (defArgs s_Prices___init__) (defBody s_Prices___init__) (defScope s_Prices___init__) .none kV16 dc16 pm16 an16 cd16 ct16) :=
    ⟨⟨oc16, od16, .none, kV16, dc16, pm16, an16, cd16, ct16, sl16, rfl, l16, c16, (.inl ⟨rfl, rfl⟩), .inl rfl⟩, k16⟩
  have F17 : FunD K "matches" "Prices.matches" (defArgs s_Prices_matches) (defBody s_Prices_matches) (defScope s_Prices_matches) [] [] A17 (PySem.W.fnOf "matches" "Prices.matches" (defArgs s_Prices_matches) (defBody s_Prices_matches) (defScope s_Prices_matches) .none kV17 dc17 pm17 an17 cd17 ct17) :=
    ⟨⟨oc17, od17, .none, kV17, dc17, pm17, an17, cd17, ct17, sl17, rfl, l17, c17, (.inl ⟨rfl, rfl⟩), .inl rfl⟩, k17⟩
  have F18 : FunD K "choices" "Prices.choices" (defArgs s_Prices_choices) (defBody s_Prices_choices) (defScope s_Prices_choices) [] [] A18 (PySem.W.fnOf "choices" "Prices.choices" (defArgs s_Prices_choices) (defBody s_Prices_choices) (defScope s_Prices_choices) .none kV18 dc18 pm18 an18 cd18 ct18) :=
    ⟨⟨oc18, od18, .none, kV18, dc18, pm18, an18, cd18, ct18, sl18, rfl, l18, c18, (.inl ⟨rfl, rfl⟩), .inl rfl⟩, k18⟩
  have F19 : FunD K "span_of" "span_of" (defArgs s_span_of) (defBody s_span_of) (defScope s_span_of) [] [] A19 (PySem.W.fnOf "span_of" "span_of" (defArgs s_span_of) (defBody s_span_of) (defScope s_span_of) .none kV19 dc19 pm19 an19 cd19 ct19) :=
    ⟨⟨oc19, od19, .none, kV19, dc19, pm19, an19, cd19, ct19, sl19, rfl, l19, c19, (.inl ⟨rfl, rfl⟩), .inl rfl⟩, k19⟩
  have F20 : FunD K "cheapest" "cheapest" (defArgs s_cheapest) (defBody s_cheapest) (defScope s_cheapest) [] [] A20 (PySem.W.fnOf "cheapest" "cheapest" (defArgs s_cheapest) (defBody s_cheapest) (defScope s_cheapest) .none kV20 dc20 pm20 an20 cd20 ct20) :=
    ⟨⟨oc20, od20, .none, kV20, dc20, pm20, an20, cd20, ct20, sl20, rfl, l20, c20, (.inl ⟨rfl, rfl⟩), .inl rfl⟩, k20⟩
  have F21 : FunD K "_law_bag" "_law_bag" (defArgs s__law_bag) (defBody s__law_bag) (defScope s__law_bag) [] [] A21 (PySem.W.fnOf "_law_bag" "_law_bag" (defArgs s__law_bag) (defBody s__law_bag) (defScope s__law_bag) .none kV21 dc21 pm21 an21 cd21 ct21) :=
    ⟨⟨oc21, od21, .none, kV21, dc21, pm21, an21, cd21, ct21, sl21, rfl, l21, c21, (.inl ⟨rfl, rfl⟩), .inl rfl⟩, k21⟩
  have F22 : FunD K "_law_take" "_law_take" (defArgs s__law_take) (defBody s__law_take) (defScope s__law_take) [] [] A22 (PySem.W.fnOf "_law_take" "_law_take" (defArgs s__law_take) (defBody s__law_take) (defScope s__law_take) .none kV22 dc22 pm22 an22 cd22 ct22) :=
    ⟨⟨oc22, od22, .none, kV22, dc22, pm22, an22, cd22, ct22, sl22, rfl, l22, c22, (.inl ⟨rfl, rfl⟩), .inl rfl⟩, k22⟩
  have F23 : FunD K "_law_one" "_law_one" (defArgs s__law_one) (defBody s__law_one) (defScope s__law_one) [] [] A23 (PySem.W.fnOf "_law_one" "_law_one" (defArgs s__law_one) (defBody s__law_one) (defScope s__law_one) .none kV23 dc23 pm23 an23 cd23 ct23) :=
    ⟨⟨oc23, od23, .none, kV23, dc23, pm23, an23, cd23, ct23, sl23, rfl, l23, c23, (.inl ⟨rfl, rfl⟩), .inl rfl⟩, k23⟩
  have F24 : FunD K "_law_whole" "_law_whole" (defArgs s__law_whole) (defBody s__law_whole) (defScope s__law_whole) [] [] A24 (PySem.W.fnOf "_law_whole" "_law_whole" (defArgs s__law_whole) (defBody s__law_whole) (defScope s__law_whole) .none kV24 dc24 pm24 an24 cd24 ct24) :=
    ⟨⟨oc24, od24, .none, kV24, dc24, pm24, an24, cd24, ct24, sl24, rfl, l24, c24, (.inl ⟨rfl, rfl⟩), .inl rfl⟩, k24⟩
  have F25 : FunD K "_law_symbol" "_law_symbol" (defArgs s__law_symbol) (defBody s__law_symbol) (defScope s__law_symbol) [] [] A25 (PySem.W.fnOf "_law_symbol" "_law_symbol" (defArgs s__law_symbol) (defBody s__law_symbol) (defScope s__law_symbol) .none kV25 dc25 pm25 an25 cd25 ct25) :=
    ⟨⟨oc25, od25, .none, kV25, dc25, pm25, an25, cd25, ct25, sl25, rfl, l25, c25, (.inl ⟨rfl, rfl⟩), .inl rfl⟩, k25⟩
  have F26 : FunD K "_law_size" "_law_size" (defArgs s__law_size) (defBody s__law_size) (defScope s__law_size) [] [] A26 (PySem.W.fnOf "_law_size" "_law_size" (defArgs s__law_size) (defBody s__law_size) (defScope s__law_size) .none kV26 dc26 pm26 an26 cd26 ct26) :=
    ⟨⟨oc26, od26, .none, kV26, dc26, pm26, an26, cd26, ct26, sl26, rfl, l26, c26, (.inl ⟨rfl, rfl⟩), .inl rfl⟩, k26⟩
  have F27 : FunD K "_law_token_bits" "_law_token_bits" (defArgs s__law_token_bits) (defBody s__law_token_bits) (defScope s__law_token_bits) [] [] A27 (PySem.W.fnOf "_law_token_bits" "_law_token_bits" (defArgs s__law_token_bits) (defBody s__law_token_bits) (defScope s__law_token_bits) .none kV27 dc27 pm27 an27 cd27 ct27) :=
    ⟨⟨oc27, od27, .none, kV27, dc27, pm27, an27, cd27, ct27, sl27, rfl, l27, c27, (.inl ⟨rfl, rfl⟩), .inl rfl⟩, k27⟩
  have F28 : FunD K "_law_split" "_law_split" (defArgs s__law_split) (defBody s__law_split) (defScope s__law_split) [] [] A28 (PySem.W.fnOf "_law_split" "_law_split" (defArgs s__law_split) (defBody s__law_split) (defScope s__law_split) .none kV28 dc28 pm28 an28 cd28 ct28) :=
    ⟨⟨oc28, od28, .none, kV28, dc28, pm28, an28, cd28, ct28, sl28, rfl, l28, c28, (.inl ⟨rfl, rfl⟩), .inl rfl⟩, k28⟩
  have F29 : FunD K "_law_trees" "_law_trees" (defArgs s__law_trees) (defBody s__law_trees) (defScope s__law_trees) [] [] A29 (PySem.W.fnOf "_law_trees" "_law_trees" (defArgs s__law_trees) (defBody s__law_trees) (defScope s__law_trees) .none kV29 dc29 pm29 an29 cd29 ct29) :=
    ⟨⟨oc29, od29, .none, kV29, dc29, pm29, an29, cd29, ct29, sl29, rfl, l29, c29, (.inl ⟨rfl, rfl⟩), .inl rfl⟩, k29⟩
  have F30 : FunD K "_law_all_rows" "_law_all_rows" (defArgs s__law_all_rows) (defBody s__law_all_rows) (defScope s__law_all_rows) [] [] A30 (PySem.W.fnOf "_law_all_rows" "_law_all_rows" (defArgs s__law_all_rows) (defBody s__law_all_rows) (defScope s__law_all_rows) .none kV30 dc30 pm30 an30 cd30 ct30) :=
    ⟨⟨oc30, od30, .none, kV30, dc30, pm30, an30, cd30, ct30, sl30, rfl, l30, c30, (.inl ⟨rfl, rfl⟩), .inl rfl⟩, k30⟩
  have F31 : FunD K "_law_cost" "_law_cost" (defArgs s__law_cost) (defBody s__law_cost) (defScope s__law_cost) [] [] A31 (PySem.W.fnOf "_law_cost" "_law_cost" (defArgs s__law_cost) (defBody s__law_cost) (defScope s__law_cost) .none kV31 dc31 pm31 an31 cd31 ct31) :=
    ⟨⟨oc31, od31, .none, kV31, dc31, pm31, an31, cd31, ct31, sl31, rfl, l31, c31, (.inl ⟨rfl, rfl⟩), .inl rfl⟩, k31⟩
  have F32 : FunD K "_law_right" "_law_right" (defArgs s__law_right) (defBody s__law_right) (defScope s__law_right) [] [] A32 (PySem.W.fnOf "_law_right" "_law_right" (defArgs s__law_right) (defBody s__law_right) (defScope s__law_right) .none kV32 dc32 pm32 an32 cd32 ct32) :=
    ⟨⟨oc32, od32, .none, kV32, dc32, pm32, an32, cd32, ct32, sl32, rfl, l32, c32, (.inl ⟨rfl, rfl⟩), .inl rfl⟩, k32⟩
  have F33 : FunD K "law" "law" (defArgs s_law) (defBody s_law) (defScope s_law) [] [] fa (PySem.W.fnOf "law" "law" (defArgs s_law) (defBody s_law) (defScope s_law) .none kV33 dc33 pm33 an33 cd33 ct33) :=
    ⟨⟨oc33, od33, .none, kV33, dc33, pm33, an33, cd33, ct33, sl33, rfl, l33, c33, (.inl ⟨rfl, rfl⟩), .inl rfl⟩, k33⟩
  have T : Txt K mg ⟨A0, (PySem.W.fnOf "is_integer" "is_integer" (defArgs s_is_integer) (defBody s_is_integer) (defScope s_is_integer) .none kV0 dc0 pm0 an0 cd0 ct0),
      A1, (PySem.W.fnOf "in_range" "in_range" (defArgs s_in_range) (defBody s_in_range) (defScope s_in_range) .none kV1 dc1 pm1 an1 cd1 ct1),
      A2, (PySem.W.fnOf "is_byte" "is_byte" (defArgs s_is_byte) (defBody s_is_byte) (defScope s_is_byte) .none kV2 dc2 pm2 an2 cd2 ct2),
      A3, (PySem.W.fnOf "checked_data" "checked_data" (defArgs s_checked_data) (defBody s_checked_data) (defScope s_checked_data) .none kV3 dc3 pm3 an3 cd3 ct3),
      A4, (PySem.W.fnOf "is_token" "is_token" (defArgs s_is_token) (defBody s_is_token) (defScope s_is_token) .none kV4 dc4 pm4 an4 cd4 ct4),
      A5, (PySem.W.fnOf "check_tokens" "check_tokens" (defArgs s_check_tokens) (defBody s_check_tokens) (defScope s_check_tokens) .none kV5 dc5 pm5 an5 cd5 ct5),
      A6, (PySem.W.fnOf "copy_into" "copy_into" (defArgs s_copy_into) (defBody s_copy_into) (defScope s_copy_into) .none kV6 dc6 pm6 an6 cd6 ct6),
      A7, (PySem.W.fnOf "expand" "expand" (defArgs s_expand) (defBody s_expand) (defScope s_expand) .none (.ref KD7) dc7 pm7 an7 cd7 ct7),
      A8, (PySem.W.fnOf "place_in" "place_in" (defArgs s_place_in) (defBody s_place_in) (defScope s_place_in) .none kV8 dc8 pm8 an8 cd8 ct8),
      A9, (PySem.W.fnOf "length_symbol" "length_symbol" (defArgs s_length_symbol) (defBody s_length_symbol) (defScope s_length_symbol) .none kV9 dc9 pm9 an9 cd9 ct9),
      A10, (PySem.W.fnOf "distance_symbol" "distance_symbol" (defArgs s_distance_symbol) (defBody s_distance_symbol) (defScope s_distance_symbol) .none kV10 dc10 pm10 an10 cd10 ct10),
      A11, (PySem.W.fnOf "symbol_bits" "symbol_bits" (defArgs s_symbol_bits) (defBody s_symbol_bits) (defScope s_symbol_bits) .none kV11 dc11 pm11 an11 cd11 ct11),
      A12, (PySem.W.fnOf "equal_lengths" "equal_lengths" (defArgs s_equal_lengths) (defBody s_equal_lengths) (defScope s_equal_lengths) .none kV12 dc12 pm12 an12 cd12 ct12),
      A13, (PySem.W.fnOf "part_bits" "part_bits" (defArgs s_part_bits) (defBody s_part_bits) (defScope s_part_bits) .none kV13 dc13 pm13 an13 cd13 ct13),
      A14, (PySem.W.fnOf "first_of" "first_of" (defArgs s_first_of) (defBody s_first_of) (defScope s_first_of) .none kV14 dc14 pm14 an14 cd14 ct14),
      A15, (PySem.W.fnOf "lesser" "lesser" (defArgs s_lesser) (defBody s_lesser) (defScope s_lesser) .none kV15 dc15 pm15 an15 cd15 ct15),
      A16, (PySem.W.fnOf "__init__" "Prices.__init__" (defArgs s_Prices___init__) (defBody s_Prices___init__) (defScope s_Prices___init__) .none kV16 dc16 pm16 an16 cd16 ct16),
      A17, (PySem.W.fnOf "matches" "Prices.matches" (defArgs s_Prices_matches) (defBody s_Prices_matches) (defScope s_Prices_matches) .none kV17 dc17 pm17 an17 cd17 ct17),
      A18, (PySem.W.fnOf "choices" "Prices.choices" (defArgs s_Prices_choices) (defBody s_Prices_choices) (defScope s_Prices_choices) .none kV18 dc18 pm18 an18 cd18 ct18),
      A19, (PySem.W.fnOf "span_of" "span_of" (defArgs s_span_of) (defBody s_span_of) (defScope s_span_of) .none kV19 dc19 pm19 an19 cd19 ct19),
      A20, (PySem.W.fnOf "cheapest" "cheapest" (defArgs s_cheapest) (defBody s_cheapest) (defScope s_cheapest) .none kV20 dc20 pm20 an20 cd20 ct20),
      A21, (PySem.W.fnOf "_law_bag" "_law_bag" (defArgs s__law_bag) (defBody s__law_bag) (defScope s__law_bag) .none kV21 dc21 pm21 an21 cd21 ct21),
      A22, (PySem.W.fnOf "_law_take" "_law_take" (defArgs s__law_take) (defBody s__law_take) (defScope s__law_take) .none kV22 dc22 pm22 an22 cd22 ct22),
      A23, (PySem.W.fnOf "_law_one" "_law_one" (defArgs s__law_one) (defBody s__law_one) (defScope s__law_one) .none kV23 dc23 pm23 an23 cd23 ct23),
      A24, (PySem.W.fnOf "_law_whole" "_law_whole" (defArgs s__law_whole) (defBody s__law_whole) (defScope s__law_whole) .none kV24 dc24 pm24 an24 cd24 ct24),
      A25, (PySem.W.fnOf "_law_symbol" "_law_symbol" (defArgs s__law_symbol) (defBody s__law_symbol) (defScope s__law_symbol) .none kV25 dc25 pm25 an25 cd25 ct25),
      A26, (PySem.W.fnOf "_law_size" "_law_size" (defArgs s__law_size) (defBody s__law_size) (defScope s__law_size) .none kV26 dc26 pm26 an26 cd26 ct26),
      A27, (PySem.W.fnOf "_law_token_bits" "_law_token_bits" (defArgs s__law_token_bits) (defBody s__law_token_bits) (defScope s__law_token_bits) .none kV27 dc27 pm27 an27 cd27 ct27),
      A28, (PySem.W.fnOf "_law_split" "_law_split" (defArgs s__law_split) (defBody s__law_split) (defScope s__law_split) .none kV28 dc28 pm28 an28 cd28 ct28),
      A29, (PySem.W.fnOf "_law_trees" "_law_trees" (defArgs s__law_trees) (defBody s__law_trees) (defScope s__law_trees) .none kV29 dc29 pm29 an29 cd29 ct29),
      A30, (PySem.W.fnOf "_law_all_rows" "_law_all_rows" (defArgs s__law_all_rows) (defBody s__law_all_rows) (defScope s__law_all_rows) .none kV30 dc30 pm30 an30 cd30 ct30),
      A31, (PySem.W.fnOf "_law_cost" "_law_cost" (defArgs s__law_cost) (defBody s__law_cost) (defScope s__law_cost) .none kV31 dc31 pm31 an31 cd31 ct31),
      A32, (PySem.W.fnOf "_law_right" "_law_right" (defArgs s__law_right) (defBody s__law_right) (defScope s__law_right) .none kV32 dc32 pm32 an32 cd32 ct32),
      fa, (PySem.W.fnOf "law" "law" (defArgs s_law) (defBody s_law) (defScope s_law) .none kV33 dc33 pm33 an33 cd33 ct33),
      KT7_0,
      CPrices,
      tc0,
      tc1,
      tc2,
      tc3,
      KC4,
      tc5,
      KC6,
      KC7,
      KC8⟩ :=
   ⟨F0,
    F0.bindsN fun _ _ _ _ _ _ us hl => match us, hl with | [_], _ => rfl,
    PySem.W.mg_of X G a0,
    F1,
    F1.bindsN fun _ _ _ _ _ _ us hl => match us, hl with | [_, _, _], _ => rfl,
    PySem.W.mg_of X G a1,
    F2,
    F2.bindsN fun _ _ _ _ _ _ us hl => match us, hl with | [_], _ => rfl,
    PySem.W.mg_of X G a2,
    F3,
    F3.bindsN fun _ _ _ _ _ _ us hl => match us, hl with | [_], _ => rfl,
    PySem.W.mg_of X G a3,
    F4,
    F4.bindsN fun _ _ _ _ _ _ us hl => match us, hl with | [_], _ => rfl,
    PySem.W.mg_of X G a4,
    F5,
    F5.bindsN fun _ _ _ _ _ _ us hl => match us, hl with | [_], _ => rfl,
    PySem.W.mg_of X G a5,
    F6,
    F6.bindsN fun _ _ _ _ _ _ us hl => match us, hl with | [_, _], _ => rfl,
    PySem.W.mg_of X G a6,
    F7,
    fun H => .inr ⟨_, #[], kn7_0, kl7_0, rfl, rfl, Nat.zero_le _, .nil⟩,
    PySem.W.mg_of X G a7,
    F8,
    F8.bindsN fun _ _ _ _ _ _ us hl => match us, hl with | [_, _], _ => rfl,
    PySem.W.mg_of X G a8,
    F9,
    F9.bindsN fun _ _ _ _ _ _ us hl => match us, hl with | [_], _ => rfl,
    PySem.W.mg_of X G a9,
    F10,
    F10.bindsN fun _ _ _ _ _ _ us hl => match us, hl with | [_], _ => rfl,
    PySem.W.mg_of X G a10,
    F11,
    F11.bindsN fun _ _ _ _ _ _ us hl => match us, hl with | [_, _], _ => rfl,
    PySem.W.mg_of X G a11,
    F12,
    F12.bindsN fun _ _ _ _ _ _ us hl => match us, hl with | [_], _ => rfl,
    PySem.W.mg_of X G a12,
    F13,
    F13.bindsN fun _ _ _ _ _ _ us hl => match us, hl with | [_, _], _ => rfl,
    PySem.W.mg_of X G a13,
    F14,
    F14.bindsN fun _ _ _ _ _ _ us hl => match us, hl with | [_], _ => rfl,
    PySem.W.mg_of X G a14,
    F15,
    F15.bindsN fun _ _ _ _ _ _ us hl => match us, hl with | [_, _], _ => rfl,
    PySem.W.mg_of X G a15,
    F16,
    F16.bindsN fun _ _ _ _ _ _ us hl => match us, hl with | [_, _, _, _], _ => rfl,
    F17,
    F17.bindsN fun _ _ _ _ _ _ us hl => match us, hl with | [_, _], _ => rfl,
    F18,
    F18.bindsN fun _ _ _ _ _ _ us hl => match us, hl with | [_, _, _, _], _ => rfl,
    F19,
    F19.bindsN fun _ _ _ _ _ _ us hl => match us, hl with | [_], _ => rfl,
    PySem.W.mg_of X G a19,
    F20,
    F20.bindsN fun _ _ _ _ _ _ us hl => match us, hl with | [_, _, _], _ => rfl,
    PySem.W.mg_of X G a20,
    F21,
    F21.bindsN fun _ _ _ _ _ _ us hl => match us, hl with | [_, _], _ => rfl,
    PySem.W.mg_of X G a21,
    F22,
    F22.bindsN fun _ _ _ _ _ _ us hl => match us, hl with | [_, _], _ => rfl,
    PySem.W.mg_of X G a22,
    F23,
    F23.bindsN fun _ _ _ _ _ _ us hl => match us, hl with | [_, _], _ => rfl,
    PySem.W.mg_of X G a23,
    F24,
    F24.bindsN fun _ _ _ _ _ _ us hl => match us, hl with | [_], _ => rfl,
    PySem.W.mg_of X G a24,
    F25,
    F25.bindsN fun _ _ _ _ _ _ us hl => match us, hl with | [_, _, _, _, _], _ => rfl,
    PySem.W.mg_of X G a25,
    F26,
    F26.bindsN fun _ _ _ _ _ _ us hl => match us, hl with | [_, _], _ => rfl,
    PySem.W.mg_of X G a26,
    F27,
    F27.bindsN fun _ _ _ _ _ _ us hl => match us, hl with | [_, _, _], _ => rfl,
    PySem.W.mg_of X G a27,
    F28,
    F28.bindsN fun _ _ _ _ _ _ us hl => match us, hl with | [_, _, _], _ => rfl,
    PySem.W.mg_of X G a28,
    F29,
    F29.bindsN fun _ _ _ _ _ _ us hl => match us, hl with | [_, _], _ => rfl,
    PySem.W.mg_of X G a29,
    F30,
    F30.bindsN fun _ _ _ _ _ _ us hl => match us, hl with | [_, _], _ => rfl,
    PySem.W.mg_of X G a30,
    F31,
    F31.bindsN fun _ _ _ _ _ _ us hl => match us, hl with | [_, _, _], _ => rfl,
    PySem.W.mg_of X G a31,
    F32,
    F32.bindsN fun _ _ _ _ _ _ us hl => match us, hl with | [_, _, _], _ => rfl,
    PySem.W.mg_of X G a32,
    F33,
    F33.bindsN fun _ _ _ _ _ _ us hl => match us, hl with | [_], _ => rfl,
    PySem.W.mg_of X G a33,
    F7.binds0 (ps := sP_expand) 1 (by simp) rfl fun _ _ _ _ _ _ us ks hl hk => match us, ks, hl, hk with | [_], [_], _, _ => ⟨_, _, _, _, _, _, rfl, rfl, rfl⟩,
    PySem.W.mg_of X G co0,
    PySem.W.mg_of X G co1,
    PySem.W.mg_of X G co2,
    PySem.W.mg_of X G co3,
    PySem.W.mg_of X G co4,
    fun H => .inr ⟨_, #[.int 3 kt4_0, .int 4 kt4_1, .int 5 kt4_2, .int 6 kt4_3, .int 7 kt4_4, .int 8 kt4_5, .int 9 kt4_6, .int 10 kt4_7, .int 11 kt4_8, .int 13 kt4_9, .int 15 kt4_10, .int 17 kt4_11, .int 19 kt4_12, .int 23 kt4_13, .int 27 kt4_14, .int 31 kt4_15, .int 35 kt4_16, .int 43 kt4_17, .int 51 kt4_18, .int 59 kt4_19, .int 67 kt4_20, .int 83 kt4_21, .int 99 kt4_22, .int 115 kt4_23, .int 131 kt4_24, .int 163 kt4_25, .int 195 kt4_26, .int 227 kt4_27, .int 258 kt4_28], kcn4, cl4, rfl, rfl, Nat.le_of_ble_eq_true rfl, (.cons ⟨_, rfl⟩ (.cons ⟨_, rfl⟩ (.cons ⟨_, rfl⟩ (.cons ⟨_, rfl⟩ (.cons ⟨_, rfl⟩ (.cons ⟨_, rfl⟩ (.cons ⟨_, rfl⟩ (.cons ⟨_, rfl⟩ (.cons ⟨_, rfl⟩ (.cons ⟨_, rfl⟩ (.cons ⟨_, rfl⟩ (.cons ⟨_, rfl⟩ (.cons ⟨_, rfl⟩ (.cons ⟨_, rfl⟩ (.cons ⟨_, rfl⟩ (.cons ⟨_, rfl⟩ (.cons ⟨_, rfl⟩ (.cons ⟨_, rfl⟩ (.cons ⟨_, rfl⟩ (.cons ⟨_, rfl⟩ (.cons ⟨_, rfl⟩ (.cons ⟨_, rfl⟩ (.cons ⟨_, rfl⟩ (.cons ⟨_, rfl⟩ (.cons ⟨_, rfl⟩ (.cons ⟨_, rfl⟩ (.cons ⟨_, rfl⟩ (.cons ⟨_, rfl⟩ (.cons ⟨_, rfl⟩ .nil)))))))))))))))))))))))))))))⟩,
    PySem.W.mg_of X G co5,
    PySem.W.mg_of X G co6,
    fun H => .inr ⟨_, #[.int 0 kt6_0, .int 0 kt6_1, .int 0 kt6_2, .int 0 kt6_3, .int 0 kt6_4, .int 0 kt6_5, .int 0 kt6_6, .int 0 kt6_7, .int 1 kt6_8, .int 1 kt6_9, .int 1 kt6_10, .int 1 kt6_11, .int 2 kt6_12, .int 2 kt6_13, .int 2 kt6_14, .int 2 kt6_15, .int 3 kt6_16, .int 3 kt6_17, .int 3 kt6_18, .int 3 kt6_19, .int 4 kt6_20, .int 4 kt6_21, .int 4 kt6_22, .int 4 kt6_23, .int 5 kt6_24, .int 5 kt6_25, .int 5 kt6_26, .int 5 kt6_27, .int 0 kt6_28], kcn6, cl6, rfl, rfl, Nat.le_of_ble_eq_true rfl, (.cons ⟨_, rfl⟩ (.cons ⟨_, rfl⟩ (.cons ⟨_, rfl⟩ (.cons ⟨_, rfl⟩ (.cons ⟨_, rfl⟩ (.cons ⟨_, rfl⟩ (.cons ⟨_, rfl⟩ (.cons ⟨_, rfl⟩ (.cons ⟨_, rfl⟩ (.cons ⟨_, rfl⟩ (.cons ⟨_, rfl⟩ (.cons ⟨_, rfl⟩ (.cons ⟨_, rfl⟩ (.cons ⟨_, rfl⟩ (.cons ⟨_, rfl⟩ (.cons ⟨_, rfl⟩ (.cons ⟨_, rfl⟩ (.cons ⟨_, rfl⟩ (.cons ⟨_, rfl⟩ (.cons ⟨_, rfl⟩ (.cons ⟨_, rfl⟩ (.cons ⟨_, rfl⟩ (.cons ⟨_, rfl⟩ (.cons ⟨_, rfl⟩ (.cons ⟨_, rfl⟩ (.cons ⟨_, rfl⟩ (.cons ⟨_, rfl⟩ (.cons ⟨_, rfl⟩ (.cons ⟨_, rfl⟩ .nil)))))))))))))))))))))))))))))⟩,
    PySem.W.mg_of X G co7,
    fun H => .inr ⟨_, #[.int 1 kt7_0, .int 2 kt7_1, .int 3 kt7_2, .int 4 kt7_3, .int 5 kt7_4, .int 7 kt7_5, .int 9 kt7_6, .int 13 kt7_7, .int 17 kt7_8, .int 25 kt7_9, .int 33 kt7_10, .int 49 kt7_11, .int 65 kt7_12, .int 97 kt7_13, .int 129 kt7_14, .int 193 kt7_15, .int 257 kt7_16, .int 385 kt7_17, .int 513 kt7_18, .int 769 kt7_19, .int 1025 kt7_20, .int 1537 kt7_21, .int 2049 kt7_22, .int 3073 kt7_23, .int 4097 kt7_24, .int 6145 kt7_25, .int 8193 kt7_26, .int 12289 kt7_27, .int 16385 kt7_28, .int 24577 kt7_29], kcn7, cl7, rfl, rfl, Nat.le_of_ble_eq_true rfl, (.cons ⟨_, rfl⟩ (.cons ⟨_, rfl⟩ (.cons ⟨_, rfl⟩ (.cons ⟨_, rfl⟩ (.cons ⟨_, rfl⟩ (.cons ⟨_, rfl⟩ (.cons ⟨_, rfl⟩ (.cons ⟨_, rfl⟩ (.cons ⟨_, rfl⟩ (.cons ⟨_, rfl⟩ (.cons ⟨_, rfl⟩ (.cons ⟨_, rfl⟩ (.cons ⟨_, rfl⟩ (.cons ⟨_, rfl⟩ (.cons ⟨_, rfl⟩ (.cons ⟨_, rfl⟩ (.cons ⟨_, rfl⟩ (.cons ⟨_, rfl⟩ (.cons ⟨_, rfl⟩ (.cons ⟨_, rfl⟩ (.cons ⟨_, rfl⟩ (.cons ⟨_, rfl⟩ (.cons ⟨_, rfl⟩ (.cons ⟨_, rfl⟩ (.cons ⟨_, rfl⟩ (.cons ⟨_, rfl⟩ (.cons ⟨_, rfl⟩ (.cons ⟨_, rfl⟩ (.cons ⟨_, rfl⟩ (.cons ⟨_, rfl⟩ .nil))))))))))))))))))))))))))))))⟩,
    PySem.W.mg_of X G co8,
    fun H => .inr ⟨_, #[.int 0 kt8_0, .int 0 kt8_1, .int 0 kt8_2, .int 0 kt8_3, .int 1 kt8_4, .int 1 kt8_5, .int 2 kt8_6, .int 2 kt8_7, .int 3 kt8_8, .int 3 kt8_9, .int 4 kt8_10, .int 4 kt8_11, .int 5 kt8_12, .int 5 kt8_13, .int 6 kt8_14, .int 6 kt8_15, .int 7 kt8_16, .int 7 kt8_17, .int 8 kt8_18, .int 8 kt8_19, .int 9 kt8_20, .int 9 kt8_21, .int 10 kt8_22, .int 10 kt8_23, .int 11 kt8_24, .int 11 kt8_25, .int 12 kt8_26, .int 12 kt8_27, .int 13 kt8_28, .int 13 kt8_29], kcn8, cl8, rfl, rfl, Nat.le_of_ble_eq_true rfl, (.cons ⟨_, rfl⟩ (.cons ⟨_, rfl⟩ (.cons ⟨_, rfl⟩ (.cons ⟨_, rfl⟩ (.cons ⟨_, rfl⟩ (.cons ⟨_, rfl⟩ (.cons ⟨_, rfl⟩ (.cons ⟨_, rfl⟩ (.cons ⟨_, rfl⟩ (.cons ⟨_, rfl⟩ (.cons ⟨_, rfl⟩ (.cons ⟨_, rfl⟩ (.cons ⟨_, rfl⟩ (.cons ⟨_, rfl⟩ (.cons ⟨_, rfl⟩ (.cons ⟨_, rfl⟩ (.cons ⟨_, rfl⟩ (.cons ⟨_, rfl⟩ (.cons ⟨_, rfl⟩ (.cons ⟨_, rfl⟩ (.cons ⟨_, rfl⟩ (.cons ⟨_, rfl⟩ (.cons ⟨_, rfl⟩ (.cons ⟨_, rfl⟩ (.cons ⟨_, rfl⟩ (.cons ⟨_, rfl⟩ (.cons ⟨_, rfl⟩ (.cons ⟨_, rfl⟩ (.cons ⟨_, rfl⟩ (.cons ⟨_, rfl⟩ .nil))))))))))))))))))))))))))))))⟩,
    PySem.W.mg_none_of X G z_isinstance,
    PySem.W.mg_none_of X G z_int,
    PySem.W.mg_none_of X G z_bool,
    PySem.W.mg_none_of X G z_enumerate,
    PySem.W.mg_none_of X G z_list,
    PySem.W.mg_none_of X G z_len,
    PySem.W.mg_none_of X G z_tuple,
    PySem.W.mg_none_of X G z_range,
    PySem.W.mg_none_of X G z_min,
    PySem.W.mg_none_of X G z_abs,
    PySem.W.mg_none_of X G z_sorted,
    PySem.W.mg_none_of X G z_set,
    PySem.W.mg_none_of X G z_sum,
    PySem.W.mg_none_of X G z_max,
    PySem.W.mg_of X G yg_Prices,
    ⟨ypg_Prices, yhd_Prices, ypo_Prices, ysa_Prices⟩,
    yf_literals_Prices,
    yf_span_costs_Prices,
    yf_far_costs_Prices,
    ⟨ymk_Prices, a16, u16, ykc_Prices⟩,
    ⟨a17, u17, k17⟩,
    ⟨a18, u18, k18⟩⟩
  exact ⟨_, fun s v => F33.bindsA (ps := ["_law_script"]) (fun _ _ _ _ _ _ us hl => match us, hl with | [_], _ => rfl) s [v] rfl, fun base _ _ => ok_law T⟩
theorem walk {l : PySem.W.OpenLaw} {q : Program} {loose : List Str} {XP : (Str → Option Value) → Heap → Prop} {YP : World → Heap → Prop} {d : DefRec} {K : Params → PySem.W.Frag}
    (hn : l.most = some 63) (hdf : d.params.defaults = []) (hY : ∀ (w : World) (h : Heap), YP w h → (K w.params).In h)
    (F : ∀ (w : World) (mg : Str → Option Value) (fa : Addr) (h : Heap), (K w.params).In h → h.Ns mainGlobals mg → mg d.name = some (.ref fa) →
      ∃ fd : FuncData, (∀ (s : Shared) (u : Value), BindsTo s fd ⟨[u], []⟩ [("_law_script", u)]) ∧
        ∀ base : Heap, (K w.params).In base → base.Ns mainGlobals mg → FnG l.prog w (K w.params) mg base 13 fa fd ["_law_script"] (spLaw (K w.params))) :
    PySem.W.WalkO q loose XP YP l.row.toRowW d [] (fun f vs => PySem.call f vs) :=
  walk_G (n := 63) (k := 13) (x := "_law_script") (sp := fun w => spLaw (K w.params)) hn (by decide) hdf ⟨rfl, by decide, by decide⟩ hY F
    (fun _ _ a ns hl _ hS => ⟨a, ns, rfl, hS, hl, fun _ => rfl⟩)
end Z
open PySem PySem.W PyProof.Rows
set_option maxRecDepth 100000 in
set_option maxHeartbeats 0 in
theorem PySem.Challenge.cw_deflatehall_k22_whole_no_tokens_are_chea_holds : PySem.Challenge.rw_deflatehall_k22_whole_no_tokens_are_chea.Holds := by
  w_on; o_law; k_head; (case hw => w_witness2)
  k_fill
  refine Z.walk (l := PySem.Challenge.rw_deflatehall_k22_whole_no_tokens_are_chea) rfl rfl (fun w h Y => PySem.W.kIn_of Y) ?F
  case F =>
    intro w mg fa h KX G hmg
    refine' Z.all_mk KX G hmg ?a0 ?l0 ?c0 ?k0 ?a1 ?l1 ?c1 ?k1 ?a2 ?l2 ?c2 ?k2 ?a3 ?l3 ?c3 ?k3 ?a4 ?l4 ?c4 ?k4 ?a5 ?l5 ?c5 ?k5 ?a6 ?l6 ?c6 ?k6 ?a7 ?l7 ?kx7_0 ?kl7_0 ?c7 ?k7 ?a8 ?l8 ?c8 ?k8 ?a9 ?l9 ?c9 ?k9 ?a10 ?l10 ?c10 ?k10 ?a11 ?l11 ?c11 ?k11 ?a12 ?l12 ?c12 ?k12 ?a13 ?l13 ?c13 ?k13 ?a14 ?l14 ?c14 ?k14 ?a15 ?l15 ?c15 ?k15 ?yg_Prices ?ypg_Prices ?yhd_Prices ?ypo_Prices ?ysa_Prices ?ymk_Prices ?ykc_Prices ?yf_literals_Prices ?yf_span_costs_Prices ?yf_far_costs_Prices ?a16 ?u16 ?l16 ?c16 ?k16 ?a17 ?u17 ?l17 ?c17 ?k17 ?a18 ?u18 ?l18 ?c18 ?k18 ?a19 ?l19 ?c19 ?k19 ?a20 ?l20 ?c20 ?k20 ?a21 ?l21 ?c21 ?k21 ?a22 ?l22 ?c22 ?k22 ?a23 ?l23 ?c23 ?k23 ?a24 ?l24 ?c24 ?k24 ?a25 ?l25 ?c25 ?k25 ?a26 ?l26 ?c26 ?k26 ?a27 ?l27 ?c27 ?k27 ?a28 ?l28 ?c28 ?k28 ?a29 ?l29 ?c29 ?k29 ?a30 ?l30 ?c30 ?k30 ?a31 ?l31 ?c31 ?k31 ?a32 ?l32 ?c32 ?k32 ?a33 ?l33 ?c33 ?k33 ?co0 ?co1 ?co2 ?co3 ?co4 ?cl4 ?co5 ?co6 ?cl6 ?co7 ?cl7 ?co8 ?cl8 ?z_isinstance ?z_int ?z_bool ?z_enumerate ?z_list ?z_len ?z_tuple ?z_range ?z_min ?z_abs ?z_sorted ?z_set ?z_sum ?z_max
    (case a0 => k_is)
    (case l0 => k_is)
    (case c0 => k_is)
    (case k0 => k_is)
    (case a1 => k_is)
    (case l1 => k_is)
    (case c1 => k_is)
    (case k1 => k_is)
    (case a2 => k_is)
    (case l2 => k_is)
    (case c2 => k_is)
    (case k2 => k_is)
    (case a3 => k_is)
    (case l3 => k_is)
    (case c3 => k_is)
    (case k3 => k_is)
    (case a4 => k_is)
    (case l4 => k_is)
    (case c4 => k_is)
    (case k4 => k_is)
    (case a5 => k_is)
    (case l5 => k_is)
    (case c5 => k_is)
    (case k5 => k_is)
    (case a6 => k_is)
    (case l6 => k_is)
    (case c6 => k_is)
    (case k6 => k_is)
    (case a7 => k_is)
    (case l7 => k_is)
    (case kx7_0 => k_is)
    (case kl7_0 => k_is)
    (case c7 => k_is)
    (case k7 => k_is)
    (case a8 => k_is)
    (case l8 => k_is)
    (case c8 => k_is)
    (case k8 => k_is)
    (case a9 => k_is)
    (case l9 => k_is)
    (case c9 => k_is)
    (case k9 => k_is)
    (case a10 => k_is)
    (case l10 => k_is)
    (case c10 => k_is)
    (case k10 => k_is)
    (case a11 => k_is)
    (case l11 => k_is)
    (case c11 => k_is)
    (case k11 => k_is)
    (case a12 => k_is)
    (case l12 => k_is)
    (case c12 => k_is)
    (case k12 => k_is)
    (case a13 => k_is)
    (case l13 => k_is)
    (case c13 => k_is)
    (case k13 => k_is)
    (case a14 => k_is)
    (case l14 => k_is)
    (case c14 => k_is)
    (case k14 => k_is)
    (case a15 => k_is)
    (case l15 => k_is)
    (case c15 => k_is)
    (case k15 => k_is)
    (case yg_Prices => k_is)
    (case ypg_Prices => k_is)
    (case yhd_Prices => k_is)
    (case ypo_Prices => k_is)
    (case ysa_Prices => k_is)
    (case ymk_Prices => k_is)
    (case ykc_Prices => k_is)
    (case yf_literals_Prices => k_is)
    (case yf_span_costs_Prices => k_is)
    (case yf_far_costs_Prices => k_is)
    (case a16 => k_is)
    (case u16 => k_is)
    (case l16 => k_is)
    (case c16 => k_is)
    (case k16 => k_is)
    (case a17 => k_is)
    (case u17 => k_is)
    (case l17 => k_is)
    (case c17 => k_is)
    (case k17 => k_is)
    (case a18 => k_is)
    (case u18 => k_is)
    (case l18 => k_is)
    (case c18 => k_is)
    (case k18 => k_is)
    (case a19 => k_is)
    (case l19 => k_is)
    (case c19 => k_is)
    (case k19 => k_is)
    (case a20 => k_is)
    (case l20 => k_is)
    (case c20 => k_is)
    (case k20 => k_is)
    (case a21 => k_is)
    (case l21 => k_is)
    (case c21 => k_is)
    (case k21 => k_is)
    (case a22 => k_is)
    (case l22 => k_is)
    (case c22 => k_is)
    (case k22 => k_is)
    (case a23 => k_is)
    (case l23 => k_is)
    (case c23 => k_is)
    (case k23 => k_is)
    (case a24 => k_is)
    (case l24 => k_is)
    (case c24 => k_is)
    (case k24 => k_is)
    (case a25 => k_is)
    (case l25 => k_is)
    (case c25 => k_is)
    (case k25 => k_is)
    (case a26 => k_is)
    (case l26 => k_is)
    (case c26 => k_is)
    (case k26 => k_is)
    (case a27 => k_is)
    (case l27 => k_is)
    (case c27 => k_is)
    (case k27 => k_is)
    (case a28 => k_is)
    (case l28 => k_is)
    (case c28 => k_is)
    (case k28 => k_is)
    (case a29 => k_is)
    (case l29 => k_is)
    (case c29 => k_is)
    (case k29 => k_is)
    (case a30 => k_is)
    (case l30 => k_is)
    (case c30 => k_is)
    (case k30 => k_is)
    (case a31 => k_is)
    (case l31 => k_is)
    (case c31 => k_is)
    (case k31 => k_is)
    (case a32 => k_is)
    (case l32 => k_is)
    (case c32 => k_is)
    (case k32 => k_is)
    (case a33 => k_is)
    (case l33 => k_is)
    (case c33 => k_is)
    (case k33 => k_is)
    (case co0 => k_is)
    (case co1 => k_is)
    (case co2 => k_is)
    (case co3 => k_is)
    (case co4 => k_is)
    (case cl4 => k_is)
    (case co5 => k_is)
    (case co6 => k_is)
    (case cl6 => k_is)
    (case co7 => k_is)
    (case cl7 => k_is)
    (case co8 => k_is)
    (case cl8 => k_is)
    (case z_isinstance => k_is)
    (case z_int => k_is)
    (case z_bool => k_is)
    (case z_enumerate => k_is)
    (case z_list => k_is)
    (case z_len => k_is)
    (case z_tuple => k_is)
    (case z_range => k_is)
    (case z_min => k_is)
    (case z_abs => k_is)
    (case z_sorted => k_is)
    (case z_set => k_is)
    (case z_sum => k_is)
    (case z_max => k_is)
