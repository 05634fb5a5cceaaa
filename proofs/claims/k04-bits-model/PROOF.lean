import PyProof.Rows.All
import Wide.All
import OpenK.AllK
import Wide.FinOn
import HandS.ForMost
import HandS.Defaults
import HandS.IsInst
import HandS.TupAny
import HandS.Codes
import HandS.Wide
import HandS.Walk
import HandS.More
import KE.GoesMore
import HandS.SetFor
import HandS.Strs
import HandS.ExcInit
import HandS.ExcField
import HandS.ExcIs
import HandS.WordsExc
import HandS.ExcOwn
import KE.KExcInit
import HandS.ClsMeth
import HandS.Star
import KE.KCallOwn
import KE.KFmtOwn
import OpenK.KMeth
import OpenK.KOps
import PyProof.InstEq
import HandS.SortRule
import HandS.Style
import HandS.Iter
import HandS.TupLen
import HandS.TupMul
import KE.KDictDisplayH
import HandS.Text
import PyProof.SliceStr2
import HandS.MakeKw
import HandS.Lambda
import HandS.EndTab
import KE.KNest
import HandS.EndBits
import HandS.FStr
import HandS.Steps
import HandS.Records
import PyProof.Rows.Range3
import KE.SortData
import PyProof.ListIndex
import HandS.SortKw
import HandS.CallLocal
import KE.KDictKeyed
import HandS.TupSets
import KE.DataMinKey
import PyProof.WalksMore
import HandS.DictComp
import HandS.Conv
import HandS.Flow
import HandS.GenList
import PySem.Challenge.RW_deflatehall_k04_whole_bits_by_a_model
set_option Elab.async false
set_option linter.all false
set_option maxRecDepth 100000
set_option maxHeartbeats 4000000
/-! Ghost heaps over the hand layer: what stands for good (G), what may change (W). -/
namespace Z
open PySem PySem.Spec PyProof.Rows L2

/-- it is o -/
def Is (o : HO) : HO → Prop := fun x => x = o
/-- what may change: an address, and what holds of the object there -/
abbrev Wl := List (Addr × (HO → Prop))
structure Wd (G : Hp) (W : Wl) (H : Hp) : Prop where
  ex : Same G H
  own : ∀ p ∈ W, G p.1 = none ∧ ∃ o, H p.1 = some o ∧ p.2 o
  nd : (W.map (·.1)).Nodup

theorem same_upd {H : Hp} {p : Addr} {o : HO} (h : H p = none) : Same H (upd H p o) := fun a u e => by
  rw [upd_ne (ne_of_none e h)]
  exact e
section
variable {G G' H H' : Hp} {W W1 W2 : Wl} {a p : Addr} {o : HO} {P P' : HO → Prop}
theorem Wd.free (w : Wd G W H) (h : H p = none) : G p = none := w.ex.free h
theorem Wd.ext (w : Wd G W H) (e : Same H H') : Wd G W H' :=
  ⟨w.ex.trans e, fun q hq => ⟨(w.own q hq).1, let ⟨o, h1, h2⟩ := (w.own q hq).2; ⟨o, e _ _ h1, h2⟩⟩, w.nd⟩
theorem Wd.at (w : Wd G W H) (h : G a = some o) : H a = some o := w.ex _ _ h
theorem Wd.neOwn (w : Wd G W H) (hp : H p = none) {q : Addr × (HO → Prop)} (hq : q ∈ W) : q.1 ≠ p := by
  obtain ⟨_, o, h, _⟩ := w.own q hq
  exact ne_of_none h hp
/-- a new object that stands for good -/
theorem Wd.new (w : Wd G W H) (hp : H p = none) : Wd (upd G p o) W (upd H p o) := by
  refine ⟨fun b u e => ?_, fun q hq => ?_, w.nd⟩
  · by_cases hb : b = p
    · subst hb
      rw [upd_same] at e ⊢
      exact e
    · rw [upd_ne hb] at e ⊢
      exact w.ex _ _ e
  · have hn := w.neOwn hp hq
    rw [upd_ne hn, upd_ne hn]
    exact w.own q hq
/-- a new object that may change -/
theorem Wd.newM (w : Wd G W H) (hp : H p = none) (h : P o) : Wd G ((p, P) :: W) (upd H p o) := by
  refine ⟨w.ex.trans (same_upd hp), fun q hq => ?_, ?_⟩
  · rcases List.mem_cons.mp hq with rfl | hq
    · exact ⟨w.free hp, o, upd_same, h⟩
    · have hn := w.neOwn hp hq
      rw [upd_ne hn]
      exact w.own q hq
  · rw [List.map_cons, List.nodup_cons]
    refine ⟨fun hm => ?_, w.nd⟩
    obtain ⟨q, hq, e⟩ := List.mem_map.mp hm
    exact w.neOwn hp hq e
theorem mem_mid {α : Type} {A B : List α} {x : α} : x ∈ A ++ x :: B := List.mem_append_right _ List.mem_cons_self
/-- the object at a changes -/
theorem Wd.put (w : Wd G (W1 ++ (a, P) :: W2) H) (h : P' o) : Wd G (W1 ++ (a, P') :: W2) (upd H a o) := by
  have h0 := w.own (a, P) mem_mid
  have nd : ((W1 ++ (a, P) :: W2).map (·.1)).Nodup := w.nd
  rw [List.map_append, List.map_cons, List.nodup_append] at nd
  obtain ⟨n1, n2, n3⟩ := nd
  rw [List.nodup_cons] at n2
  refine ⟨fun b u e => ?_, fun q hq => ?_, ?_⟩
  · have hb : b ≠ a := ne_of_none e h0.1
    rw [upd_ne hb]
    exact w.ex _ _ e
  · rcases List.mem_append.mp hq with hq | hq
    · have hn : q.1 ≠ a := fun z => n3 _ (List.mem_map.mpr ⟨q, hq, z⟩) _ List.mem_cons_self rfl
      rw [upd_ne hn]
      exact w.own q (List.mem_append_left _ hq)
    · rcases List.mem_cons.mp hq with rfl | hq
      · exact ⟨h0.1, o, upd_same, h⟩
      · have hn : q.1 ≠ a := fun z => n2.1 (List.mem_map.mpr ⟨q, hq, z⟩)
        rw [upd_ne hn]
        exact w.own q (List.mem_append_right _ (List.mem_cons_of_mem _ hq))
  · rw [List.map_append, List.map_cons, List.nodup_append]
    exact ⟨n1, List.nodup_cons.mpr n2, n3⟩
/-- what holds there always is kept -/
theorem Wd.put' (w : Wd G W H) (hm : (a, P) ∈ W) (h : P o) : Wd G W (upd H a o) := by
  obtain ⟨A, B, rfl⟩ := List.append_of_mem hm
  exact w.put h
theorem Wd.putI (w : Wd G (W1 ++ (a, P) :: W2) H) : Wd G (W1 ++ (a, Is o) :: W2) (upd H a o) := w.put rfl
/-- the first one changes -/
theorem Wd.put1 (w : Wd G ((a, P) :: W) H) : Wd G ((a, Is o) :: W) (upd H a o) := Wd.putI (W1 := []) w
theorem Wd.get (w : Wd G W H) (hm : (a, P) ∈ W) : ∃ o, H a = some o ∧ P o := (w.own _ hm).2
theorem Wd.drop (w : Wd G (W1 ++ (a, P) :: W2) H) : Wd G (W1 ++ W2) H := by
  refine ⟨w.ex, fun q hq => w.own q ?_, ?_⟩
  · rcases List.mem_append.mp hq with hq | hq
    · exact List.mem_append_left _ hq
    · exact List.mem_append_right _ (List.mem_cons_of_mem _ hq)
  · have nd := w.nd
    rw [List.map_append, List.map_cons] at nd
    rw [List.map_append]
    exact nd.sublist (List.Sublist.append_left (List.sublist_cons_self _ _) _)
theorem Wd.drop1 (w : Wd G ((a, P) :: W) H) : Wd G W H := Wd.drop (W1 := []) w
/-- what does not change any more stands for good -/
theorem Wd.freeze (w : Wd G (W1 ++ (a, P) :: W2) H) : ∃ o, P o ∧ H a = some o ∧ Same G (upd G a o) ∧ Wd (upd G a o) (W1 ++ W2) H := by
  obtain ⟨g, o, h, ho⟩ := w.own (a, P) mem_mid
  have nd : ((W1 ++ (a, P) :: W2).map (·.1)).Nodup := w.nd
  rw [List.map_append, List.map_cons, List.nodup_append] at nd
  obtain ⟨n1, n2, n3⟩ := nd
  rw [List.nodup_cons] at n2
  refine ⟨o, ho, h, same_upd g, fun b u e => ?_, fun q hq => ?_, w.drop.nd⟩
  · by_cases hb : b = a
    · subst hb
      rw [upd_same] at e
      cases e
      exact h
    · rw [upd_ne hb] at e
      exact w.ex _ _ e
  · have hn : q.1 ≠ a := by
      rcases List.mem_append.mp hq with hq | hq
      · exact fun z => n3 _ (List.mem_map.mpr ⟨q, hq, z⟩) _ List.mem_cons_self rfl
      · exact fun z => n2.1 (List.mem_map.mpr ⟨q, hq, z⟩)
    rw [upd_ne hn]
    refine w.own q ?_
    rcases List.mem_append.mp hq with hq | hq
    · exact List.mem_append_left _ hq
    · exact List.mem_append_right _ (List.mem_cons_of_mem _ hq)
theorem Wd.freeze1 (w : Wd G ((a, P) :: W) H) : ∃ o, P o ∧ H a = some o ∧ Same G (upd G a o) ∧ Wd (upd G a o) W H := Wd.freeze (W1 := []) w
theorem Wd.imp (w : Wd G (W1 ++ (a, P) :: W2) H) (h : ∀ o, P o → P' o) : Wd G (W1 ++ (a, P') :: W2) H := by
  have h0 := w.own (a, P) mem_mid
  refine ⟨w.ex, fun q hq => ?_, ?_⟩
  · rcases List.mem_append.mp hq with hq | hq
    · exact w.own q (List.mem_append_left _ hq)
    · rcases List.mem_cons.mp hq with rfl | hq
      · obtain ⟨g, o, e, ho⟩ := h0
        exact ⟨g, o, e, h _ ho⟩
      · exact w.own q (List.mem_append_right _ (List.mem_cons_of_mem _ hq))
  · have nd := w.nd
    rw [List.map_append, List.map_cons] at nd ⊢
    exact nd
theorem Wd.perm {V' : Wl} (w : Wd G W H) (h : W.Perm V') : Wd G V' H :=
  ⟨w.ex, fun q hq => w.own q (h.mem_iff.mpr hq), (h.map _).nodup_iff.mp w.nd⟩
end

/-! ### data -/
section
variable {K : PySem.W.Frag} {G G' : Hp}
theorem seqT {a : Addr} {xs : List V} (e : Same G G') (h : SqT K G a xs) : SqT K G' a xs := by
  rcases h with (h | ⟨o, h⟩) | h
  · exact .inl (.inl (e _ _ h))
  · exact .inl (.inr ⟨o, e _ _ h⟩)
  · exact .inr h
mutual
theorem dmono (e : Same G G') : ∀ {d : PyData} {v : V}, Dp K G v d → Dp K G' v d
  | _, _, .non => .non
  | _, _, .bl b => .bl b
  | _, _, .int i => .int i
  | _, _, .str x => .str x
  | _, _, .lst h r => .lst (e.seq h) (dmonoAll e r)
  | _, _, .tup h r => .tup (seqT e h) (dmonoAll e r)
theorem dmonoAll (e : Same G G') : ∀ {ds : List PyData} {vs : List V}, DpAll K G vs ds → DpAll K G' vs ds
  | _, _, .nil => .nil
  | _, _, .cons h r => .cons (dmono e h) (dmonoAll e r)
end
end

/-! ### how arguments bind -/
theorem bAll {K : PySem.W.Frag} {fd : FuncData} {ps : List Str} (h : ∃ ds, Vals ([] : List V) ds ∧ Binds K fd ps ds) : Binds K fd ps [] := by
  obtain ⟨ds, r, b⟩ := h
  cases r
  exact b
theorem valsGet {vs : List V} {us : List Value} (r : Vals vs us) (i : Nat) : L2.RelV (vs.getD i .non) (us.getD i .none) := by
  induction r generalizing i with
  | nil => exact rfl
  | cons h t ih =>
    cases i with
    | zero => simpa using h
    | succ i => simpa using ih i
section
variable {K : PySem.W.Frag} {x qual : Str} {params : Arguments} {body : List Stmt} {scope : Scope} {dvs : List V} {f : Addr} {fd : FuncData} {ps ks : List Str} {n : Nat}
theorem kbnN (F : FunD K x qual params body scope [] [] f fd) (g : List Value → List Value → List Value) {gV : List V → List V → List V}
    (rel : ∀ {vs : List V} {us : List Value} {zs : List V} {ws : List Value}, Vals vs us → Vals zs ws → Vals (gV vs zs) (g us ws))
    (h : ∀ (kV doc pm : Value) (an : Option Addr) (cdv ct : Value) (us ws : List Value), us.length = n → ws.length = ks.length →
      bindArgs (PySem.W.fnOf x qual params body scope .none kV doc pm an cdv ct) ⟨us, ks.zip ws⟩ = pure (ps.zip (g us ws))) : KBn K fd ps n ks g gV := by
  obtain ⟨oc, od, dV, kV, doc, pm, an, cdv, ct, osl, rfl, lk, hcd, hD, hK⟩ := F.ex
  rcases hD with ⟨_, rfl⟩ | ⟨e, _⟩
  · exact ⟨fun s us ws _ l1 l2 => .of_eq (h kV doc pm an cdv ct us ws l1 l2), rel⟩
  · exact absurd rfl e
theorem kbnD (F : FunD K x qual params body scope dvs [] f fd) (hd : dvs ≠ []) (g : List Value → List Value → List Value → List Value) {gV : List V → List V → List V}
    (rel : ∀ {vs : List V} {us : List Value} {its : List Value} {zs : List V} {ws : List Value}, Vals vs us → Vals dvs its → Vals zs ws → Vals (gV vs zs) (g us its ws))
    (h : ∀ (T : Addr) (kV doc pm : Value) (an : Option Addr) (cdv ct : Value) (us its ws : List Value), us.length = n → its.length = dvs.length → ws.length = ks.length →
      ∃ k, bindArgs (PySem.W.fnOf x qual params body scope (.ref T) kV doc pm an cdv ct) ⟨us, ks.zip ws⟩ = seqItems? (.ref T) >>= k ∧ k (some its.toArray) = pure (ps.zip (g us its ws))) : ∃ g', KBn K fd ps n ks g' gV := by
  obtain ⟨oc, od, dV, kV, doc, pm, an, cdv, ct, osl, rfl, lk, hcd, hD, hK⟩ := F.ex
  rcases hD with ⟨e, _⟩ | ⟨_, T, o, its, m, rfl, lT, oT, rT⟩
  · exact absurd e hd
  · refine ⟨fun us ws => g us its ws, fun s us ws X l1 l2 => ?_, fun r1 r3 => rel r1 rT r3⟩
    obtain ⟨k, e1, e2⟩ := h T kV doc pm an cdv ct us its ws l1 rT.length.symm l2
    refine BindsTo.of_looks fun M => ?_
    rw [e1]
    exact looks_items X lT oT (.of_pure e2)
end
section
variable {X : Cx} {CX : CXT} {k n : Nat} {f : Addr} {fd : FuncData} {ps ks : List Str} {sp : Sp} {E : XK} {x : Str} {p pos : Pos} {kws : List Keyword} {tk : TA} {g : List Value → List Value → List Value} {gV : List V → List V → List V}
/-- f(k = v, ..): keywords alone -/
theorem pe_callN0 (F : FnOk X.prog X.w X.K X.mg X.base CX k f fd ps sp) (hr : Room k X.A) (hg : Gl X x) (hm : X.mg x = some (.ref f)) (hk : PySem.W.keepIn X.K (.ref f) = true) (hb : KBn X.K fd ps 0 ks g gV) (hx : Passes CX X E)
    (hkw : PK X kws tk) (hall : (backToKw pos (keywordEach kws X.env)).all (·.1.isSome) = true := by rfl) (hks : (backToKw pos (keywordEach kws X.env)).filterMap (·.1) = ks := by rfl)
    (hdb : (x == ("__debug__" : Str)) = false := by decide) (hpl : ((backTo pos (starEach [] X.env)).any (·.1) || (backToKw pos (keywordEach kws X.env)).any (·.1.isNone)) = false := by rfl) :
    PE X (.Call (.Name x p) [] kws pos) (tCallN 0 ks.length sp gV E tNil tk) := by
  refine ⟨fun pins s σ H Q I h => wpAny_Call_Name_kw (ld_glob I hg hm ?_ hdb)⟩
  refine PySem.W.callWith_KW0 (h₀ := X.base) I.ok.mod.kin hk hall (thn (hkw.run pos pins _ σ H _ (I.tok _) h) fun ws s2 ⟨zs, H2, I2, rz, l1, l2, q2⟩ => ⟨I2.kIn, ?_⟩) hpl
  rw [hks]
  exact run_fnN (us := []) (vs := []) F hr hb hx I2 .nil rz rfl l2 q2
end
section
variable {X : Cx}
def CPowW (i j : Int) : Prop := 0 ≤ j ∧ (Builtin.Int.intBits i : Int) * j ≤ 2 ^ 27
theorem op_powW : OpR X (binaryOp .Pow) (rI CPowW fun i j => .int (i ^ j.toNat)) := opI fun _ _ _ _ _ _ _ hc q => PyProof.Rows.pow_int hc.1 hc.2 q
end

/-! ### readings, step by step (what is asked, from the left) -/
section
variable {K : PySem.W.Frag} {σ : L2.St} {H : Hp} {Q : VK} {D : Ends} {i : Nat} {v x y : V} {ta tb te : TE} {t u : TS} {tt tu : TT} {QT : Bool → Hp → Prop} {QA : List V → Hp → Prop} {QS nx bk ct : L2.St → Hp → Prop} {rt : VK} {r : R2} {tr : TA} {xs : List V}
theorem st_var (h : σ[i]? = some (some v)) (q : Q v H) : tVar i σ H Q := ⟨v, h, q⟩
theorem st_c (q : Q v H) : tC v σ H Q := q
theorem st_op (h : ta σ H fun x H1 => tb σ H1 fun y H2 => r x y H2 Q) : tOp r ta tb σ H Q := h
theorem st_un {r : V → Hp → VK → Prop} (h : ta σ H fun x H1 => r x H1 Q) : tUn r ta σ H Q := h
theorem st_i0 {g : Int → Int → V} {a b : Int} (q : Q (g a b) H) : rI0 g (.int a) (.int b) H Q := ⟨a, b, rfl, rfl, q⟩
theorem st_i {C : Int → Int → Prop} {g : Int → Int → V} {a b : Int} (c : C a b) (q : Q (g a b) H) : rI C g (.int a) (.int b) H Q := ⟨a, b, rfl, rfl, c, q⟩
theorem st_u {g : Int → V} {a : Int} (q : Q (g a) H) : rU g (.int a) H Q := ⟨a, rfl, q⟩
theorem st_eq (h : scal x y = true) (q : Q (.bl (decide (x = y))) H) : rEq x y H Q := ⟨h, q⟩
theorem st_ne (h : scal x y = true) (q : Q (.bl (!decide (x = y))) H) : rNe x y H Q := ⟨h, q⟩
theorem st_test (h : te σ H fun x H1 => ∃ k, x = .bl k ∧ QT k H1) : tTest te σ H QT := h
theorem st_tB (h : te σ H fun x H1 => ∃ k, x = .bl k ∧ QT k H1) : tB te σ H QT := h
theorem st_bl {b : Bool} {P : Bool → Prop} (q : P b) : ∃ k, V.bl b = .bl k ∧ P k := ⟨b, rfl, q⟩
theorem st_not (h : tt σ H fun c H1 => QT (!c) H1) : tNot tt σ H QT := h
theorem st_and (h : tt σ H fun c H1 => if c = true then tu σ H1 QT else QT false H1) : tAnd tt tu σ H QT := h
theorem st_or (h : tt σ H fun c H1 => if c = true then QT true H1 else tu σ H1 QT) : tOr tt tu σ H QT := h
theorem st_andV (h : ta σ H fun x H1 => ∃ c, x = .bl c ∧ if c = true then tb σ H1 Q else Q (.bl false) H1) : tAndV ta tb σ H Q := h
theorem st_orV (h : ta σ H fun x H1 => ∃ c, x = .bl c ∧ if c = true then Q (.bl true) H1 else tb σ H1 Q) : tOrV ta tb σ H Q := h
theorem st_notV (h : ta σ H fun x H1 => ∃ c, x = .bl c ∧ Q (.bl (!c)) H1) : tNotV ta σ H Q := h
theorem st_ifE (h : tt σ H fun c H1 => if c = true then ta σ H1 Q else tb σ H1 Q) : tIf tt ta tb σ H Q := h
theorem st_nil (q : QA [] H) : tNil σ H QA := q
theorem st_cons (h : te σ H fun x H1 => tr σ H1 fun xs H2 => QA (x :: xs) H2) : tCons te tr σ H QA := h
theorem st_cb {r : List V → Hp → VK → Prop} (h : tr σ H fun vs H1 => r vs H1 Q) : tCB r tr σ H Q := h
theorem st_seq (h : t ⟨u ⟨nx, rt, bk, ct⟩, rt, bk, ct⟩ σ H) : tSeq t u ⟨nx, rt, bk, ct⟩ σ H := h
theorem st_next (q : nx σ H) : tNext ⟨nx, rt, bk, ct⟩ σ H := q
theorem st_brk (q : bk σ H) : tBreak ⟨nx, rt, bk, ct⟩ σ H := q
theorem st_cont (q : ct σ H) : tCont ⟨nx, rt, bk, ct⟩ σ H := q
theorem st_drop (h : te σ H fun _ H1 => nx σ H1) : tDrop te ⟨nx, rt, bk, ct⟩ σ H := h
theorem st_ret (h : te σ H rt) : tRet te ⟨nx, rt, bk, ct⟩ σ H := h
theorem st_retN (h : rt .non H) : tRetN ⟨nx, rt, bk, ct⟩ σ H := h
theorem st_if (h : tt σ H fun b H1 => if b = true then t ⟨nx, rt, bk, ct⟩ σ H1 else u ⟨nx, rt, bk, ct⟩ σ H1) : tIfS tt t u ⟨nx, rt, bk, ct⟩ σ H := h
theorem st_asg {g : TG} (h : te σ H fun x H1 => g x σ H1 nx) : tAsg te g ⟨nx, rt, bk, ct⟩ σ H := h
theorem st_gname (q : QS (σ.set i (some v)) H) : gName i v σ H QS := q
theorem st_par {j : Nat} (h : tr σ H fun vs H1 => ∃ v w, vs = [v, w] ∧ nx ((σ.set i (some v)).set j (some w)) H1) : tPar i j tr ⟨nx, rt, bk, ct⟩ σ H := h
theorem st_two {w : V} {P : V → V → Prop} (q : P v w) : ∃ v' w', [v, w] = [v', w'] ∧ P v' w' := ⟨v, w, rfl, q⟩
theorem st_call {sp : Sp} {dvs : List V} {E : XK} (h : tr σ H fun vs H1 => sp (vs ++ dvs) H1 Q E) : tCall sp dvs E tr σ H Q := h
theorem st_callN {n m : Nat} {sp : Sp} {gV : List V → List V → List V} {E : XK} {tk : TA} (h : tr σ H fun vs H1 => tk σ H1 fun zs H2 => vs.length = n ∧ zs.length = m ∧ sp (gV vs zs) H2 Q E) : tCallN n m sp gV E tr tk σ H Q := h
/-- a new list, a new tuple at a free place -/
def NewO (o : HO) (H : Hp) (Q : VK) : Prop := ∀ p, H p = none → Q (.ref p) (upd H p o)
theorem st_lst (h : tr σ H fun xs H1 => xs.length ≤ sizeLine ∧ NewO (.lst xs) H1 Q) : tLst tr σ H Q := h
theorem st_tup (h : tr σ H fun xs H1 => xs.length ≤ sizeLine ∧ NewO (.tup xs) H1 Q) : tTup tr σ H Q := h
theorem small {n : Nat} (h : n ≤ 1000000) : n ≤ sizeLine := Nat.le_trans h (by decide)
theorem small' {n : Nat} (h : n ≤ 1000000) : n < sizeLine := Nat.lt_of_le_of_lt h (by decide)
/-- it stands for good -/
theorem NewO.good {o : HO} {G : Hp} {W : Wl} (w : Wd G W H) (k : ∀ p G' H', Same G G' → Wd G' W H' → G' p = some o → Q (.ref p) H') : NewO o H Q := fun p hp =>
  k p (upd G p o) (upd H p o) (same_upd (w.free hp)) (w.new hp) upd_same
/-- it may change -/
theorem NewO.own {o : HO} {G : Hp} {W : Wl} (w : Wd G W H) (k : ∀ p H', Wd G ((p, Is o) :: W) H' → Q (.ref p) H') : NewO o H Q := fun p hp => k p (upd H p o) (w.newM hp rfl)
end

/-! ### a def that lets nothing out -/
section
variable {P : Program} {w : World} {K : PySem.W.Frag} {mg : Str → Option Value} {base : Heap} {x qual : Str} {params : Arguments} {body : List Stmt} {scope : Scope} {dvs : List V} {kws : List (Str × V)} {f : Addr} {fd : FuncData}
theorem okD {N ps : List Str} {k : Nat} {sp : Sp} (F : FunD K x qual params body scope dvs kws f fd) (S : FnScope N ps scope) (len : ∀ vs H Q E, sp vs H Q E → vs.length = ps.length)
    (hb : ∀ (cdv : Value) (A : Around) (outer : List Env) (s : Shared) (H : Hp) (vs : List V) (Q : VK) (E : XK), Room k (A.deeper (envOfC qual scope s.heap.objs.size f cdv)) → sp vs H Q E →
      ∃ t, PSs (cxOf CX0 P w K mg base N qual scope f cdv A outer s H E).nox body t ∧ t { nx := fun _ H' => Q .non H', rt := Q } (start N vs) H) : FnOk P w K mg base CX0 (k + 1) f fd ps sp :=
  F.ok S len fun cdv A outer s H vs Q E hr h => let ⟨t, a, q⟩ := hb cdv A outer s H vs Q E hr h; ⟨t, a.nox, q⟩
end
/-! ### loops -/
def LoopQ (J : It) (g : TG) (tb : TS) (nx : L2.St → Hp → Prop) (rt : VK) (σ : L2.St) (H : Hp) : Prop := ∃ W : Nat → Nat → L2.St → Hp → Prop, (∃ m, W 0 m σ H) ∧ ∀ i m σ H, W i m σ H →
  (J.stop i H ∧ nx σ H) ∨ (J.go i H ∧ ∃ N : L2.St → Hp → Prop, (∀ σ' H', N σ' H' → ∃ m', m' < m ∧ W (i + 1) m' σ' H') ∧ ∀ x H', J.yld i H x H' → g x σ H' fun σ2 H2 => tb ⟨N, rt, nx, N⟩ σ2 H2)
/-- what holds between two turns, over a G that grows -/
def Btw (I : Nat → L2.St → Hp → Wl → Prop) (G : Hp) (i : Nat) : L2.St → Hp → Prop := fun σ H => ∃ G' W, Same G G' ∧ Wd G' W H ∧ I i σ G' W
section
variable {K : PySem.W.Frag} {σ : L2.St} {H G : Hp} {W : Wl} {nx bk ct : L2.St → Hp → Prop} {rt : VK} {g : TG} {tb : TS} {a b : Addr} {xs ys : List V} {n : Nat}
theorem st_for {wi : TI} (h : wi σ H fun J H1 => LoopQ J g tb nx rt σ H1) : tFor wi g tb ⟨nx, rt, bk, ct⟩ σ H := h
theorem st_btw {I : Nat → L2.St → Hp → Wl → Prop} {G' : Hp} {i : Nat} (e : Same G G') (w : Wd G' W H) (h : I i σ G' W) : Btw I G i σ H := ⟨G', W, e, w, h⟩
theorem loop_go {J : It} {Gp : Hp → Prop} {Y : Nat → Hp → V → Hp → Prop} (wk : Walk J n Gp Y) (I : Nat → L2.St → Hp → Wl → Prop) (w : Wd G W H) (hG : ∀ G' W' H', Same G G' → Wd G' W' H' → Gp H') (h0 : I 0 σ G W)
    (hs : ∀ i x σ' G' W' H' H'', i < n → Same G G' → Wd G' W' H' → I i σ' G' W' → Y i H' x H'' → g x σ' H'' fun σ2 H2 => tb ⟨Btw I G (i + 1), rt, nx, Btw I G (i + 1)⟩ σ2 H2)
    (hd : ∀ σ' G' W' H', Same G G' → Wd G' W' H' → I n σ' G' W' → nx σ' H') : LoopQ J g tb nx rt σ H :=
  for_it (D := ⟨nx, rt, nx, nx⟩) wk (Btw I G) ⟨G, W, Same.refl _, w, h0⟩ (fun _ _ _ _ ⟨_, _, e, w', _⟩ => hG _ _ _ e w') (fun i x σ' H' H'' hi ⟨G', W', e, w', h⟩ y => hs i x σ' G' W' H' H'' hi e w' h y) fun σ' H' ⟨G', W', e, w', h⟩ => hd σ' G' W' H' e w' h
theorem seq_up (w : Wd G W H) (h : SqL K G a xs) : SqL K H a xs := w.ex.seq h
theorem tup_up (w : Wd G W H) (h : SqT K G a xs) : SqT K H a xs := seqT w.ex h
/-- for x in a list -/
theorem for_l (hx : SqL K G a xs) (I : Nat → L2.St → Hp → Wl → Prop) (w : Wd G W H) (h0 : I 0 σ G W)
    (hs : ∀ i x σ' G' W' H', xs[i]? = some x → Same G G' → Wd G' W' H' → I i σ' G' W' → g x σ' H' fun σ2 H2 => tb ⟨Btw I G (i + 1), rt, nx, Btw I G (i + 1)⟩ σ2 H2)
    (hd : ∀ σ' G' W' H', Same G G' → Wd G' W' H' → I xs.length σ' G' W' → nx σ' H') : ∃ a', V.ref a = .ref a' ∧ (∃ xs, SqL K H a' xs) ∧ LoopQ (Itl K a') g tb nx rt σ H :=
  ⟨a, rfl, ⟨xs, seq_up w hx⟩, loop_go walk_list I w (fun _ _ _ e w' => seq_up w' (e.seq hx)) h0 (fun i x σ' G' W' H' H'' _ e w' h y => by obtain ⟨rfl, y⟩ := y; exact hs i x σ' G' W' H'' y e w' h) hd⟩
/-- for x in a tuple -/
theorem for_t (hx : SqT K G a xs) (I : Nat → L2.St → Hp → Wl → Prop) (w : Wd G W H) (h0 : I 0 σ G W)
    (hs : ∀ i x σ' G' W' H', xs[i]? = some x → Same G G' → Wd G' W' H' → I i σ' G' W' → g x σ' H' fun σ2 H2 => tb ⟨Btw I G (i + 1), rt, nx, Btw I G (i + 1)⟩ σ2 H2)
    (hd : ∀ σ' G' W' H', Same G G' → Wd G' W' H' → I xs.length σ' G' W' → nx σ' H') : ∃ a', V.ref a = .ref a' ∧ (∃ xs, SqT K H a' xs) ∧ LoopQ (Itt K a') g tb nx rt σ H :=
  ⟨a, rfl, ⟨xs, tup_up w hx⟩, loop_go walk_tup I w (fun _ _ _ e w' => tup_up w' (seqT e hx)) h0 (fun i x σ' G' W' H' H'' _ e w' h y => by obtain ⟨rfl, y⟩ := y; exact hs i x σ' G' W' H'' y e w' h) hd⟩
/-- for i in range(n) -/
theorem for_r1 {z : Int} (hz : -(2 ^ 62) ≤ z ∧ z < 2 ^ 62) (I : Nat → L2.St → Hp → Wl → Prop) (w : Wd G W H) (h0 : I 0 σ G W)
    (hs : ∀ (i : Nat) σ' G' W' H', (i : Int) < z → Same G G' → Wd G' W' H' → I i σ' G' W' → g (.int (i : Int)) σ' H' fun σ2 H2 => tb ⟨Btw I G (i + 1), rt, nx, Btw I G (i + 1)⟩ σ2 H2)
    (hd : ∀ σ' G' W' H', Same G G' → Wd G' W' H' → I z.toNat σ' G' W' → nx σ' H') : ∃ j : Int, [V.int z] = [.int j] ∧ -(2 ^ 62) ≤ j ∧ j < 2 ^ 62 ∧ LoopQ (Itr 0 j.toNat) g tb nx rt σ H :=
  ⟨z, rfl, hz.1, hz.2, loop_go walk_range I w (fun _ _ _ _ _ => trivial) h0 (fun i x σ' G' W' H' H'' hi e w' h y => by
    obtain ⟨rfl, rfl⟩ := y
    have e0 : (0 : Int) + (i : Int) = (i : Int) := Int.zero_add _
    dsimp only
    rw [e0]
    exact hs i σ' G' W' H'' (by omega) e w' h) hd⟩
/-- for i in range(lo, hi) -/
theorem for_r2 {lo z : Int} (hz : -(2 ^ 62) ≤ lo ∧ lo < 2 ^ 62 ∧ -(2 ^ 62) ≤ z ∧ z < 2 ^ 62) (I : Nat → L2.St → Hp → Wl → Prop) (w : Wd G W H) (h0 : I 0 σ G W)
    (hs : ∀ (i : Nat) σ' G' W' H', lo + (i : Int) < z → Same G G' → Wd G' W' H' → I i σ' G' W' → g (.int (lo + (i : Int))) σ' H' fun σ2 H2 => tb ⟨Btw I G (i + 1), rt, nx, Btw I G (i + 1)⟩ σ2 H2)
    (hd : ∀ σ' G' W' H', Same G G' → Wd G' W' H' → I (z - lo).toNat σ' G' W' → nx σ' H') :
    ∃ i j : Int, [V.int lo, V.int z] = [.int i, .int j] ∧ (-(2 ^ 62) ≤ i ∧ i < 2 ^ 62 ∧ -(2 ^ 62) ≤ j ∧ j < 2 ^ 62) ∧ LoopQ (Itr i (j - i).toNat) g tb nx rt σ H :=
  ⟨lo, z, rfl, hz, loop_go walk_range I w (fun _ _ _ _ _ => trivial) h0 (fun i x σ' G' W' H' H'' hi e w' h y => by
    obtain ⟨rfl, rfl⟩ := y
    exact hs i σ' G' W' H'' (by omega) e w' h) hd⟩
/-- for i, x in enumerate(a list) -/
theorem for_enum (hx : SqL K G a xs) {i1 i2 : Nat} (I : Nat → L2.St → Hp → Wl → Prop) (w : Wd G W H) (h0 : I 0 σ G W)
    (hs : ∀ (i : Nat) x σ' G' G'' W' H', xs[i]? = some x → Same G G' → I i σ' G' W' → Same G' G'' → Wd G'' W' H' → tb ⟨Btw I G (i + 1), rt, nx, Btw I G (i + 1)⟩ ((σ'.set i1 (some (.int (i : Int)))).set i2 (some x)) H')
    (hd : ∀ σ' G' W' H', Same G G' → Wd G' W' H' → I xs.length σ' G' W' → nx σ' H') :
    ∃ a' ys, [V.ref a] = [.ref a'] ∧ SqL K H a' ys ∧ LoopQ (Ite K a') (gTup K 2 (gCons (gName i1) (gCons (gName i2) gNil))) tb nx rt σ H :=
  ⟨a, xs, rfl, seq_up w hx, loop_go walk_enum I w (fun _ _ _ e w' => seq_up w' (e.seq hx)) h0 (fun i x σ' G' W' H' H'' _ e w' h y => by
    obtain ⟨T, x1, x2, rfl, hn, rfl, e1, e2⟩ := y
    cases e1
    refine ⟨T, _, rfl, SqT.of upd_same, rfl, _, _, rfl, ?_⟩
    refine ⟨_, _, rfl, ?_⟩
    exact ⟨rfl, hs i x2 σ' G' _ W' _ e2 e h (same_upd (w'.free hn)) (w'.new hn)⟩) hd⟩
end

/-! ### comprehensions -/
def LcQ (J : It) (g : TG) (tt : TT) (te : TE) (vs : List Nat) (σ : L2.St) (H1 : Hp) (Q : VK) : Prop := ∀ D, H1 D = none → ∃ W : Nat → Nat → Hp → Prop, (∃ m, W 0 m (upd H1 D (.lst []))) ∧ ∀ i m H, W i m H →
  (J.stop i H ∧ Q (.ref D) H) ∨ (J.go i H ∧ ∃ Nx : Hp → Prop, (∀ H', Nx H' → ∃ m', m' < m ∧ W (i + 1) m' H') ∧ ∀ x H', J.yld i H x H' → g x (wipe σ vs) H' fun σ2 H2 => wipe σ2 vs = wipe σ vs ∧ tt σ2 H2 fun b H3 =>
    if b = true then te σ2 H3 fun y H4 => ∃ acc, H4 D = some (.lst acc) ∧ acc.length < sizeLine ∧ Nx (upd H4 D (.lst (acc ++ [y]))) else Nx H3)
/-- what holds between two turns: the new list at D holds acc -/
def LcB (I : Nat → List V → Hp → Prop) (G : Hp) (W : Wl) (D : Addr) (i : Nat) : Hp → Prop := fun H => ∃ G' acc, Same G G' ∧ Wd G' ((D, Is (.lst acc)) :: W) H ∧ I i acc G'
section
variable {K : PySem.W.Frag} {σ : L2.St} {H G : Hp} {W : Wl} {D : Addr} {g : TG} {tt : TT} {te : TE} {vs : List Nat} {Q : VK} {a b : Addr} {xs ys : List V} {n : Nat}
theorem st_lc {wi : TI} (h : wi σ H fun J H1 => LcQ J g tt te vs σ H1 Q) : tLc wi g tt te vs σ H Q := h
theorem st_yes {QT : Bool → Hp → Prop} (q : QT true H) : tYes σ H QT := q
/-- an element is put -/
theorem lc_put {I : Nat → List V → Hp → Prop} {G' : Hp} {i : Nat} {acc : List V} {y : V} (w : Wd G' ((D, Is (.lst acc)) :: W) H) (e : Same G G') (hl : acc.length < 1000000) (h : I i (acc ++ [y]) G') :
    ∃ acc, H D = some (.lst acc) ∧ acc.length < sizeLine ∧ LcB I G W D i (upd H D (.lst (acc ++ [y]))) := by
  obtain ⟨o, ho, rfl⟩ := w.get List.mem_cons_self
  exact ⟨acc, ho, small' (Nat.le_of_lt hl), G', acc ++ [y], e, Wd.put (W1 := []) w rfl, h⟩
theorem lc_skip {I : Nat → List V → Hp → Prop} {G' : Hp} {i : Nat} {acc : List V} (w : Wd G' ((D, Is (.lst acc)) :: W) H) (e : Same G G') (h : I i acc G') : LcB I G W D i H := ⟨G', acc, e, w, h⟩
theorem lc_go {J : It} {Gp : Hp → Prop} {Y : Nat → Hp → V → Hp → Prop} (wk : Walk J n Gp Y) (I : Nat → List V → Hp → Prop) (w : Wd G W H) (hG : ∀ G' W' H', Same G G' → Wd G' W' H' → Gp H') (h0 : I 0 [] G)
    (hs : ∀ i x D G' H' H'' acc, i < n → Same G G' → Wd G' ((D, Is (.lst acc)) :: W) H' → I i acc G' → Y i H' x H'' → g x (wipe σ vs) H'' fun σ2 H2 => wipe σ2 vs = wipe σ vs ∧ tt σ2 H2 fun b H3 =>
      if b = true then te σ2 H3 fun y H4 => ∃ acc, H4 D = some (.lst acc) ∧ acc.length < sizeLine ∧ LcB I G W D (i + 1) (upd H4 D (.lst (acc ++ [y]))) else LcB I G W D (i + 1) H3)
    (hd : ∀ D G' H' acc, Same G G' → Wd G' ((D, Is (.lst acc)) :: W) H' → I n acc G' → Q (.ref D) H') : LcQ J g tt te vs σ H Q := fun D hD =>
  lc_it wk (LcB I G W D) ⟨G, [], Same.refl _, w.newM hD rfl, h0⟩ (fun _ _ _ ⟨_, _, e, w', _⟩ => hG _ _ _ e w') (fun i x H' H'' hi ⟨G', acc, e, w', h⟩ y => hs i x D G' H' H'' acc hi e w' h y) fun H' ⟨G', acc, e, w', h⟩ => hd D G' H' acc e w' h
/-- [.. for i in range(z)], the variable at slot j -/
theorem lc_r1 {z : Int} {j : Nat} (hz : -(2 ^ 62) ≤ z ∧ z < 2 ^ 62) (I : Nat → List V → Hp → Prop) (w : Wd G W H) (h0 : I 0 [] G) (hw : ∀ x, wipe ((wipe σ vs).set j x) vs = wipe σ vs)
    (hs : ∀ (i : Nat) D G' H' acc, (i : Int) < z → Same G G' → Wd G' ((D, Is (.lst acc)) :: W) H' → I i acc G' → tt ((wipe σ vs).set j (some (.int (i : Int)))) H' fun b H3 =>
      if b = true then te ((wipe σ vs).set j (some (.int (i : Int)))) H3 fun y H4 => ∃ acc, H4 D = some (.lst acc) ∧ acc.length < sizeLine ∧ LcB I G W D (i + 1) (upd H4 D (.lst (acc ++ [y]))) else LcB I G W D (i + 1) H3)
    (hd : ∀ D G' H' acc, Same G G' → Wd G' ((D, Is (.lst acc)) :: W) H' → I z.toNat acc G' → Q (.ref D) H') : ∃ j' : Int, [V.int z] = [.int j'] ∧ -(2 ^ 62) ≤ j' ∧ j' < 2 ^ 62 ∧ LcQ (Itr 0 j'.toNat) (gName j) tt te vs σ H Q :=
  ⟨z, rfl, hz.1, hz.2, lc_go walk_range I w (fun _ _ _ _ _ => trivial) h0 (fun i x D G' H' H'' acc hi e w' h y => by
    obtain ⟨rfl, rfl⟩ := y
    have e0 : (0 : Int) + (i : Int) = (i : Int) := Int.zero_add _
    dsimp only
    rw [e0]
    exact ⟨hw _, hs i D G' H'' acc (by omega) e w' h⟩) hd⟩
/-- [.. for x in a list] -/
theorem lc_l {j : Nat} (hx : SqL K G a xs) (I : Nat → List V → Hp → Prop) (w : Wd G W H) (h0 : I 0 [] G) (hw : ∀ x, wipe ((wipe σ vs).set j x) vs = wipe σ vs)
    (hs : ∀ (i : Nat) x D G' H' acc, xs[i]? = some x → Same G G' → Wd G' ((D, Is (.lst acc)) :: W) H' → I i acc G' → tt ((wipe σ vs).set j (some x)) H' fun b H3 =>
      if b = true then te ((wipe σ vs).set j (some x)) H3 fun y H4 => ∃ acc, H4 D = some (.lst acc) ∧ acc.length < sizeLine ∧ LcB I G W D (i + 1) (upd H4 D (.lst (acc ++ [y]))) else LcB I G W D (i + 1) H3)
    (hd : ∀ D G' H' acc, Same G G' → Wd G' ((D, Is (.lst acc)) :: W) H' → I xs.length acc G' → Q (.ref D) H') : ∃ a', V.ref a = .ref a' ∧ (∃ xs, SqL K H a' xs) ∧ LcQ (Itl K a') (gName j) tt te vs σ H Q :=
  ⟨a, rfl, ⟨xs, seq_up w hx⟩, lc_go walk_list I w (fun _ _ _ e w' => seq_up w' (e.seq hx)) h0 (fun i x D G' H' H'' acc _ e w' h y => by
    obtain ⟨rfl, y⟩ := y
    exact ⟨hw _, hs i x D G' H'' acc y e w' h⟩) hd⟩
end

/-! ### kinds of values -/
inductive Knd (K : PySem.W.Frag) (H : Hp) : V → Prop
  | int (i : Int) : Knd K H (.int i)
  | bl (b : Bool) : Knd K H (.bl b)
  | non : Knd K H .non
  | str (x : Str) : Knd K H (.str x)
  | lst {a : Addr} {xs : List V} (h : SqL K H a xs) : Knd K H (.ref a)
  | tup {a : Addr} {xs : List V} (h : SqT K H a xs) : Knd K H (.ref a)
  | dct {a : Addr} {kvs : List (Key × V)} (h : H a = some (.dK kvs)) : Knd K H (.ref a)
def isInt : V → Bool
  | .int _ => true
  | _ => false
def inRange (lo hi : Int) : V → Bool
  | .int i => decide (lo ≤ i) && decide (i ≤ hi)
  | _ => false
section
variable {K : PySem.W.Frag} {H : Hp} {x : V}
theorem tyL {a : Addr} {xs : List V} (h : SqL K H a xs) : TyX K H (.ref a) (.type "list") := by
  rcases h with (h | ⟨o, h⟩) | ⟨o, _, _, h, hc, _⟩
  · exact .base (.lst h)
  · exact .base (.frz h)
  · exact .kList h hc
theorem tyT {a : Addr} {xs : List V} (h : SqT K H a xs) : TyX K H (.ref a) (.type "tuple") := by
  rcases h with (h | ⟨o, h⟩) | ⟨o, _, _, h, hc, _⟩
  · exact .base (.tup h)
  · exact .fTuple h
  · exact .kTuple h hc
theorem Knd.ty (h : Knd K H x) : ∃ n b1 b2, TyX K H x (.type n) ∧ kitB n "int" = some b1 ∧ kitB n "bool" = some b2 ∧ isInt x = (b1 && !b2) := by
  cases h with
  | int i => exact ⟨"int", true, false, .base (.int i), by decide +kernel, by decide +kernel, rfl⟩
  | bl b => exact ⟨"bool", true, true, .base (.bl b), by decide +kernel, by decide +kernel, rfl⟩
  | non => exact ⟨"NoneType", false, false, .base .non, by decide +kernel, by decide +kernel, rfl⟩
  | str s => exact ⟨"str", false, false, .base (.str s), by decide +kernel, by decide +kernel, rfl⟩
  | lst h => exact ⟨"list", false, false, tyL h, by decide +kernel, by decide +kernel, rfl⟩
  | tup h => exact ⟨"tuple", false, false, tyT h, by decide +kernel, by decide +kernel, rfl⟩
  | dct h => exact ⟨"dict", false, false, .base (.dK h), by decide +kernel, by decide +kernel, rfl⟩
/-- isinstance(x, (list, tuple)) -/
def isSeq (K : PySem.W.Frag) (H : Hp) (x : V) : Prop := ∃ a xs, x = .ref a ∧ (SqL K H a xs ∨ SqT K H a xs)
theorem kB {a b : String} {r : Bool} {cs : List Value} {q : Bool} (h : kitB a b = some r) (hr : r = false → PySem.W.kitAny K (.type a) cs = some q) (hb : r = true → q = true) : PySem.W.kitAny K (.type a) (.type b :: cs) = some q := kitAny_cons (kit_ty h) hr hb
theorem kitLT_l : PySem.W.kitAny K (.type "list") [.type "list", .type "tuple"] = some true := kB (r := true) (by decide +kernel) (fun h => nomatch h) (fun _ => rfl)
theorem kitLT_t : PySem.W.kitAny K (.type "tuple") [.type "list", .type "tuple"] = some true := kB (r := false) (by decide +kernel) (fun _ => kB (r := true) (by decide +kernel) (fun h => nomatch h) (fun _ => rfl)) (fun h => nomatch h)
theorem isiSeq {Q : VK} {a p : Addr} {xs : List V} (hp : H p = some (.tup [.ty "list", .ty "tuple"])) (h : SqL K H a xs ∨ SqT K H a xs) (q : Q (.bl true) H) : rIsiT K [.ref a, .ref p] H Q := by
  rcases h with h | h
  · exact ⟨_, p, _, _, _, true, rfl, hp, .cons (.ty _) (.cons (.ty _) .nil), tyL h, kitLT_l, q⟩
  · exact ⟨_, p, _, _, _, true, rfl, hp, .cons (.ty _) (.cons (.ty _) .nil), tyT h, kitLT_t, q⟩
end

section
variable {K : PySem.W.Frag} {σ : L2.St} {H : Hp} {ta : TA} {tl : TE} {R : It → Hp → Prop}
theorem st_iEnum (h : ta σ H fun vs H1 => ∃ a xs, vs = [.ref a] ∧ SqL K H1 a xs ∧ R (Ite K a) H1) : iEnum K ta σ H R := h
theorem st_iList (h : tl σ H fun x H1 => ∃ a, x = .ref a ∧ (∃ xs, SqL K H1 a xs) ∧ R (Itl K a) H1) : iList K tl σ H R := h
theorem st_iTup (h : tl σ H fun x H1 => ∃ a, x = .ref a ∧ (∃ xs, SqT K H1 a xs) ∧ R (Itt K a) H1) : iTup K tl σ H R := h
theorem st_iR1 (h : ta σ H fun vs H1 => ∃ j : Int, vs = [.int j] ∧ -(2 ^ 62) ≤ j ∧ j < 2 ^ 62 ∧ R (Itr 0 j.toNat) H1) : iRng1 ta σ H R := h
theorem st_iR2 (h : ta σ H fun vs H1 => ∃ i j : Int, vs = [.int i, .int j] ∧ (-(2 ^ 62) ≤ i ∧ i < 2 ^ 62 ∧ -(2 ^ 62) ≤ j ∧ j < 2 ^ 62) ∧ R (Itr i (j - i).toNat) H1) : iRng2 ta σ H R := h
end

theorem atUp {G G' : Hp} {a : Addr} {o : HO} (e : Same G G') (h : G a = some o) : G' a = some o := e _ _ h
theorem hUp {G H : Hp} {W : Wl} {a : Addr} {o : HO} (w : Wd G W H) (h : G a = some o) : H a = some o := w.ex _ _ h
theorem dUp {K : PySem.W.Frag} {G H : Hp} {W : Wl} {v : V} {d : PyData} (w : Wd G W H) (h : Dp K G v d) : Dp K H v d := dmono w.ex h
theorem getI {ns : List Int} {i : Nat} {x : V} (h : (ns.map V.int)[i]? = some x) : ∃ n, ns[i]? = some n ∧ x = V.int n ∧ n ∈ ns := by
  rw [List.getElem?_map] at h
  obtain ⟨n, hn, e⟩ := Option.map_eq_some_iff.mp h
  exact ⟨n, hn, e.symm, List.mem_of_getElem? hn⟩

section
variable {K : PySem.W.Frag} {σ : L2.St} {H : Hp} {Q : VK} {QS : L2.St → Hp → Prop} {to ti : TE} {v x : V} {xs : List V} {a : Addr}
theorem st_gsub {t : TSet} (h : to σ H fun o H1 => ti σ H1 fun i H2 => t o i v H2 fun H3 => QS σ H3) : gSub to ti t v σ H QS := h
/-- xs[i] -/
theorem st_ixL {i : Int} (h : SqL K H a xs) (hv : atI xs i = some v) (q : Q v H) : rIxL K (.ref a) (.int i) H Q := ⟨a, xs, i, v, rfl, rfl, h, hv, q⟩
theorem st_ixT {i : Int} (h : SqT K H a xs) (hv : atI xs i = some v) (q : Q v H) : rIxT K (.ref a) (.int i) H Q := ⟨a, xs, i, v, rfl, rfl, h, hv, q⟩
theorem st_setL {i : Int} {j : Nat} {Q : Hp → Prop} (h : H a = some (.lst xs)) (hj : ixN xs.length i = some j) (q : Q (upd H a (.lst (xs.set j v)))) : rSetL (.ref a) (.int i) v H Q := ⟨a, xs, i, j, rfl, rfl, h, hj, q⟩
end

section
variable {K : PySem.W.Frag} {σ : L2.St} {H : Hp} {Q : VK} {to te : TE} {t : TA} {T : String} {r : V → List V → Hp → VK → Prop} {xs : List V} {a : Addr}
theorem st_bm (h : to σ H fun x H1 => tyV K T x H1 ∧ t σ H1 fun xs H2 => r x xs H2 Q) : tBM K T r to t σ H Q := h
theorem st_bm0 (h : to σ H fun x H1 => tyV K T x H1 ∧ r x [] H1 Q) : tBM0 K T r to σ H Q := h
theorem tyL' (h : H a = some (.lst xs)) : tyV K "list" (.ref a) H := Or.inl ⟨rfl, _, SqL.of h⟩
theorem map_ins (ns : List Int) (i : Nat) (n : Int) : (ns.map V.int).take i ++ [V.int n] ++ (ns.map V.int).drop i = (ns.take i ++ [n] ++ ns.drop i).map V.int := by simp [List.map_take, List.map_drop]
theorem map_set' (ns : List Int) (i : Nat) (n : Int) : (ns.map V.int).set i (V.int n) = (ns.set i n).map V.int := by simp [List.map_set]
theorem atI_map {ns : List Int} {i : Int} (h0 : 0 ≤ i) (h1 : i < ns.length) : ∃ n, atI (ns.map V.int) i = some (V.int n) ∧ n ∈ ns ∧ ns[i.toNat]? = some n := by
  obtain ⟨n, hn⟩ : ∃ n, ns[i.toNat]? = some n := ⟨_, List.getElem?_eq_getElem (by omega)⟩
  refine ⟨n, ?_, List.mem_of_getElem? hn, hn⟩
  have e : i = (i.toNat : Int) := by omega
  rw [e]
  exact atI_nat (by rw [List.getElem?_map, hn]; rfl)
theorem ixN_of {n : Nat} {i : Int} (h0 : 0 ≤ i) (h1 : i < n) : ixN n i = some i.toNat := by
  unfold ixN
  rw [if_pos h0, if_pos h1]
end

theorem st_cut {t u : TS} {nx bk ct : L2.St → Hp → Prop} {rt : VK} {σ : L2.St} {H : Hp} (M : L2.St → Hp → Prop) (h : t ⟨M, rt, bk, ct⟩ σ H) (k : ∀ σ' H', M σ' H' → u ⟨nx, rt, bk, ct⟩ σ' H') : C8.tCut t u ⟨nx, rt, bk, ct⟩ σ H := ⟨M, h, k⟩
section
variable {K : PySem.W.Frag} {H : Hp}
def dI (ns : List Int) : PyData := .list (ns.map .int)
theorem dpInts : ∀ ns : List Int, DpAll K H (ns.map V.int) (ns.map PyData.int)
  | [] => .nil
  | n :: ns => .cons (.int n) (dpInts ns)
theorem dp_ints {a : Addr} {ns : List Int} (h : SqL K H a (ns.map V.int)) : Dp K H (.ref a) (dI ns) := .lst h (dpInts ns)
/-- data that may be compared: of a depth up to n -/
def Sh (n : Nat) (d : PyData) : Prop := d.canLay0 = true ∧ d.depth ≤ n
theorem sh_all {n : Nat} : ∀ {ds : List PyData}, (∀ d ∈ ds, Sh n d) → PyData.canLayAll0 ds = true ∧ PyData.depthAll ds ≤ n
  | [], _ => ⟨rfl, Nat.zero_le _⟩
  | d :: ds, h => by
    obtain ⟨a1, a2⟩ := h d List.mem_cons_self
    obtain ⟨b1, b2⟩ := sh_all (ds := ds) fun x hx => h x (List.mem_cons_of_mem _ hx)
    refine ⟨?_, ?_⟩
    · unfold PyData.canLayAll0
      rw [a1, b1]
      rfl
    · unfold PyData.depthAll
      exact Nat.max_le.mpr ⟨a2, b2⟩
theorem Sh.list {n : Nat} {ds : List PyData} (h : ∀ d ∈ ds, Sh n d) : Sh (n + 1) (.list ds) := by
  obtain ⟨a, b⟩ := sh_all h
  exact ⟨by unfold PyData.canLay0; exact a, by unfold PyData.depth; exact Nat.succ_le_succ b⟩
theorem Sh.tuple {n : Nat} {ds : List PyData} (h : ∀ d ∈ ds, Sh n d) : Sh (n + 1) (.tuple ds) := by
  obtain ⟨a, b⟩ := sh_all h
  exact ⟨by unfold PyData.canLay0; exact a, by unfold PyData.depth; exact Nat.succ_le_succ b⟩
theorem Sh.int {n : Nat} (i : Int) : Sh n (.int i) := ⟨by unfold PyData.canLay0; rfl, by unfold PyData.depth; exact Nat.zero_le _⟩
theorem Sh.bool {n : Nat} (i : Bool) : Sh n (.bool i) := ⟨by unfold PyData.canLay0; rfl, by unfold PyData.depth; exact Nat.zero_le _⟩
theorem Sh.none {n : Nat} : Sh n .none := ⟨by unfold PyData.canLay0; rfl, by unfold PyData.depth; exact Nat.zero_le _⟩
theorem Sh.ok {n : Nat} {d : PyData} (h : Sh n d) (hn : n ≤ 64) : SeqAt.shaped d = true := by
  unfold SeqAt.shaped
  rw [h.1, decide_eq_true (Nat.le_trans h.2 hn)]
  rfl
theorem sh_ints (ns : List Int) : Sh 1 (dI ns) := Sh.list fun d hd => by
  obtain ⟨n, _, rfl⟩ := List.mem_map.mp hd
  exact .int n
theorem eqvAll_map {α : Type} [DecidableEq α] (f : α → PyData) (h : ∀ x y, PyData.eqv (f x) (f y) = decide (x = y)) : ∀ xs ys : List α, PyData.eqvAll (xs.map f) (ys.map f) = decide (xs = ys)
  | [], [] => by simp [PyData.eqvAll]
  | [], _ :: _ => by simp [PyData.eqvAll]
  | _ :: _, [] => by simp [PyData.eqvAll]
  | x :: xs, y :: ys => by
    rw [List.map_cons, List.map_cons, PyData.eqvAll, h, eqvAll_map f h xs ys]
    by_cases e1 : x = y <;> by_cases e2 : xs = ys <;> simp [e1, e2]
theorem eqv_int (a b : Int) : PyData.eqv (.int a) (.int b) = decide (a = b) := by
  unfold PyData.eqv
  by_cases e : a = b <;> simp [e]
theorem eqv_dI (a b : List Int) : PyData.eqv (dI a) (dI b) = decide (a = b) := by
  unfold dI PyData.eqv
  exact eqvAll_map _ eqv_int a b
/-- xs == ys of data -/
theorem st_eqD {Q : VK} {x y : V} {d e : PyData} {b : Bool} (hx : Dp K H x d) (hy : Dp K H y e) (sx : SeqAt.shaped d = true) (sy : SeqAt.shaped e = true) (hb : PyData.eqv d e = b) (q : Q (.bl b) H) : rEqD K x y H Q := ⟨d, e, hx, hy, sx, sy, by rw [hb]; exact q⟩
theorem st_neD {Q : VK} {x y : V} {d e : PyData} {b : Bool} (hx : Dp K H x d) (hy : Dp K H y e) (sx : SeqAt.shaped d = true) (sy : SeqAt.shaped e = true) (hb : PyData.eqv d e = b) (q : Q (.bl (!b)) H) : rNeD K x y H Q := ⟨d, e, hx, hy, sx, sy, by rw [hb]; exact q⟩
/-- lists of ints -/
theorem st_eqI {Q : VK} {a b : Addr} {xs ys : List Int} (hx : SqL K H a (xs.map V.int)) (hy : SqL K H b (ys.map V.int)) (q : Q (.bl (decide (xs = ys))) H) : rEqD K (.ref a) (.ref b) H Q :=
  st_eqD (dp_ints hx) (dp_ints hy) ((sh_ints xs).ok (by decide)) ((sh_ints ys).ok (by decide)) (eqv_dI xs ys) q
theorem st_neI {Q : VK} {a b : Addr} {xs ys : List Int} (hx : SqL K H a (xs.map V.int)) (hy : SqL K H b (ys.map V.int)) (q : Q (.bl (!decide (xs = ys))) H) : rNeD K (.ref a) (.ref b) H Q :=
  st_neD (dp_ints hx) (dp_ints hy) ((sh_ints xs).ok (by decide)) ((sh_ints ys).ok (by decide)) (eqv_dI xs ys) q
end

theorem st_ifV {σ : L2.St} {H : Hp} {Q : VK} {tt : TT} {ta tb : TE} (v : V) (c : Bool) (ht : ∀ QT : Bool → Hp → Prop, QT c H → tt σ H QT) (h1 : c = true → ∀ Q : VK, Q v H → ta σ H Q) (h2 : c = false → ∀ Q : VK, Q v H → tb σ H Q) (q : Q v H) : tIf tt ta tb σ H Q :=
  ht _ (by
    cases c with
    | true => exact iteT (h1 rfl Q q)
    | false => exact iteF (h2 rfl Q q))
theorem ne_self (v : V) : (!decide (v = v)) = false := by rw [decide_eq_true rfl]; rfl
theorem eq_self' (v : V) : decide (v = v) = true := decide_eq_true rfl
end Z

/-! enumerate of a tuple -/
namespace PySem
open AutoSeq1 (wpAny_loadPart')
theorem zEnumNew (l : Addr) (its : Array Value) (n : Nat) (dd : Option Addr) (sl : Array (Option Value)) :
    Meets (Builtin.«enumerate.__new__» ⟨[.type "enumerate", .ref l], []⟩) (fun _ R s => s.heap.get? l = some { cls := .type "tuple", dict := dd, data := .seq its n, slots := sl } ∧
      R (.ok (.ret (.ref (s.heap.push { cls := .type "tuple_iterator", data := .fields #[.ref l, .int 0 0] }).objs.size)))
        { s with heap := (s.heap.push { cls := .type "tuple_iterator", data := .fields #[.ref l, .int 0 0] }).push { cls := .type "enumerate", data := .fields #[.none, .bool false, .ref s.heap.objs.size, rawInt 0, .none, .none] } }) :=
  .of_wp fun prog w A R s q => by
    obtain ⟨hp, g, d, tk, os⟩ := s
    obtain ⟨hl, hR⟩ := q
    have hsub := sub_enumerate
    have hT : Heap.IsTuple (Shared.heap ⟨hp, g, d, tk, os⟩) l its := ⟨_, hl, rfl, n, rfl⟩
    wp_walk using wpAny_loadPart' hl
    refine wpAny_stack_any fun st => wpAny_pure ?_
    split
    · rename_i c _ _ _ _ _
      cases (c == Value.type "enumerate") <;> (wp_walk using wpAny_loadPart' hl, wpAny_pyIter_tuple hT; exact ⟨_, rfl, hR⟩)
    · wp_walk using wpAny_loadPart' hl, wpAny_pyIter_tuple hT
      exact ⟨_, rfl, hR⟩
theorem zEnumCall {prog : Program} {w : World} {A : Around} {E : Value → Shared → Prop} {s : Shared} {l : Addr} {its : Array Value} {Q : Value → Shared → Prop} (hT : s.heap.IsTuple l its)
    (k : ∀ h', IsEnum h' (s.heap.objs.size + 1) s.heap.objs.size 0 .none → h'.IsTupleIter s.heap.objs.size l 0 → h'.objs.size = s.heap.objs.size + 2 → (∀ b o, s.heap.get? b = some o → h'.get? b = some o) →
      Q (.ref (s.heap.objs.size + 1)) { s with heap := h' }) : wpAny (model prog w) A (call (.type "enumerate") [.ref l]) Q E s := by
  obtain ⟨⟨c, dd, dt, sl⟩, hl, hc, n, hd⟩ := hT
  obtain rfl : c = .type "tuple" := hc
  obtain rfl : dt = .seq its n := hd
  refine callType_new F.called_enumerate (by decide) (F.typeCall_enumerate_1 _) (F.newCall_enumerate_1 _) (fun obj => F.args_object_init_2 obj _) F.entry_enumerate_new (zEnumNew l its n dd sl) ⟨hl, ?_⟩
  have hz : (s.heap.push { cls := .type "tuple_iterator", data := .fields #[.ref l, .int 0 0] }).objs.size = s.heap.objs.size + 1 := Heap.size_push ..
  show _ ∧ _
  rw [hz]
  have he : IsEnum ((s.heap.push { cls := .type "tuple_iterator", data := .fields #[.ref l, .int 0 0] }).push { cls := .type "enumerate", data := .fields #[.none, .bool false, .ref s.heap.objs.size, rawInt 0, .none, .none] })
      (s.heap.objs.size + 1) s.heap.objs.size 0 .none := hz ▸ Heap.get?_push_size _ rfl
  exact ⟨⟨_, he, rfl⟩, k _ he ⟨_, Heap.get?_push_of_some _ (Heap.get?_push_size _ rfl), rfl, rfl⟩ (by rw [Heap.size_push, hz]) fun b o x => Heap.get?_push_of_some _ (Heap.get?_push_of_some _ x)⟩
theorem zEnumEnd {prog : Program} {w : World} {A : Around} {E : Value → Shared → Prop} {s : Shared} {e it l : Addr} {i : Nat} {its : Array Value} {old : Value} {k : Int} {Q : Option Value → Shared → Prop} (hh : A.handled = none)
    (he : IsEnum s.heap e it k old) (hit : s.heap.IsTupleIter it l i) (hl : s.heap.IsTuple l its) (hx : its[i]? = none) (q : ∀ h', Heap.ExtBut it s.heap h' → Q none { s with heap := h' }) :
    wpAny (model prog w) A (pyNext (.ref e)) Q E s := by
  have ty : s.TypeIs (.ref e) "enumerate" := ⟨_, he, rfl⟩
  unfold pyNext
  refine wpAny_bind (wpAny_attempt (wpAny_callSpecial?_slot (name := Str.ofString "__next__") ty F.slot_enumerate_next (wpAny_call_entry F.slot_enumerate_next ty F.entry_enumerate_next ?_ (F.args_enumerate_next_1 _))))
  show wpAny _ _ (field (.ref e) 2 >>= _) _ _ _
  refine wpAny_bind (wpAny_field he rfl (x := .ref it) rfl (wpAny_bind (wpAny_nextOf_tuple_end hh hit hl hx fun h' x he' ⟨o, ho, hc⟩ => ?_)))
  exact wpAny_bind (wpAny_isInstance (T := "StopIteration") (b := true) ⟨o, ho, hc⟩ isSubtype_stop (wpAny_pure (q _ he')))
end PySem
namespace Z
open PySem PySem.Spec PyProof.Rows L2
def IteT (K : PySem.W.Frag) (a : Addr) : It :=
  ⟨fun i H => ∃ (xs : List V) (x : V), SqT K H a xs ∧ xs[i]? = some x, fun i H v H' => ∃ T x, v = .ref T ∧ H T = none ∧ H' = upd H T (.tup [.int (i : Nat), x]) ∧ ∀ xs, SqT K H a xs → xs[i]? = some x,
    fun i H => ∃ xs : List V, SqT K H a xs ∧ xs.length ≤ i⟩
theorem tup_ne {h : Heap} {a b : Addr} {its : Array Value} {o : Obj} {n : String} (p : IsTup h a its) (ho : h.get? b = some o) (hc : o.cls = .type n) (hn : n ≠ "tuple") : a ≠ b := fun z => by
  obtain ⟨o', e, c, _⟩ := p
  rw [z, ho] at e
  cases e
  rw [hc] at c
  exact hn (by injection c)
theorem turn_enumT {P : Program} {w : World} {K : PySem.W.Frag} {elts : List Expr} {kk : Nat} {tpos : Pos} (a e it : Addr) :
    Turn P w K (.Tuple elts kk tpos) (IteT K a) [e, it] e (fun i h => (∃ old, IsEnum h e it ((i : Nat) : Int) old) ∧ h.IsTupleIter it a i ∧ e ≠ it) where
  mem := List.mem_cons_self
  obj := fun i h st b hb => by
    obtain ⟨⟨old, he⟩, ⟨o, ho, hc, hd⟩, _⟩ := st
    rcases (show b = e ∨ b = it by simpa using hb) with z | z
    · exact z ▸ ⟨_, he, fun v q => nomatch q⟩
    · exact z ▸ ⟨o, ho, fun v q => by rw [hd] at q; cases q⟩
  keep := fun i h h' st k => let ⟨⟨old, he⟩, hi, hne⟩ := st; ⟨⟨old, k e List.mem_cons_self _ he⟩, hi.at fun o q => k it (by simp) o q, hne⟩
  item := by
    intro X hP hw hK hc i pins s σ H E I hf st hg
    cases hP; cases hw; cases hK
    obtain ⟨⟨old, he⟩, hit, hne⟩ := st
    obtain ⟨xs, x, hq, hx⟩ := hg
    obtain ⟨its, rv, p, hz⟩ := I.tuple hq
    obtain ⟨u, hu, ru⟩ := rv.get hx
    obtain ⟨oi, hoi, hci, _⟩ := id hit
    have nai : a ≠ it := tup_ne p hoi hci (by decide)
    have nae : a ≠ e := tup_ne p he rfl (by decide)
    have hel := Heap.lt_size he
    have hil := Heap.lt_size hoi
    have hlt : i < its.length := (List.getElem?_eq_some_iff.mp hu).1
    refine wpAny_pyNext_enum_itemD (Draws.tuple (A := X.A.in1) (I.ok.hd hc) it a nai its.toArray) he ⟨hit, p⟩ (by simpa using hlt) hne (by simp [hne, nae.symm]) fun v h' tk hv ho hst hT hsz hk => ?_
    obtain rfl : u = v := by
      have hv' : its[i]? = some v := by simpa using hv
      rw [hu] at hv'
      exact Option.some.inj hv'
    refine ⟨_, rfl, wpAny_letOwnedTupleGo_enum (s := { s with heap := h', toks := tk + 1 }) ho fun h'' he' sb => ?_⟩
    have hT2 := (sb.2 _ (Nat.ne_of_gt hel)).trans hT
    have new : ObjOk X.prog X.w (upd H s.heap.objs.size (.tup [.int (i : Nat), x])) h'' s.heap.objs.size (.tup [.int (i : Nat), x]) :=
      ⟨by show 2 ≤ sizeLine; decide, [.int i tk, u], .cons ⟨_, rfl⟩ (.cons ru .nil), ⟨_, hT2, rfl, _, rfl⟩⟩
    have I1 := I.turnedNew (t' := tk + 1) (ch := [e, it]) (fun b ob hb q => (sb.2 b (fun z => hb (by simp [z]))).trans (hk b ob (fun z => hb (by simp [z])) (fun z => hb (by simp [z])) q)) hf (Nat.le_refl _) new
    refine ⟨.ref s.heap.objs.size, _, I1, rfl, ⟨_, x, rfl, I.hok.fresh (Nat.le_refl _), rfl, fun ys hy => by rw [I.tuple_inj hy hq]; exact hx⟩, ⟨⟨u, ?_⟩, hst.1.at fun o q => (sb.2 it (Ne.symm hne)).trans q, hne⟩, fun b hb => ?_⟩
    · rw [show ((i + 1 : Nat) : Int) = (i : Int) + 1 by omega]
      exact he'
    · have hb' : b < s.heap.objs.size := by
        rcases (show b = e ∨ b = it by simpa using hb) with z | z
        · exact z ▸ hel
        · exact z ▸ hil
      rw [upd_ne (Nat.ne_of_lt hb')]
      exact (hf b hb).1
  done := by
    intro X hP hw hK hc i pins s σ H E I hf st hg
    cases hP; cases hw; cases hK
    obtain ⟨⟨old, he⟩, hit, hne⟩ := st
    obtain ⟨xs, hq, hx⟩ := hg
    obtain ⟨its, rv, p, hz⟩ := I.tuple hq
    obtain ⟨oi, hoi, hci, hdi⟩ := id hit
    have nai : a ≠ it := tup_ne p hoi hci (by decide)
    obtain ⟨f0, f1, f2, f3, f4, f5⟩ := hf it (by simp)
    have hl := rv.length
    exact zEnumEnd (I.ok.hd hc) he hit (show s.heap.IsTuple a its.toArray from p) (by simp; omega) fun h' eb => ⟨rfl, I.turned (t' := s.toks) (fun b o hb q => eb b o hb q) f0 f1 f3 f4 f5⟩
  self := fun A i s Q E st h => let ⟨⟨_, he⟩, _⟩ := st; wpAny_pyIter_enum he h

/-- enumerate of a list or of a tuple -/
def iEnumA (K : PySem.W.Frag) (ta : TA) : TI := fun σ H R => ta σ H fun vs H1 => ∃ a xs, vs = [.ref a] ∧ ((SqL K H1 a xs ∧ R (Ite K a) H1) ∨ (SqT K H1 a xs ∧ R (IteT K a) H1))
theorem pi_enumA {X : Cx} {e : Expr} {ta : TA} {p pos tpos : Pos} {elts : List Expr} {kk : Nat} (hg : Gl X "enumerate") (hm : X.mg "enumerate" = none) (ha : PA X [e] ta) (hs : starEach [e] X.env = [(false, eval e X.env)] := by rfl) :
    PI X (.Tuple elts kk tpos) (.Call (.Name "enumerate" p) [e] [] pos) (iEnumA X.K ta) := by
  refine ⟨fun pins s σ H R I h => Call_ (ld_blt I hg hm boot_enumerate (PyProof.Rows.callWith_type1 (thn (ha.run pos pins s σ H _ I h) fun us s1 ⟨vs, H1, I1, r1, a, xs, ex, hq⟩ => ?_) hs rfl))⟩
  subst ex
  cases r1 with
  | cons r rr =>
    cases rr
    cases r
    have fp : ∀ b ∈ [s1.heap.objs.size + 1, s1.heap.objs.size], FpOk X pins H1 b := fun b hb => by
      have hle : s1.heap.objs.size ≤ b := by
        rcases (show b = s1.heap.objs.size + 1 ∨ b = s1.heap.objs.size by simpa using hb) with z | z
        · exact z ▸ Nat.le_add_right _ _
        · exact z ▸ Nat.le_refl _
      exact I1.fpOk hle (I1.hok.fresh hle)
    rcases hq with ⟨hq, q⟩ | ⟨hq, q⟩
    · obtain ⟨its, rv, p', hz⟩ := I1.list hq
      refine call_enumerate_list p'.isList fun h' he hit hsz hk => wpAny_pyIter_enum he ?_
      exact ⟨s1.heap.objs.size + 1, _, _, _, H1, rfl, I1.kept (t' := s1.toks) hk, turn_enum a (s1.heap.objs.size + 1) s1.heap.objs.size, ⟨⟨.none, he⟩, hit, Nat.succ_ne_self _⟩, fp, q⟩
    · obtain ⟨its, rv, p', hz⟩ := I1.tuple hq
      refine zEnumCall (show s1.heap.IsTuple a its.toArray from p') fun h' he hit hsz hk => wpAny_pyIter_enum he ?_
      exact ⟨s1.heap.objs.size + 1, _, _, _, H1, rfl, I1.kept (t' := s1.toks) hk, turn_enumT a (s1.heap.objs.size + 1) s1.heap.objs.size, ⟨⟨.none, he⟩, hit, Nat.succ_ne_self _⟩, fp, q⟩
theorem walk_enumT {K : PySem.W.Frag} {a : Addr} {xs : List V} : Walk (IteT K a) xs.length (fun H => SqT K H a xs) (YPair (fun i => some (.int (i : Nat))) (fun i => xs[i]?)) :=
  ⟨fun i H hi g => ⟨xs, xs[i], g, by simp [hi]⟩, fun H g => ⟨xs, g, Nat.le_refl _⟩, fun i H x H' hi g y => by
    obtain ⟨T, z, e1, e2, e3, e4⟩ := y
    exact ⟨T, _, z, e1, e2, e3, rfl, e4 xs g⟩⟩
section
variable {K : PySem.W.Frag} {σ : L2.St} {H G : Hp} {W : Wl} {nx : L2.St → Hp → Prop} {rt : VK} {tb : TS} {a : Addr} {xs : List V} {ta : TA} {R : It → Hp → Prop}
theorem st_iEnumA (h : ta σ H fun vs H1 => ∃ a xs, vs = [.ref a] ∧ ((SqL K H1 a xs ∧ R (Ite K a) H1) ∨ (SqT K H1 a xs ∧ R (IteT K a) H1))) : iEnumA K ta σ H R := h
/-- for i, x in enumerate(a list or tuple) -/
theorem for_enumA (hx : SqL K G a xs ∨ SqT K G a xs) {i1 i2 : Nat} (I : Nat → L2.St → Hp → Wl → Prop) (w : Wd G W H) (h0 : I 0 σ G W)
    (hs : ∀ (i : Nat) x σ' G' G'' W' H', xs[i]? = some x → Same G G' → I i σ' G' W' → Same G' G'' → Wd G'' W' H' → tb ⟨Btw I G (i + 1), rt, nx, Btw I G (i + 1)⟩ ((σ'.set i1 (some (.int (i : Int)))).set i2 (some x)) H')
    (hd : ∀ σ' G' W' H', Same G G' → Wd G' W' H' → I xs.length σ' G' W' → nx σ' H') :
    ∃ a' ys, [V.ref a] = [.ref a'] ∧ ((SqL K H a' ys ∧ LoopQ (Ite K a') (gTup K 2 (gCons (gName i1) (gCons (gName i2) gNil))) tb nx rt σ H) ∨ (SqT K H a' ys ∧ LoopQ (IteT K a') (gTup K 2 (gCons (gName i1) (gCons (gName i2) gNil))) tb nx rt σ H)) := by
  have step : ∀ (i : Nat) (x : V) (σ' : L2.St) (G' : Hp) (W' : Wl) (H' H'' : Hp), i < xs.length → Same G G' → Wd G' W' H' → I i σ' G' W' → YPair (fun i => some (.int (i : Nat))) (fun i => xs[i]?) i H' x H'' →
      gTup K 2 (gCons (gName i1) (gCons (gName i2) gNil)) x σ' H'' fun σ2 H2 => tb ⟨Btw I G (i + 1), rt, nx, Btw I G (i + 1)⟩ σ2 H2 := fun i x σ' G' W' H' H'' _ e w' h y => by
    obtain ⟨T, x1, x2, rfl, hn, rfl, e1, e2⟩ := y
    cases e1
    refine ⟨T, _, rfl, SqT.of upd_same, rfl, _, _, rfl, ?_⟩
    refine ⟨_, _, rfl, ?_⟩
    exact ⟨rfl, hs i x2 σ' G' _ W' _ e2 e h (same_upd (w'.free hn)) (w'.new hn)⟩
  rcases hx with hx | hx
  · exact ⟨a, xs, rfl, .inl ⟨seq_up w hx, loop_go walk_enum I w (fun _ _ _ e w' => seq_up w' (e.seq hx)) h0 step hd⟩⟩
  · exact ⟨a, xs, rfl, .inr ⟨tup_up w hx, loop_go walk_enumT I w (fun _ _ _ e w' => tup_up w' (seqT e hx)) h0 step hd⟩⟩
end

/-! ### a list or a tuple -/
def iSeqA (K : PySem.W.Frag) (tl : TE) : TI := fun σ H R => iList K tl σ H R ∨ iTup K tl σ H R
theorem pi_seqA {X : Cx} {tg l : Expr} {tl : TE} (h : PE X l tl) : PI X tg l (iSeqA X.K tl) := ⟨fun pins s σ H R I q => q.elim (fun q => (pi_list h).run pins s σ H R I q) fun q => (pi_tup h).run pins s σ H R I q⟩
section
variable {K : PySem.W.Frag} {σ : L2.St} {H G : Hp} {W : Wl} {nx : L2.St → Hp → Prop} {rt : VK} {g : TG} {tb : TS} {a : Addr} {xs : List V} {tl : TE} {tt : TT} {te : TE} {vs : List Nat} {Q : VK} {j : Nat}
theorem for_seq (ht : ∀ Q : VK, Q (.ref a) H → tl σ H Q) (hx : SqL K G a xs ∨ SqT K G a xs) (I : Nat → L2.St → Hp → Wl → Prop) (w : Wd G W H) (h0 : I 0 σ G W)
    (hs : ∀ i x σ' G' W' H', xs[i]? = some x → Same G G' → Wd G' W' H' → I i σ' G' W' → g x σ' H' fun σ2 H2 => tb ⟨Btw I G (i + 1), rt, nx, Btw I G (i + 1)⟩ σ2 H2)
    (hd : ∀ σ' G' W' H', Same G G' → Wd G' W' H' → I xs.length σ' G' W' → nx σ' H') : iSeqA K tl σ H fun J H1 => LoopQ J g tb nx rt σ H1 := by
  rcases hx with hx | hx
  · exact .inl (st_iList (ht _ (for_l hx I w h0 hs hd)))
  · exact .inr (st_iTup (ht _ (for_t hx I w h0 hs hd)))
theorem lc_t (hx : SqT K G a xs) (I : Nat → List V → Hp → Prop) (w : Wd G W H) (h0 : I 0 [] G) (hw : ∀ x, wipe ((wipe σ vs).set j x) vs = wipe σ vs)
    (hs : ∀ (i : Nat) x D G' H' acc, xs[i]? = some x → Same G G' → Wd G' ((D, Is (.lst acc)) :: W) H' → I i acc G' → tt ((wipe σ vs).set j (some x)) H' fun b H3 =>
      if b = true then te ((wipe σ vs).set j (some x)) H3 fun y H4 => ∃ acc, H4 D = some (.lst acc) ∧ acc.length < sizeLine ∧ LcB I G W D (i + 1) (upd H4 D (.lst (acc ++ [y]))) else LcB I G W D (i + 1) H3)
    (hd : ∀ D G' H' acc, Same G G' → Wd G' ((D, Is (.lst acc)) :: W) H' → I xs.length acc G' → Q (.ref D) H') : ∃ a', V.ref a = .ref a' ∧ (∃ xs, SqT K H a' xs) ∧ LcQ (Itt K a') (gName j) tt te vs σ H Q :=
  ⟨a, rfl, ⟨xs, tup_up w hx⟩, lc_go walk_tup I w (fun _ _ _ e w' => tup_up w' (seqT e hx)) h0 (fun i x D G' H' H'' acc _ e w' h y => by
    obtain ⟨rfl, y⟩ := y
    exact ⟨hw _, hs i x D G' H'' acc y e w' h⟩) hd⟩
theorem lc_seq (ht : ∀ Q : VK, Q (.ref a) H → tl σ H Q) (hx : SqL K G a xs ∨ SqT K G a xs) (I : Nat → List V → Hp → Prop) (w : Wd G W H) (h0 : I 0 [] G) (hw : ∀ x, wipe ((wipe σ vs).set j x) vs = wipe σ vs)
    (hs : ∀ (i : Nat) x D G' H' acc, xs[i]? = some x → Same G G' → Wd G' ((D, Is (.lst acc)) :: W) H' → I i acc G' → tt ((wipe σ vs).set j (some x)) H' fun b H3 =>
      if b = true then te ((wipe σ vs).set j (some x)) H3 fun y H4 => ∃ acc, H4 D = some (.lst acc) ∧ acc.length < sizeLine ∧ LcB I G W D (i + 1) (upd H4 D (.lst (acc ++ [y]))) else LcB I G W D (i + 1) H3)
    (hd : ∀ D G' H' acc, Same G G' → Wd G' ((D, Is (.lst acc)) :: W) H' → I xs.length acc G' → Q (.ref D) H') : iSeqA K tl σ H fun J H1 => LcQ J (gName j) tt te vs σ H1 Q := by
  rcases hx with hx | hx
  · exact .inl (st_iList (ht _ (lc_l hx I w h0 hw hs hd)))
  · exact .inr (st_iTup (ht _ (lc_t hx I w h0 hw hs hd)))
end
end Z

/-! defs that ask what guards stand around them (repr of data) -/
namespace Z
open PySem PySem.Spec PyProof.Rows L2
/-- a promise kept where no guard stands around -/
structure FnG (P : Program) (w : World) (K : PySem.W.Frag) (mg : Str → Option Value) (base : Heap) (k : Nat) (f : Addr) (fd : FuncData) (ps : List Str) (sp : Sp) : Prop where
  len : ∀ vs H Q E, sp vs H Q E → vs.length = ps.length
  run : ∀ (A : Around) (outer : List Env) (s : Shared) (H : Hp) (args : Args) (us : List Value) (vs : List V) (Q : VK) (E : XK), Room k A → A.guards = some [] → Env0 P w K mg base A outer s H → BindsTo s fd args (ps.zip us) → Vals vs us → sp vs H Q E →
    codeAny (model P w) A (.call (.ref f) args) (CR CX0 outer P w H s Q E) s
theorem FnG.of {P : Program} {w : World} {K : PySem.W.Frag} {mg : Str → Option Value} {base : Heap} {k : Nat} {f : Addr} {fd : FuncData} {ps : List Str} {sp : Sp} (F : FnOk P w K mg base CX0 k f fd ps sp) : FnG P w K mg base k f fd ps sp :=
  ⟨F.len, fun A outer s H args us vs Q E hr _ e0 hb r h => F.run A outer s H args us vs Q E hr e0 hb r h⟩
section
variable {P : Program} {w : World} {K : PySem.W.Frag} {mg : Str → Option Value} {base : Heap} {x qual : Str} {params : Arguments} {body : List Stmt} {scope : Scope} {dvs : List V} {kws : List (Str × V)} {f : Addr} {fd : FuncData}
theorem okG {N ps : List Str} {k : Nat} {sp : Sp} (F : FunD K x qual params body scope dvs kws f fd) (S : FnScope N ps scope) (len : ∀ vs H Q E, sp vs H Q E → vs.length = ps.length)
    (hbody : ∀ (cdv : Value) (A : Around) (outer : List Env) (s : Shared) (H : Hp) (vs : List V) (Q : VK) (E : XK), A.guards = some [] → Room k (A.deeper (envOfC qual scope s.heap.objs.size f cdv)) → sp vs H Q E →
      ∃ t, PSs (cxOf CX0 P w K mg base N qual scope f cdv A outer s H E).nox body t ∧ t { nx := fun _ H' => Q .non H', rt := Q } (start N vs) H) : FnG P w K mg base (k + 1) f fd ps sp := by
  obtain ⟨oc, od, dV, kV, doc, pm, an, cdv, ct, osl, rfl, lk, hcd, _, _⟩ := F.ex
  refine ⟨len, fun A outer s H args us vs Q E hr hgd e0 hb r hsp => ?_⟩
  have KX : K.In s.heap := e0.mod.kin.keeps fun b o e => (e0.bs b o e).1
  have kd : ∀ y ∈ ps.zip us, scope.names.lookup y.1 = some .local ∨ (scope.names.lookup y.1 = some .cell ∧ ((cellsFrom (s.heap.objs.size + 1) scope.names []).lookup y.1).isSome = true) := fun y hy =>
    (S.par y.1 (List.of_mem_zip (a := y.1) (b := y.2) hy).1).imp (fun q => q) fun q => ⟨q, PySem.W.cellsFrom_some _ _ _ (.inl q)⟩
  refine codeAny_call_function hr.depth (KX _ _ lk) rfl S.co S.gen rfl (PySem.W.codeRec_of KX hcd) (hb _ _ _ _ (wpAny_newFunctionEnv_cells S.kind kd fun env he s1 y => ?_))
  cases he
  obtain ⟨t, ht, hq⟩ := hbody cdv A outer s H vs Q E hgd (hr.deeper _) hsp
  refine ⟨(e0.mod.nolimit.keeps fun b o e => (e0.bs b o e).1).keeps y.toInCall.keep, codeAny_func (wpAny_mono (ht.nox.run [] s1 (start N vs) H _ (inv_start S hr.hd e0 (len _ _ _ _ hsp) r y) hq) (fun fl s' hs => ?_) fun e s' hs => hs)⟩
  cases fl with
  | ret u => exact let ⟨v, _, H', J, rv, q⟩ := hs; ⟨v, H', J.os, J.bare, J.base, J.hok, rv, q⟩
  | next => exact let ⟨_, H', J, q⟩ := hs; ⟨.non, H', J.os, J.bare, J.base, J.hok, rfl, q⟩
  | brk => exact let ⟨_, _, _, q⟩ := hs; False.elim q
  | cont => exact let ⟨_, _, _, q⟩ := hs; False.elim q
end
section
variable {X : Cx} {k n : Nat} {f : Addr} {fd : FuncData} {ps ks : List Str} {ds : List Value} {dvs : List V} {sp : Sp} {E : XK} {x : Str} {p pos : Pos} {e : Expr} {es : List Expr} {kws : List Keyword} {t tk : TA} {g : List Value → List Value → List Value} {gV : List V → List V → List V}
theorem run_fnG {pins : List (Addr × Obj)} {σ : L2.St} {H : Hp} {s : Shared} {Q : VK} {us : List Value} {vs : List V} (F : FnG X.prog X.w X.K X.mg X.base k f fd ps sp) (hr : Room k X.A) (hgd : X.A.guards = some []) (hb : Binds X.K fd ps ds) (hd : Vals dvs ds)
    (I : Inv X pins σ H s) (r : Vals vs us) (h : sp (vs ++ dvs) H Q E) : wpAny (model X.prog X.w) X.A (call (.ref f) us) (EP X pins σ Q) X.xe s := by
  have r2 := r.append hd
  refine wpAny_call (codeAny_mono (F.run X.A X.stack s H ⟨us, []⟩ _ _ Q E hr hgd I.env0 (hb s us I.kIn (r2.length.symm.trans (F.len _ _ _ _ h))) r2 h) fun r s' hq => ?_)
  cases r with
  | error e => exact False.elim hq
  | ok fl => cases fl with
    | ret u => exact I.after hq
    | _ => exact False.elim hq
theorem pe_callG (F : FnG X.prog X.w X.K X.mg X.base k f fd ps sp) (hr : Room k X.A) (hgd : X.A.guards = some []) (hg : Gl X x) (hm : X.mg x = some (.ref f)) (hk : PySem.W.keepIn X.K (.ref f) = true) (hb : Binds X.K fd ps ds) (hd : Vals dvs ds)
    (ha : PA X (e :: es) t) (hdb : (x == ("__debug__" : Str)) = false := by decide) (he : starEach (e :: es) X.env = (false, eval e X.env) :: starEach es X.env := by rfl) (hpl : (backTo pos (starEach es X.env)).any (·.1) = false := by rfl) :
    PE X (.Call (.Name x p) (e :: es) [] pos) (tCall sp dvs E0 t) :=
  ⟨fun pins s σ H Q I h => wpAny_Call_Name_kw (ld_glob I hg hm (PySem.W.callWith_K (h₀ := X.base) I.ok.mod.kin hk (thn (ha.run pos pins _ σ H _ (I.tok _) h) fun us s1 ⟨vs, H1, I1, r, q⟩ => ⟨I1.kIn, run_fnG (E := E0) F hr hgd hb hd I1 r q⟩) he hpl) hdb)⟩
/-- repr of data -/
def rRepr (K : PySem.W.Frag) : List V → Hp → VK → Prop := fun xs H Q => ∃ x d, xs = [x] ∧ Dp K H x d ∧ d.showable = true ∧ d.canLay0 = true ∧ d.depth ≤ 60 ∧ d.shown.length ≤ sizeLine ∧ Q (.str d.shown) H
theorem call_reprD (hgd : X.A.guards = some []) (hu : X.A.units + 64 < cLine) : CallR X (.builtin "repr") (rRepr X.K) := by
  intro pins s σ H xs us Q I r h
  obtain ⟨x, d, rfl, hd, hs, hc, hp, hz, q⟩ := h
  obtain ⟨u, rfl, rx⟩ := vals1 r
  obtain ⟨as, rd⟩ := Dp.reads I d x u hd rx
  cases hd with
  | non =>
    cases rx
    exact PySem.P.repr_of_none ⟨.str _, H, I.tok _, ⟨_, rfl⟩, q⟩
  | bl b =>
    cases rx
    refine PySem.P.repr_of_bool ⟨.str _, H, I.tok _, ⟨_, rfl⟩, ?_⟩
    simpa [PyData.shown] using q
  | int i =>
    obtain ⟨t, rfl⟩ := rx
    refine PySem.P.repr_of_int (by simpa [PyData.showable] using hs) ⟨.str _, H, I.tok _, ⟨_, rfl⟩, ?_⟩
    simpa [PyData.shown] using q
  | str z =>
    obtain ⟨t, rfl⟩ := rx
    refine PySem.P.repr_of_str ⟨.str _, H, I.tok _, ⟨_, rfl⟩, ?_⟩ (by simpa [PyData.shown] using hz)
    simpa [PyData.shown] using q
  | lst _ _ =>
    cases rx
    exact repr_of_reads' rd hs (PyData.noDict_hsm (PyData.hasDict_of_canLay _ hc)) hgd (by omega) (fun _ _ e => e) (fun h' u tk hk => ⟨.str _, H, I.kept (t' := tk) hk, ⟨_, rfl⟩, q⟩) hz
  | tup _ _ =>
    cases rx
    exact repr_of_reads' rd hs (PyData.noDict_hsm (PyData.hasDict_of_canLay _ hc)) hgd (by omega) (fun _ _ e => e) (fun h' u tk hk => ⟨.str _, H, I.kept (t' := tk) hk, ⟨_, rfl⟩, q⟩) hz
end

/-! ### lists of ints put together -/
section
variable {K : PySem.W.Frag} {G H : Hp} {W : Wl} {Q : VK} {a b : Addr}
/-- a list of ints that stands whole -/
def HL (G : Hp) (a : Addr) (ns : List Int) : Prop := G a = some (.lst (ns.map V.int))
theorem HL.seq {ns : List Int} (h : HL G a ns) : SqL K G a (ns.map V.int) := SqL.of h
theorem HL.up {G' : Hp} {ns : List Int} (h : HL G a ns) (e : Same G G') : HL G' a ns := e _ _ h
theorem st_catI {xs ys : List Int} (ha : H a = some (.lst (xs.map V.int))) (hb : H b = some (.lst (ys.map V.int))) (hz : xs.length + ys.length ≤ 1000000) (w : Wd G W H) (k : ∀ p G' H', Same G G' → Wd G' W H' → HL G' p (xs ++ ys) → Q (.ref p) H') : rCat (.ref a) (.ref b) H Q := by
  refine ⟨a, b, _, _, rfl, rfl, ha, hb, small (by rw [List.length_map, List.length_map]; exact hz), fun p hp => ?_⟩
  rw [← List.map_append]
  exact k p _ _ (same_upd (w.free hp)) (w.new hp) upd_same
theorem st_catV {xs ys : List V} (ha : H a = some (.lst xs)) (hb : H b = some (.lst ys)) (hz : xs.length + ys.length ≤ 1000000) (w : Wd G W H) (k : ∀ p G' H', Same G G' → Wd G' W H' → G' p = some (.lst (xs ++ ys)) → Q (.ref p) H') : rCat (.ref a) (.ref b) H Q :=
  ⟨a, b, _, _, rfl, rfl, ha, hb, small hz, fun p hp => k p _ _ (same_upd (w.free hp)) (w.new hp) upd_same⟩
theorem flat_rep {α : Type} (n : Nat) (x : α) : (List.replicate n [x]).flatten = List.replicate n x := by
  induction n with
  | zero => rfl
  | succ n ih => rw [List.replicate_succ, List.flatten_cons, ih]; rfl
theorem st_repI {x k : Int} (ha : H a = some (.lst [.int x])) (h0 : 0 ≤ k) (h1 : k ≤ 1000000) (w : Wd G W H) (q : ∀ p G' H', Same G G' → Wd G' W H' → HL G' p (List.replicate k.toNat x) → Q (.ref p) H') : rRep (.ref a) (.int k) H Q := by
  refine ⟨a, k, _, rfl, rfl, ha, by omega, by omega, small (by simp; omega), fun p hp => ?_⟩
  rw [flat_rep]
  exact q p _ _ (same_upd (w.free hp)) (w.new hp) (by unfold HL; rw [upd_same, List.map_replicate])
theorem st_repI2 {xs : List Int} {k : Int} (ha : H a = some (.lst (xs.map V.int))) (h0 : 0 ≤ k) (h1 : xs.length * k.toNat ≤ 1000000) (h2 : k ≤ 1000000) (w : Wd G W H) (q : ∀ p G' H', Same G G' → Wd G' W H' → HL G' p (List.replicate k.toNat xs).flatten → Q (.ref p) H') : rRep (.ref a) (.int k) H Q := by
  refine ⟨a, k, _, rfl, rfl, ha, by omega, by omega, small (by rw [List.length_map]; exact h1), fun p hp => ?_⟩
  exact q p _ _ (same_upd (w.free hp)) (w.new hp) (by unfold HL; rw [upd_same, List.map_flatten, List.map_replicate])
theorem iteBT {c : Bool} {a b : Prop} (h : c = true) (q : a) : if c = true then a else b := by rw [if_pos h]; exact q
theorem iteBF {c : Bool} {a b : Prop} (h : c = false) (q : b) : if c = true then a else b := by rw [h]; exact L2.iteF q
theorem iteNT {a b : Prop} (h : a) : if (!false) = true then a else b := L2.iteT h
theorem iteNF {a b : Prop} (h : b) : if (!true) = true then a else b := L2.iteF h
theorem mem_two {v x y : V} {P : V → Prop} (h : v ∈ [x, y]) (h1 : P x) (h2 : P y) : P v := by
  rcases List.mem_cons.mp h with rfl | h
  · exact h1
  · rcases List.mem_cons.mp h with rfl | h
    · exact h2
    · exact nomatch h
end
section
variable {K : PySem.W.Frag} {H : Hp}
def dT (ns : List Int) : PyData := .tuple (ns.map .int)
theorem dp_tints {a : Addr} {ns : List Int} (h : SqT K H a (ns.map V.int)) : Dp K H (.ref a) (dT ns) := .tup h (dpInts ns)
theorem sh_tints (ns : List Int) : Sh 1 (dT ns) := Sh.tuple fun d hd => by
  obtain ⟨n, _, rfl⟩ := List.mem_map.mp hd
  exact .int n
theorem eqv_dT (a b : List Int) : PyData.eqv (dT a) (dT b) = decide (a = b) := by
  unfold dT PyData.eqv
  exact eqvAll_map _ eqv_int a b
/-- tuples of ints -/
theorem st_eqT {Q : VK} {a b : Addr} (xs ys : List Int) (hx : SqT K H a (xs.map V.int)) (hy : SqT K H b (ys.map V.int)) (q : Q (.bl (decide (xs = ys))) H) : rEqD K (.ref a) (.ref b) H Q :=
  st_eqD (dp_tints hx) (dp_tints hy) ((sh_tints xs).ok (by decide)) ((sh_tints ys).ok (by decide)) (eqv_dT xs ys) q
theorem st_neT {Q : VK} {a b : Addr} (xs ys : List Int) (hx : SqT K H a (xs.map V.int)) (hy : SqT K H b (ys.map V.int)) (q : Q (.bl (!decide (xs = ys))) H) : rNeD K (.ref a) (.ref b) H Q :=
  st_neD (dp_tints hx) (dp_tints hy) ((sh_tints xs).ok (by decide)) ((sh_tints ys).ok (by decide)) (eqv_dT xs ys) q
end
/-- all of a list -/
def AllP {α : Type} (P : α → Prop) : List α → Prop
  | [] => True
  | x :: xs => P x ∧ AllP P xs
theorem AllP.app {α : Type} {P : α → Prop} : ∀ {xs ys : List α}, AllP P xs → AllP P ys → AllP P (xs ++ ys)
  | [], _, _, h => h
  | _ :: _, _, h, h2 => ⟨h.1, AllP.app h.2 h2⟩
theorem AllP.of {α : Type} {P : α → Prop} : ∀ {xs : List α}, AllP P xs → ∀ x ∈ xs, P x
  | _ :: _, h, _, hx => by
    rcases List.mem_cons.mp hx with rfl | hx
    · exact h.1
    · exact AllP.of h.2 _ hx
/-! ### comprehensions whose elements change what may change -/
section
variable {K : PySem.W.Frag} {σ : L2.St} {H G : Hp} {D : Addr} {g : TG} {tt : TT} {te : TE} {vs : List Nat} {Q : VK} {a b : Addr} {xs ys : List V} {n : Nat}
theorem lc_goW {J : It} {Gp : Hp → Prop} {Y : Nat → Hp → V → Hp → Prop} (wk : Walk J n Gp Y) (Wf : Nat → Wl) (I : Nat → List V → Hp → Prop) (w : Wd G (Wf 0) H) (hG : ∀ G' W' H', Same G G' → Wd G' W' H' → Gp H') (h0 : I 0 [] G)
    (hs : ∀ i x D G' H' H'' acc, i < n → Same G G' → Wd G' ((D, Is (.lst acc)) :: Wf i) H' → I i acc G' → Y i H' x H'' → g x (wipe σ vs) H'' fun σ2 H2 => wipe σ2 vs = wipe σ vs ∧ tt σ2 H2 fun b H3 =>
      if b = true then te σ2 H3 fun y H4 => ∃ acc, H4 D = some (.lst acc) ∧ acc.length < sizeLine ∧ LcB I G (Wf (i + 1)) D (i + 1) (upd H4 D (.lst (acc ++ [y]))) else LcB I G (Wf (i + 1)) D (i + 1) H3)
    (hd : ∀ D G' H' acc, Same G G' → Wd G' ((D, Is (.lst acc)) :: Wf n) H' → I n acc G' → Q (.ref D) H') : LcQ J g tt te vs σ H Q := fun D hD =>
  lc_it wk (fun i => LcB I G (Wf i) D i) ⟨G, [], Same.refl _, w.newM hD rfl, h0⟩ (fun _ _ _ ⟨_, _, e, w', _⟩ => hG _ _ _ e w') (fun i x H' H'' hi ⟨G', acc, e, w', h⟩ y => hs i x D G' H' H'' acc hi e w' h y) fun H' ⟨G', acc, e, w', h⟩ => hd D G' H' acc e w' h
theorem lc_r1W {z : Int} {j : Nat} (hz : -(2 ^ 62) ≤ z ∧ z < 2 ^ 62) (Wf : Nat → Wl) (I : Nat → List V → Hp → Prop) (w : Wd G (Wf 0) H) (h0 : I 0 [] G) (hw : ∀ x, wipe ((wipe σ vs).set j x) vs = wipe σ vs)
    (hs : ∀ (i : Nat) D G' H' acc, (i : Int) < z → Same G G' → Wd G' ((D, Is (.lst acc)) :: Wf i) H' → I i acc G' → tt ((wipe σ vs).set j (some (.int (i : Int)))) H' fun b H3 =>
      if b = true then te ((wipe σ vs).set j (some (.int (i : Int)))) H3 fun y H4 => ∃ acc, H4 D = some (.lst acc) ∧ acc.length < sizeLine ∧ LcB I G (Wf (i + 1)) D (i + 1) (upd H4 D (.lst (acc ++ [y]))) else LcB I G (Wf (i + 1)) D (i + 1) H3)
    (hd : ∀ D G' H' acc, Same G G' → Wd G' ((D, Is (.lst acc)) :: Wf z.toNat) H' → I z.toNat acc G' → Q (.ref D) H') : ∃ j' : Int, [V.int z] = [.int j'] ∧ -(2 ^ 62) ≤ j' ∧ j' < 2 ^ 62 ∧ LcQ (Itr 0 j'.toNat) (gName j) tt te vs σ H Q :=
  ⟨z, rfl, hz.1, hz.2, lc_goW walk_range Wf I w (fun _ _ _ _ _ => trivial) h0 (fun i x D G' H' H'' acc hi e w' h y => by
    obtain ⟨rfl, rfl⟩ := y
    have e0 : (0 : Int) + (i : Int) = (i : Int) := Int.zero_add _
    dsimp only
    rw [e0]
    exact ⟨hw _, hs i D G' H'' acc (by omega) e w' h⟩) hd⟩
end
section
variable {K : PySem.W.Frag} {σ : L2.St} {H G : Hp} {W : Wl} {Q : VK} {a b : Addr} {xs ys : List V}
theorem st_chain {r r' : R2} {ta tb tc : TE} (h : ta σ H fun x H1 => tb σ H1 fun y H2 => r x y H2 fun z H3 => ∃ k, z = .bl k ∧ (if k = true then tc σ H3 fun w' H4 => r' y w' H4 Q else Q (.bl false) H3)) : tChain r r' ta tb tc σ H Q := h
theorem st_gtup {n : Nat} {t : TGs} {QS : L2.St → Hp → Prop} (hx : SqT K H a xs) (hl : xs.length = n) (h : t xs σ H QS) : gTup K n t (.ref a) σ H QS := ⟨a, xs, rfl, hx, hl, h⟩
theorem st_gcons {v : V} {r : List V} {t : TG} {u : TGs} {QS : L2.St → Hp → Prop} (h : t v σ H fun σ' H' => u r σ' H' QS) : gCons t u (v :: r) σ H QS := ⟨v, r, rfl, h⟩
theorem st_gnil {QS : L2.St → Hp → Prop} (h : QS σ H) : gNil [] σ H QS := ⟨rfl, h⟩
theorem Wd.is1 {o : HO} (w : Wd G ((a, Is o) :: W) H) : H a = some o := by
  obtain ⟨o', h, rfl⟩ := w.get List.mem_cons_self
  exact h
theorem st_appL {y : V} (h : H a = some (.lst xs)) (hl : xs.length < 1000000) (q : Q .non (upd H a (.lst (xs ++ [y])))) : rAppend (.ref a) [y] H Q := ⟨a, xs, y, rfl, rfl, h, small' (Nat.le_of_lt hl), q⟩
theorem st_sl {r : V → Option Int → Option Int → Hp → VK → Prop} {te : TE} {tl th : TO} (h : te σ H fun x H1 => tl σ H1 fun l H2 => th σ H2 fun u H3 => r x l u H3 Q) : tSl r te tl th σ H Q := h
theorem st_noPart {Q : Option Int → Hp → Prop} (q : Q none H) : tNoPart σ H Q := q
theorem st_part {Q : Option Int → Hp → Prop} {t : TE} (h : t σ H fun x H1 => ∃ i, x = .int i ∧ Q (some i) H1) : tPart t σ H Q := h
theorem cut_lo {xs : List V} {i : Int} (h0 : 0 ≤ i) (h1 : i ≤ xs.length) : cutV xs none (some i) = xs.take i.toNat := by
  unfold cutV
  simp only [HT.sIx, if_neg (show ¬ i < 0 by omega)]
  rw [List.drop_zero, Nat.sub_zero, Nat.min_eq_left (by omega)]
theorem cut_hi {xs : List V} {i : Int} (h0 : 0 ≤ i) (h1 : i ≤ xs.length) : cutV xs (some i) none = xs.drop i.toNat := by
  unfold cutV
  simp only [HT.sIx, if_neg (show ¬ i < 0 by omega)]
  rw [Nat.min_eq_left (by omega), List.take_of_length_le]
  rw [List.length_drop]
  omega
theorem st_slL {lo hi : Option Int} (h : SqL K H a xs) (w : Wd G W H) (q : ∀ p G' H', Same G G' → Wd G' W H' → G' p = some (.lst (cutV xs lo hi)) → Q (.ref p) H') : rSlL K (.ref a) lo hi H Q := ⟨a, xs, rfl, h, NewO.good w q⟩
theorem dw_ok {i j : Int} (h0 : 0 < j) (h1 : j < 2 ^ 250) : CDivW i j := by
  have h2 : j.natAbs.log2 < 250 := (Nat.log2_lt (by omega)).mpr (by omega)
  exact ⟨h0, by omega⟩
theorem pw_ok {i j : Int} (h0 : 0 ≤ i) (h1 : i < 2 ^ 100) (h2 : 0 ≤ j) (h3 : j ≤ 1000) : CPowW i j := by
  refine ⟨h2, ?_⟩
  have h4 : Builtin.Int.intBits i ≤ 100 := PyProof.Rows.intBits_le (by omega)
  have h5 : (Builtin.Int.intBits i : Int) ≤ 100 := by omega
  have h6 := Int.mul_le_mul h5 h3 h2 (by decide)
  omega
end
/-! ### the law itself -/
section
variable {P : Program} {w : World} {K : PySem.W.Frag} {mg mb : Str → Option Value} {k : Nat} {fa a : Addr} {fd : FuncData} {x : Str} {sp : Sp} {s₁ : Shared} {vs : List Value} {ns : List Int}
/-- the heap behind the top without what H tells -/
theorem hid_ns {h : Heap} {H : Hp} {b : Addr} {m : Str → Option Value} {va : Array Value} (hA : ∀ b, H b ≠ none → b = a) (ha : h.get? a = some { cls := .type "list", data := .seq va }) (n : h.Ns b m) : (hidT h H).Ns b m := by
  obtain ⟨o, es, ep, e, d, r⟩ := n
  refine ⟨o, es, ep, hidT_get e ?_, d, r⟩
  cases q : H b with
  | none => rfl
  | some u =>
    rw [hA b (by rw [q]; exact fun z => nomatch z), ha] at e
    have e2 := Option.some.inj e
    rw [← e2] at d
    exact nomatch d
theorem law_core (KX : K.In s₁.heap) (hns : s₁.heap.Ns mainGlobals mg) (hb : s₁.heap.Ns builtinsNs mb) (hbb : ∀ x : Str, x ≠ "__name__" → mb x = bootBuiltins x) (hlim : s₁.heap.NoLimit) (hg : s₁.gens = #[])
    (ha : s₁.heap.get? a = some { cls := .type "list", data := .seq vs.toArray }) (hr : Room k callerA) (F : ∀ base : Heap, K.In base → base.Ns mainGlobals mg → FnG P w K mg base k fa fd [x] sp) (hbind : ∀ (s : Shared) (u : Value), BindsTo s fd ⟨[u], []⟩ [(x, u)])
    {H : Hp} (hO : Only H) (hsp : sp [.ref a] H (fun v _ => v = .bl true) fun _ _ _ => False) (hok : HOk P w H s₁.heap) (hA : ∀ b, H b ≠ none → b = a) (hK : H a ≠ none → K.lookup a = none) :
    codeAny (model P w) callerA (.call (.ref fa) ⟨[.ref a], []⟩) (fun r s' => r = .ok (.ret (.bool true)) ∧ OldK s₁.heap s'.heap ∧ s'.os = s₁.os ∧ AllBare s'.gens) s₁ := by
  have hKb : K.In (hidT s₁.heap H) := fun b o e => hidT_get (KX b o e) (by
    cases q : H b with
    | none => rfl
    | some u =>
      have n : H b ≠ none := by rw [q]; exact fun z => nomatch z
      have eb := hA b n
      rw [eb] at n e
      rw [hK n] at e
      exact nomatch e)
  have M : Mod K mg (hidT s₁.heap H) := ⟨hKb, hid_ns hA ha hns, ⟨mb, hid_ns hA ha hb, hbb⟩, let ⟨mc, h1, h2⟩ := hlim; ⟨mc, hid_ns hA ha h1, h2⟩⟩
  have e0 : Env0 P w K mg (hidT s₁.heap H) callerA [] s₁ H := ⟨rfl, M, fun b o e => of_hidT e, Nat.le_of_eq (hidT_size _ _), trivial, fun b z => (List.not_mem_nil z).elim, hok, .of_eq hg⟩
  refine codeAny_mono ((F _ hKb (hid_ns hA ha hns)).run callerA [] s₁ H ⟨[.ref a], []⟩ [.ref a] [.ref a] _ _ hr rfl e0 (hbind s₁ (.ref a)) (.cons rfl .nil) hsp) fun r s' h => ?_
  cases r with
  | error e => exact False.elim h
  | ok fl => cases fl with
    | ret u =>
      obtain ⟨v, H', os, bare, un, hok', r', q⟩ := h
      cases (show v = .bl true from q)
      cases (show u = Value.bool true from r')
      refine ⟨rfl, OldK.of_keep fun b o e => ?_, os, bare⟩
      cases z : H b with
      | none => exact un.keep b o e z (List.not_mem_nil) (List.not_mem_nil)
      | some u =>
        rcases hO b with y | ⟨ob, xs, y⟩
        · rw [z] at y
          cases y
        · have e1 := (hok b _ y).1
          have e2 := (hok' b _ (un.frzs b ob _ y)).1
          rw [e] at e1
          cases e1
          exact e2
    | _ => exact False.elim h
theorem law_callG (KX : K.In s₁.heap) (hns : s₁.heap.Ns mainGlobals mg) (hb : s₁.heap.Ns builtinsNs mb) (hbb : ∀ x : Str, x ≠ "__name__" → mb x = bootBuiltins x) (hlim : s₁.heap.NoLimit) (hg : s₁.gens = #[])
    (ha : s₁.heap.get? a = some { cls := .type "list", data := .seq vs.toArray }) (hi : IntsAre vs ns) (hl : ns.length ≤ sizeLine) (hr : Room k callerA) (F : ∀ base : Heap, K.In base → base.Ns mainGlobals mg → FnG P w K mg base k fa fd [x] sp)
    (hbind : ∀ (s : Shared) (u : Value), BindsTo s fd ⟨[u], []⟩ [(x, u)]) (hsp : ∀ H : Hp, Only H → SqL K H a (ns.map V.int) → sp [.ref a] H (fun v _ => v = .bl true) fun _ _ _ => False) :
    codeAny (model P w) callerA (.call (.ref fa) ⟨[.ref a], []⟩) (fun r s' => r = .ok (.ret (.bool true)) ∧ OldK s₁.heap s'.heap ∧ s'.os = s₁.os ∧ AllBare s'.gens) s₁ := by
  have rv := vals_ints hi
  cases hk : K.lookup a with
  | some o =>
    have e := KX a o hk
    rw [ha] at e
    cases e
    have hO : Only fun _ => none := fun _ => .inl rfl
    exact law_core KX hns hb hbb hlim hg ha hr F hbind hO (hsp _ hO (.inr ⟨_, vs.toArray, _, hk, rfl, rfl, rfl, by rw [List.size_toArray, hi.length]; exact hl, by simpa using rv⟩)) (fun b u z => nomatch z) (fun b z => (z rfl).elim) fun z => (z rfl).elim
  | none =>
    have hO : Only fun b => if b = a then some (.frz { cls := .type "list", data := .seq vs.toArray } (.lst (ns.map V.int))) else none := fun b => by
      by_cases z : b = a
      · exact .inr ⟨_, _, if_pos z⟩
      · exact .inl (if_neg z)
    refine law_core KX hns hb hbb hlim hg ha hr F hbind hO (hsp _ hO (.inl (.inr ⟨_, if_pos rfl⟩))) (fun b u z => ?_) (fun b z => ?_) fun _ => hk
    · by_cases y : b = a
      · have z2 := (if_pos y).symm.trans z
        cases z2
        cases y
        exact ⟨ha, by rw [List.length_map]; exact hl, vs, _, rv, ha⟩
      · exact nomatch (if_neg y).symm.trans z
    · exact Decidable.byContradiction fun y => z (if_neg y)
end
theorem walk_G {l : PySem.W.OpenLaw} {n k : Nat} {q : Program} {loose : List Str} {XP : (Str → Option Value) → Heap → Prop} {YP : World → Heap → Prop} {d : DefRec} {K : Params → PySem.W.Frag} {sp : World → Sp} {x : Str} (hn : l.most = some n) (hn2 : n ≤ sizeLine) (hdf : d.params.defaults = [])
    (hr : Room k callerA) (hY : ∀ (w : World) (h : Heap), YP w h → (K w.params).In h)
    (F : ∀ (w : World) (mg : Str → Option Value) (fa : Addr) (h : Heap), (K w.params).In h → h.Ns mainGlobals mg → mg d.name = some (.ref fa) →
      ∃ fd : FuncData, (∀ (s : Shared) (u : Value), BindsTo s fd ⟨[u], []⟩ [(x, u)]) ∧ ∀ base : Heap, (K w.params).In base → base.Ns mainGlobals mg → FnG l.prog w (K w.params) mg base k fa fd [x] (sp w))
    (hsp : ∀ (w : World) (H : Hp) (a : Addr) (ns : List Int), ns.length ≤ n → Only H → SqL (K w.params) H a (ns.map V.int) → sp w [.ref a] H (fun v _ => v = .bl true) fun _ _ _ => False) :
    PySem.W.WalkO q loose XP YP l.row.toRowW d [] (fun f vs => PySem.call f vs) := by
  refine Att.attach_call hn hdf fun w s₀ s₁ mg mb fa o pm cd doc a vs ns G Y ho hd hcd hmg hobj hints hlen hg => ?_
  obtain ⟨fd, hb, hF⟩ := F w mg fa _ (hY w _ Y) G.T.g hmg
  exact law_callG (hY w _ Y) G.T.g G.T.b G.T.builtins G.T.nolimit hg hobj hints (Nat.le_trans hlen hn2) hr hF hb fun H hO hS => hsp w H a ns hlen hO hS
end Z

/-! data of a small size: kinds, repr, places in lists -/
namespace Z
open PySem PySem.Spec PyProof.Rows L2
/-- data whose repr may be asked: n deep -/
def Od (n : Nat) (d : PyData) : Prop := (d.canLay0 && d.showable && d.intsShort 60) = true ∧ d.depth ≤ n ∧ d.weight ≤ 200 * 10 ^ n
instance (n : Nat) (d : PyData) : Decidable (Od n d) := by unfold Od; infer_instance
theorem Od.mono {m n : Nat} {d : PyData} (h : Od m d) (e : m ≤ n) : Od n d := ⟨h.1, Nat.le_trans h.2.1 e, Nat.le_trans h.2.2 (Nat.mul_le_mul_left _ (Nat.pow_le_pow_right (by decide) e))⟩
theorem od_all {n : Nat} : ∀ {ds : List PyData}, (∀ d ∈ ds, Od n d) → (PyData.canLayAll0 ds && PyData.showableAll ds && PyData.intsShortAll 60 ds) = true ∧ PyData.depthAll ds ≤ n ∧ PyData.weightAll ds ≤ ds.length * (200 * 10 ^ n + 1)
  | [], _ => ⟨rfl, Nat.zero_le _, Nat.zero_le _⟩
  | d :: ds, h => by
    obtain ⟨a1, a2, a3⟩ := h d List.mem_cons_self
    obtain ⟨b1, b2, b3⟩ := od_all (ds := ds) fun x hx => h x (List.mem_cons_of_mem _ hx)
    simp only [Bool.and_eq_true] at a1 b1
    refine ⟨?_, ?_, ?_⟩
    · unfold PyData.canLayAll0 PyData.showableAll PyData.intsShortAll
      rw [a1.1.1, a1.1.2, a1.2, b1.1.1, b1.1.2, b1.2]
      rfl
    · unfold PyData.depthAll
      exact Nat.max_le.mpr ⟨a2, b2⟩
    · unfold PyData.weightAll
      rw [List.length_cons, Nat.add_mul]
      omega
theorem od_weight {n k : Nat} (h : k ≤ 9) : k * (200 * 10 ^ n + 1) ≤ 200 * 10 ^ (n + 1) := by
  have h1 : 1 ≤ 10 ^ n := Nat.pow_pos (by decide)
  have h2 : k * (200 * 10 ^ n + 1) ≤ 9 * (200 * 10 ^ n + 1) := Nat.mul_le_mul_right _ h
  rw [Nat.pow_succ]
  omega
theorem Od.list {n : Nat} {ds : List PyData} (h : ∀ d ∈ ds, Od n d) (hl : ds.length ≤ 9) : Od (n + 1) (.list ds) := by
  obtain ⟨a, b, c⟩ := od_all h
  refine ⟨?_, ?_, ?_⟩
  · unfold PyData.canLay0 PyData.showable PyData.intsShort
    exact a
  · unfold PyData.depth
    exact Nat.succ_le_succ b
  · unfold PyData.weight
    exact Nat.le_trans c (od_weight hl)
theorem Od.tuple {n : Nat} {ds : List PyData} (h : ∀ d ∈ ds, Od n d) (hl : ds.length ≤ 9) : Od (n + 1) (.tuple ds) := by
  obtain ⟨a, b, c⟩ := od_all h
  refine ⟨?_, ?_, ?_⟩
  · unfold PyData.canLay0 PyData.showable PyData.intsShort
    exact a
  · unfold PyData.depth
    exact Nat.succ_le_succ b
  · unfold PyData.weight
    exact Nat.le_trans c (od_weight hl)
/-- a longer list, its elements light -/
theorem weightAll_le {w0 : Nat} : ∀ {ds : List PyData}, (∀ d ∈ ds, d.weight ≤ w0) → PyData.weightAll ds ≤ ds.length * (w0 + 1)
  | [], _ => Nat.zero_le _
  | d :: ds, h => by
    have h1 := h d List.mem_cons_self
    have h2 := weightAll_le (ds := ds) fun x hx => h x (List.mem_cons_of_mem _ hx)
    unfold PyData.weightAll
    rw [List.length_cons, Nat.add_mul]
    omega
theorem Od.listW {n w0 : Nat} {ds : List PyData} (h : ∀ d ∈ ds, Od n d) (hw : ∀ d ∈ ds, d.weight ≤ w0) (hl : ds.length * (w0 + 1) ≤ 200 * 10 ^ (n + 1)) : Od (n + 1) (.list ds) ∧ (PyData.list ds).weight ≤ ds.length * (w0 + 1) := by
  obtain ⟨a, b, c⟩ := od_all h
  refine ⟨⟨?_, ?_, ?_⟩, ?_⟩
  · unfold PyData.canLay0 PyData.showable PyData.intsShort
    exact a
  · unfold PyData.depth
    exact Nat.succ_le_succ b
  · unfold PyData.weight
    exact Nat.le_trans (weightAll_le hw) hl
  · unfold PyData.weight
    exact weightAll_le hw
theorem log_lt {i : Int} {k : Nat} (h : i.natAbs < 2 ^ k) (h0 : 0 < k) : i.natAbs.log2 < k := by
  by_cases e : i.natAbs = 0
  · rw [e]
    exact h0
  · exact (Nat.log2_lt e).mpr h
theorem short13 {i : Int} (h : -999999999999 < i ∧ i < 999999999999) : (PyData.shown (.int i)).length ≤ 13 := by
  have h2 := intsShort_of_noneOrIn (lo := -999999999999) (hi := 999999999999) (by decide) (by decide) (.int i) (by simp [noneOrIn, h])
  unfold PyData.intsShort at h2
  exact of_decide_eq_true h2
theorem Od.int {n : Nat} {i : Int} (h : -999999999999 < i ∧ i < 999999999999) : Od n (.int i) := by
  have hl : i.natAbs.log2 < 64 := log_lt (by omega) (by decide)
  refine ⟨?_, ?_, ?_⟩
  · unfold PyData.canLay0 PyData.showable PyData.intsShort
    rw [decide_eq_true (show i.natAbs.log2 < 1920 by omega), decide_eq_true (Nat.le_trans (short13 h) (by decide))]
    rfl
  · unfold PyData.depth
    exact Nat.zero_le _
  · have h1 : 1 ≤ 10 ^ n := Nat.pow_pos (by decide)
    unfold PyData.weight
    split <;> omega
theorem Od.bool {n : Nat} (b : Bool) : Od n (.bool b) := (show Od 0 (.bool b) by cases b <;> decide).mono (Nat.zero_le _)
theorem strOk_of (s : String) : PyData.strOk (Str.ofString s) = true := by
  rw [Str.ofString_eq_toList]
  unfold PyData.strOk
  rw [List.all_toArray, List.all_eq_true]
  intro n hn
  obtain ⟨c, _, rfl⟩ := List.mem_map.mp hn
  refine decide_eq_true ?_
  rcases c.valid with h | h
  · exact Nat.lt_trans (show c.toNat < 55296 from h) (by decide)
  · exact h.2
theorem Od.strInt {n : Nat} {i : Int} (h : -999999999999 < i ∧ i < 999999999999) : Od n (.str (toString i)) := by
  have h2 : ((toString i : Str)).length ≤ 13 := by
    have := short13 h
    unfold PyData.shown at this
    exact this
  refine ⟨?_, ?_, ?_⟩
  · unfold PyData.canLay0 PyData.showable PyData.intsShort
    rw [strOk_of]
    rfl
  · unfold PyData.depth
    exact Nat.zero_le _
  · have h1 : 1 ≤ 10 ^ n := Nat.pow_pos (by decide)
    unfold PyData.weight
    have h3 : (toString i : Str).cps.size = (toString i : Str).length := rfl
    omega
theorem Od.rep {n : Nat} {d : PyData} (h : Od n d) (hn : n ≤ 3) : d.showable = true ∧ d.canLay0 = true ∧ d.depth ≤ 60 ∧ d.shown.length ≤ sizeLine := by
  obtain ⟨a, b, c⟩ := h
  simp only [Bool.and_eq_true] at a
  refine ⟨a.1.2, a.1.1, by omega, ?_⟩
  have h1 := PyData.shown_le 60 (by decide) d (PyData.leavesShort_of_canLay0 60 d a.1.1 a.2)
  have h2 : 10 ^ n ≤ 10 ^ 3 := Nat.pow_le_pow_right (by decide) hn
  have h3 : sizeLine = 16777216 := by decide
  omega
section
variable {X : Cx} {K : PySem.W.Frag} {G H : Hp} {x : V} {d : PyData} {Q : VK}
theorem st_repr {n : Nat} (h : Dp K H x d) (o : Od n d) (hn : n ≤ 3) (q : Q (.str d.shown) H) : rRepr K [x] H Q := let ⟨h1, h2, h3, h4⟩ := o.rep hn; ⟨x, d, rfl, h, h1, h2, h3, h4, q⟩
def nm : PyData → String
  | .none => "NoneType"
  | .bool _ => "bool"
  | .int _ => "int"
  | .str _ => "str"
  | .list _ => "list"
  | .tuple _ => "tuple"
  | .dict _ => "dict"
theorem dp_ty (h : Dp K H x d) : TyX K H x (.type (nm d)) := by
  cases h with
  | non => exact .base .non
  | bl b => exact .base (.bl b)
  | int i => exact .base (.int i)
  | str s => exact .base (.str s)
  | lst h _ => exact tyL h
  | tup h _ => exact tyT h
theorem dp_knd (h : Dp K H x d) : Knd K H x := by
  cases h with
  | non => exact .non
  | bl b => exact .bl b
  | int i => exact .int i
  | str s => exact .str s
  | lst h _ => exact .lst h
  | tup h _ => exact .tup h
def isTup : PyData → Bool
  | .tuple _ => true
  | _ => false
def isLst : PyData → Bool
  | .list _ => true
  | _ => false
def isI : PyData → Bool
  | .int _ => true
  | _ => false
def inR (lo hi : Int) : PyData → Bool
  | .int i => decide (lo ≤ i) && decide (i ≤ hi)
  | _ => false
theorem isInt_d (h : Dp K H x d) : isInt x = isI d := by cases h <;> rfl
theorem inRange_d {lo hi : Int} (h : Dp K H x d) : inRange lo hi x = inR lo hi d := by cases h <;> rfl
theorem isiD {T : String} {b : Bool} (h : Dp K H x d) (e : kitB (nm d) T = some b) (q : Q (.bl b) H) : rIsi K [x, .ty T] H Q := ⟨_, _, _, _, b, rfl, .ty _, dp_ty h, kit_ty e, q⟩
theorem kit_tup : kitB (nm d) "tuple" = some (isTup d) := by
  cases d with
  | none => exact (show kitB "NoneType" "tuple" = some false by decide +kernel)
  | bool b => exact (show kitB "bool" "tuple" = some false by decide +kernel)
  | int b => exact (show kitB "int" "tuple" = some false by decide +kernel)
  | str b => exact (show kitB "str" "tuple" = some false by decide +kernel)
  | list b => exact (show kitB "list" "tuple" = some false by decide +kernel)
  | tuple b => exact (show kitB "tuple" "tuple" = some true by decide +kernel)
  | dict b => exact (show kitB "dict" "tuple" = some false by decide +kernel)
theorem kit_lst : kitB (nm d) "list" = some (isLst d) := by
  cases d with
  | none => exact (show kitB "NoneType" "list" = some false by decide +kernel)
  | bool b => exact (show kitB "bool" "list" = some false by decide +kernel)
  | int b => exact (show kitB "int" "list" = some false by decide +kernel)
  | str b => exact (show kitB "str" "list" = some false by decide +kernel)
  | list b => exact (show kitB "list" "list" = some true by decide +kernel)
  | tuple b => exact (show kitB "tuple" "list" = some false by decide +kernel)
  | dict b => exact (show kitB "dict" "list" = some false by decide +kernel)
theorem isiLT {p : Addr} (hp : H p = some (.tup [.ty "list", .ty "tuple"])) (h : Dp K H x d) (q : Q (.bl (isLst d || isTup d)) H) : rIsiT K [x, .ref p] H Q := by
  refine ⟨_, p, _, _, _, isLst d || isTup d, rfl, hp, .cons (.ty _) (.cons (.ty _) .nil), dp_ty h, ?_, q⟩
  refine kB (r := isLst d) kit_lst (fun e => ?_) (fun e => by rw [e]; rfl)
  refine kB (r := isTup d) kit_tup (fun e2 => ?_) (fun e2 => by rw [e, e2]; rfl)
  rw [e, e2]
  rfl
end
section
variable {K : PySem.W.Frag} {G G' H : Hp} {W : Wl} {Q : VK} {v : V} {xs : List V} {n : Nat}
def SomeN (n : Nat) (K : PySem.W.Frag) (G : Hp) (v : V) : Prop := ∃ d, Dp K G v d ∧ Od n d
theorem SomeN.up (e : Same G G') (h : SomeN n K G v) : SomeN n K G' v := let ⟨d, h1, h2⟩ := h; ⟨d, dmono e h1, h2⟩
theorem SomeN.mono {m : Nat} (h : SomeN n K G v) (e : n ≤ m) : SomeN m K G v := let ⟨d, h1, h2⟩ := h; ⟨d, h1, h2.mono e⟩
theorem AllP.mk {α : Type} {P : α → Prop} : ∀ {xs : List α}, (∀ x ∈ xs, P x) → AllP P xs
  | [], _ => trivial
  | x :: _, h => ⟨h x List.mem_cons_self, AllP.mk fun y hy => h y (List.mem_cons_of_mem _ hy)⟩
theorem allN {n : Nat} : ∀ {xs : List V}, AllP (SomeN n K G) xs → ∃ ds, DpAll K G xs ds ∧ (∀ d ∈ ds, Od n d) ∧ ds.length = xs.length
  | [], _ => ⟨[], .nil, (fun _ h => nomatch h), rfl⟩
  | x :: xs, h => by
    obtain ⟨d, h1, h2⟩ := h.1
    obtain ⟨ds, h3, h4, h5⟩ := allN h.2
    refine ⟨d :: ds, .cons h1 h3, fun y hy => ?_, by rw [List.length_cons, List.length_cons, h5]⟩
    rcases List.mem_cons.mp hy with rfl | hy
    · exact h2
    · exact h4 y hy
theorem SomeN.lst {a : Addr} (hs : SqL K G a xs) (h : AllP (SomeN n K G) xs) (hl : xs.length ≤ 9) : SomeN (n + 1) K G (.ref a) := by
  obtain ⟨ds, h1, h2, h3⟩ := allN h
  exact ⟨.list ds, .lst hs h1, Od.list h2 (by omega)⟩
theorem SomeN.tup {a : Addr} (hs : SqT K G a xs) (h : AllP (SomeN n K G) xs) (hl : xs.length ≤ 9) : SomeN (n + 1) K G (.ref a) := by
  obtain ⟨ds, h1, h2, h3⟩ := allN h
  exact ⟨.tuple ds, .tup hs h1, Od.tuple h2 (by omega)⟩
theorem AllP.up (e : Same G G') (h : AllP (SomeN n K G) xs) : AllP (SomeN n K G') xs := AllP.mk fun x hx => (AllP.of h x hx).up e
theorem at_some {i : Int} (h0 : 0 ≤ i) (h1 : i < xs.length) : ∃ v, atI xs i = some v ∧ v ∈ xs := by
  obtain ⟨v, hv⟩ : ∃ v, xs[i.toNat]? = some v := ⟨_, List.getElem?_eq_getElem (by omega)⟩
  exact ⟨v, by rw [show i = (i.toNat : Int) by omega]; exact atI_nat hv, List.mem_of_getElem? hv⟩
end
end Z

/-! sets of ints out of lists, sorted; while; lists or tuples by index -/
namespace Z
open PySem PySem.Spec PyProof.Rows L2
/-- an empty set -/
def sObj (w : World) : Obj := { cls := .type "set", dict := none, data := .set #[] 0 (.fresh 0 0 (!w.params.followText "set-order")) }
section
variable {P : Program} {w : World} {A : Around} {E : Value → Shared → Prop} {s : Shared} {p0 : Addr} {its : Array Value} {Q : Value → Shared → Prop}
theorem set_of_list (zs : List Int) (h0 : A.handled = none) (hL : s.heap.IsList p0 its) (hI : IntsAre its.toList zs) (hB : zs.length + 1 < scanBound)
    (k : ∀ (h2 : Heap) (tk c : Nat), SetR w h2 s.heap.objs.size (fun j => decide (j ∈ zs)) c → c ≤ zs.length → (∀ b o, s.heap.get? b = some o → h2.get? b = some o) → Q (.ref s.heap.objs.size) { s with heap := h2, toks := tk }) :
    wpAny (model P w) A (call (.type "set") [.ref p0]) Q E s := by
  have hz : its.size = zs.length := by
    have q := IntsAre.length hI
    rwa [Array.length_toList] at q
  obtain ⟨c1, tl1, mr⟩ := PySem.F.called_set.mro
  have f1 := PySem.F.called_set.made
  have f2 := PySem.F.called_set.sub
  refine wpAny_call (codeAny_of_tree (show wpAny _ _ (callAny (.type "set") _) _ _ _ from wpAny_pure ⟨Code.quiet_builtin _ (by decide +kernel), codeAny_builtin PySem.F.entry_type_call ?_⟩))
  rw [Around.under_plain (weight_type_call_type "set" [.ref p0] []) rfl]
  have f3 := PySem.F.called_set.notType
  have f4 := PySem.F.called_set.canCreate
  have f5 := PySem.F.typeCall_set_1 (.ref p0)
  repeat (any_goals (first | assumption | wp_step))
  refine codeAny_mono (code_set_led1 (.ref p0) (E := E) (Q₁ := fun x t => x = .ref s.heap.objs.size ∧ t = { s with heap := s.heap.push (sObj w) }) ⟨rfl, rfl⟩) fun r t hr => ?_
  match r, hr with
  | .error _, hr => exact hr
  | .ok (.ret x), hr =>
    obtain ⟨rfl, rfl⟩ := hr
    have gS : (s.heap.push (sObj w)).get? s.heap.objs.size = some (sObj w) := Heap.get?_push_size _ rfl
    have tS : Shared.TypeIs { s with heap := s.heap.push (sObj w) } (.ref s.heap.objs.size) "set" := ⟨_, gS, rfl⟩
    have f6 := PySem.F.called_set.init.lookup
    have f7 := PySem.F.called_set.init.bind (.ref s.heap.objs.size)
    repeat (any_goals (first | assumption | wp_step))
    refine codeAny_mono (codeAny_call_builtin (R := wants (fun r t => r = .none ∧ ∃ h2 tk c, t = { s with heap := h2, toks := tk } ∧ SetR w h2 s.heap.objs.size (fun j => decide (j ∈ zs)) c ∧ c ≤ zs.length ∧
      ∀ b o, s.heap.get? b = some o → h2.get? b = some o) E) PySem.F.called_set.init.plain PySem.F.entry_set_init (check_set_init_1 tS ?_)) fun r t hr => ?_
    · obtain ⟨⟨oc, od, odt, osl⟩, e1, e2, nl, e3⟩ := hL
      simp only at e2 e3
      subst e2
      subst e3
      have g1 : (s.heap.push (sObj w)).get? p0 = some { cls := .type "list", dict := od, data := .seq its nl, slots := osl } := Heap.get?_push_of_some _ e1
      have f8 := PySem.F.sub_list_set
      have f9 := PySem.F.sub_list_frozenset
      have fA : (Value.type "list" == Value.type "dict") = false := by decide
      have iL : (s.heap.push (sObj w)).IsList p0 its := ⟨_, g1, rfl, nl, rfl⟩
      unfold Builtin.«set.__init__» noKeywords Builtin.Frozenset.updateFrom
      generalize hPI : pyIter = PI
      wp_walk
      subst hPI
      refine wpAny_pyIter_list iL ?_
      refine wpAny_bind (wpAny_runValue ?_)
      have lt0 : p0 < s.heap.objs.size := Heap.lt_size e1
      have h3 : A.in1.in1.in1.handled = none := by simp [h0]
      have sz1 : (s.heap.push (sObj w)).objs.size = s.heap.objs.size + 1 := Heap.size_push ..
      have ne1 : p0 ≠ (s.heap.push (sObj w)).objs.size := by rw [sz1]; exact Nat.ne_of_lt (Nat.lt_succ_of_lt lt0)
      have nf : s.heap.objs.size ∉ [(s.heap.push (sObj w)).objs.size, p0] := by
        rw [sz1]
        simp only [List.mem_cons, List.not_mem_nil, or_false, not_or]
        exact ⟨Nat.ne_of_lt (Nat.lt_succ_self _), Nat.ne_of_gt lt0⟩
      have hv : ∀ (i : Nat) (v : Value), its[i]? = some v → ∃ k t, zs[i]? = some k ∧ v = .int k t := fun i v hv => by
        have hi : i < zs.length := by rw [← hz]; exact (Array.getElem?_eq_some_iff.mp hv).1
        obtain ⟨t, e⟩ := PyProof.Rows.IntsAre.int_at hI i v (by rw [Array.getElem?_toList]; exact hv)
        refine ⟨zs[i], t, List.getElem?_eq_getElem hi, ?_⟩
        rw [e, List.getD_eq_getElem?_getD, List.getElem?_eq_getElem hi] <;> rfl
      refine set_update_ints ((Walks.list h3 _ p0 ne1 its).toS) s.heap.objs.size nf zs hz hB hv (its.size - 0) 0 _ (by omega) (Nat.zero_le _) ⟨⟨_, Heap.get?_push_size _ rfl, rfl, rfl⟩, iL.push _⟩ ?_ ?_
      · exact ⟨0, Nat.le_refl 0, setR_new_at (Heap.get?_push_of_some _ gS)⟩
      · intro t c hm hc hS
        obtain ⟨h2, g2, d2, tk, os2⟩ := t
        have x1 : g2 = s.gens := hm.gens
        have x2 : d2 = s.drawn := hm.drawn
        have x3 : os2 = s.os := hm.os
        subst x1
        subst x2
        subst x3
        refine show wpAny _ _ _ _ _ _ from wpAny_pure (show wpAny _ _ (ret Value.none) _ _ _ from wpAny_pure ⟨rfl, h2, tk, c, rfl, hS, by omega, fun b o e => ?_⟩)
        have y0 : b < s.heap.objs.size := Heap.lt_size e
        refine hm.heap b o ?_ (Heap.get?_push_of_some _ (Heap.get?_push_of_some _ e))
        simp only [List.mem_cons, List.not_mem_nil, or_false, not_or]
        refine ⟨Nat.ne_of_lt y0, ?_⟩
        rw [sz1]
        exact Nat.ne_of_lt (Nat.lt_succ_of_lt y0)
    · match r, hr with
      | .error _, hr => exact hr
      | .ok (.ret x), hr =>
        obtain ⟨rfl, h2, tk, c, rfl, hS, hc, hk⟩ := hr
        repeat (any_goals (first | assumption | wp_step))
        exact k _ _ _ hS hc hk
      | .ok .next, hr => exact hr.elim
      | .ok .brk, hr => exact hr.elim
      | .ok .cont, hr => exact hr.elim
  | .ok .next, hr => exact hr.elim
  | .ok .brk, hr => exact hr.elim
  | .ok .cont, hr => exact hr.elim
end
section
variable {X : Cx} {K : PySem.W.Frag} {H G : Hp} {W : Wl} {Q : VK} {a : Addr}
/-- set(xs), xs a list of ints -/
def rSetL (K : PySem.W.Frag) (w : World) : List V → Hp → VK → Prop := fun vs H Q => ∃ (l : Addr) (ns : List Int), vs = [.ref l] ∧ SqL K H l (ns.map V.int) ∧ ns.length ≤ 1000 ∧
  ∀ p n, H p = none → n ≤ ns.length → Q (.ref p) (upd H p (SetO w p (fun j => decide (j ∈ ns)) n))
theorem cr_setL (hc : X.calm = true) : CallR X (.type "set") (rSetL X.K X.w) := by
  intro pins s σ H vs us Q I r h
  obtain ⟨l, ns, rfl, hl, hk, q⟩ := h
  rw [Vals.ref1 r]
  obtain ⟨its, rv, pl, hz⟩ := I.list hl
  refine set_of_list (P := X.prog) (w := X.w) ns (I.ok.hd hc) pl.isList (by simpa using ints_of_vals rv) (by unfold scanBound; omega) fun h2 tk c R hcn k => ?_
  exact ⟨.ref s.heap.objs.size, upd H s.heap.objs.size (SetO X.w s.heap.objs.size (fun j => decide (j ∈ ns)) c), I.laid (t' := tk) k (Nat.le_refl _) (setO_new R), rfl, q _ c (I.hok.fresh (Nat.le_refl _)) hcn⟩
theorem st_setOf {w0 : World} {ns : List Int} (ha : SqL K H a (ns.map V.int)) (hl : ns.length ≤ 1000) (w : Wd G W H) (k : ∀ p n G' H', Same G G' → Wd G' W H' → n ≤ ns.length → H' p = some (SetO w0 p (fun j => decide (j ∈ ns)) n) → Q (.ref p) H') : rSetL K w0 [.ref a] H Q :=
  ⟨a, ns, rfl, ha, hl, fun p n hp hn => k p n _ _ (same_upd (w.free hp)) (w.new hp) hn upd_same⟩
theorem st_sortedSet {w0 : World} {S : Int → Bool} {n : Nat} (ha : H a = some (SetO w0 a S n)) (hn : n < 64) (w : Wd G W H)
    (k : ∀ p ns G' H', Same G G' → Wd G' W H' → HL G' p ns → ns.Pairwise (· < ·) → (∀ j : Int, j ∈ ns ↔ S j = true) → ns.length = n → Q (.ref p) H') : rSortedSet w0 [.ref a] H Q :=
  ⟨a, S, n, rfl, ha, hn, fun ns p h1 h2 h3 hp => k p ns _ _ (same_upd (w.free hp)) (w.new hp) upd_same h1 h2 h3⟩
/-- a list or a tuple by index -/
def rIxA (K : PySem.W.Frag) : R2 := fun x y H Q => ∃ p xs i v, x = .ref p ∧ y = .int i ∧ (SqL K H p xs ∨ SqT K H p xs) ∧ atI xs i = some v ∧ Q v H
theorem ix_seqA : IxR X (rIxA X.K) := by
  intro value slice pins s σ H x y v u Q I rx ry h hs
  obtain ⟨p, xs, i, z, rfl, rfl, hq | hq, he, q⟩ := h
  · exact ix_list value slice pins s σ H (.ref p) (.int i) v u Q I rx ry ⟨p, xs, i, z, rfl, rfl, hq, he, q⟩ hs
  · exact ix_tup value slice pins s σ H (.ref p) (.int i) v u Q I rx ry ⟨p, xs, i, z, rfl, rfl, hq, he, q⟩ hs
theorem st_ixA {xs : List V} {i : Int} {v : V} (h : SqL K H a xs ∨ SqT K H a xs) (e : atI xs i = some v) (q : Q v H) : rIxA K (.ref a) (.int i) H Q := ⟨a, xs, i, v, rfl, rfl, h, e, q⟩
end
/-! while -/
section
variable {c : TT} {tb : TS} {nx bk ct : L2.St → Hp → Prop} {rt : VK} {σ : L2.St} {H G : Hp} {W : Wl} {I : Nat → L2.St → Hp → Wl → Prop} {m : Nat}
def Wbt (I : Nat → L2.St → Hp → Wl → Prop) (G : Hp) (m : Nat) : L2.St → Hp → Prop := fun σ H => ∃ m2 G' W, m2 < m ∧ Same G G' ∧ Wd G' W H ∧ I m2 σ G' W
theorem st_wbt {m2 : Nat} {G' : Hp} (h : m2 < m) (e : Same G G') (w : Wd G' W H) (q : I m2 σ G' W) : Wbt I G m σ H := ⟨m2, G', W, h, e, w, q⟩
theorem wt_go (h : tb ⟨Wbt I G m, rt, nx, Wbt I G m⟩ σ H) : ∃ N : L2.St → Hp → Prop, (∀ σ' H', N σ' H' → ∃ m', m' < m ∧ ∃ G' W', Same G G' ∧ Wd G' W' H' ∧ I m' σ' G' W') ∧ tb ⟨N, rt, nx, N⟩ σ H :=
  ⟨Wbt I G m, fun _ _ ⟨m2, G', W', h1, h2, h3, h4⟩ => ⟨m2, h1, G', W', h2, h3, h4⟩, h⟩
theorem while_m (I : Nat → L2.St → Hp → Wl → Prop) (m : Nat) (w : Wd G W H) (h0 : I m σ G W)
    (hs : ∀ m σ' G' W' H', Same G G' → Wd G' W' H' → I m σ' G' W' → c σ' H' fun b H1 => if b = true then ∃ N : L2.St → Hp → Prop, (∀ σ' H', N σ' H' → ∃ m', m' < m ∧ ∃ G' W', Same G G' ∧ Wd G' W' H' ∧ I m' σ' G' W') ∧ tb ⟨N, rt, nx, N⟩ σ' H1 else nx σ' H1) :
    tWhile c tb ⟨nx, rt, bk, ct⟩ σ H := ⟨fun m σ H => ∃ G' W', Same G G' ∧ Wd G' W' H ∧ I m σ G' W', ⟨m, G, W, Same.refl _, w, h0⟩, fun m σ' H' ⟨G', W', e, w', h⟩ => hs m σ' G' W' H' e w' h⟩
end
/-! methods of lists -/
section
variable {K : PySem.W.Frag} {H : Hp} {Q : VK} {a : Addr}
theorem first_at {ns : List Int} {m : Int} (h : m ∈ ns) : ∃ j : Nat, j < ns.length ∧ ns[j]? = some m ∧ ∀ i : Nat, i < j → ns[i]? ≠ some m := by
  induction ns with
  | nil => exact nomatch h
  | cons x xs ih =>
    by_cases e : x = m
    · exact ⟨0, Nat.succ_pos _, by rw [e]; rfl, fun i hi => absurd hi (Nat.not_lt_zero i)⟩
    · obtain ⟨j, h1, h2, h3⟩ := ih ((List.mem_cons.mp h).resolve_left fun z => e z.symm)
      refine ⟨j + 1, Nat.succ_lt_succ h1, h2, fun i hi => ?_⟩
      cases i with
      | zero => exact fun z => e (Option.some.inj z)
      | succ i => exact h3 i (Nat.lt_of_succ_lt_succ hi)
theorem flat_ints : ∀ ns : List Int, (ns.map V.int).all flatV = true
  | [] => rfl
  | _ :: ns => flat_ints ns
/-- xs.index(m), m in xs -/
theorem st_indexI {ns : List Int} {m : Int} (ha : SqL K H a (ns.map V.int)) (hm : m ∈ ns) (q : ∀ j : Nat, j < ns.length → ns[j]? = some m → Q (.int (j : Int)) H) : rIndex K (.ref a) [.int m] H Q := by
  obtain ⟨j, h1, h2, h3⟩ := first_at hm
  refine ⟨a, _, _, j, .int m, rfl, rfl, ha, rfl, flat_ints ns, by rw [List.getElem?_map, h2]; rfl, by simp [eqV], fun i z hi hz => ?_, q j h1 h2⟩
  rw [List.getElem?_map] at hz
  cases e : ns[i]? with
  | none => rw [e] at hz; exact nomatch hz
  | some k =>
    rw [e] at hz
    cases hz
    have := h3 i hi
    rw [e] at this
    have hne : k ≠ m := fun z => this (by rw [z])
    simp [eqV, hne]
end
end Z

/-! own exceptions with a field, over ghost heaps -/
namespace Z
open PySem PySem.Spec PyProof.Rows L2
section
variable {P : Program} {w : World} {K : PySem.W.Frag} {mg : Str → Option Value} {base : Heap} {x qual : Str} {params : Arguments} {body : List Stmt} {scope : Scope} {dvs : List V} {kws : List (Str × V)} {f : Addr} {fd : FuncData}
/-- the rule for a def that may raise -/
theorem okX {N ps : List Str} {k : Nat} {sp : Sp} (F : FunD K x qual params body scope dvs kws f fd) (S : FnScope N ps scope) (len : ∀ vs H Q E, sp vs H Q E → vs.length = ps.length)
    (hb : ∀ (cdv : Value) (A : Around) (outer : List Env) (s : Shared) (H : Hp) (vs : List V) (Q : VK) (E : XK), Room k (A.deeper (envOfC qual scope s.heap.objs.size f cdv)) → sp vs H Q E →
      ∃ t, PSs (cxOf (L2.CX P w) P w K mg base N qual scope f cdv A outer s H E) body t ∧ t { nx := fun _ H' => Q .non H', rt := Q } (start N vs) H) : FnOk P w K mg base (L2.CX P w) (k + 1) f fd ps sp :=
  F.ok S len hb
end
section
variable {X : Cx} {CX : CXT} {k : Nat} {f : Addr} {fd : FuncData} {ps : List Str} {ds : List Value} {dvs : List V} {sp : Sp} {E : L2.St → XK} {x : Str} {p pos : Pos} {e : Expr} {es : List Expr} {t : TA}
/-- a call whose exceptions go where the try says; defaults filled in -/
def tCallSD (sp : Sp) (dvs : List V) (E : L2.St → XK) (t : TA) : TE := fun σ H Q => t σ H fun vs H1 => sp (vs ++ dvs) H1 Q (E σ)
theorem pe_callSD (F : FnOk X.prog X.w X.K X.mg X.base CX k f fd ps sp) (hr : Room k X.A) (hg : Gl X x) (hm : X.mg x = some (.ref f)) (hk : PySem.W.keepIn X.K (.ref f) = true) (hb : Binds X.K fd ps ds) (hd : Vals dvs ds) (hx : ∀ σ, PassesAt CX X σ (E σ))
    (ha : PA X (e :: es) t) (hdb : (x == ("__debug__" : Str)) = false := by decide) (he : starEach (e :: es) X.env = (false, eval e X.env) :: starEach es X.env := by rfl) (hpl : (backTo pos (starEach es X.env)).any (·.1) = false := by rfl) :
    PE X (.Call (.Name x p) (e :: es) [] pos) (tCallSD sp dvs E t) := by
  refine ⟨fun pins s σ H Q I h => wpAny_Call_Name_kw (ld_glob I hg hm (PySem.W.callWith_K (h₀ := X.base) I.ok.mod.kin hk (thn (ha.run pos pins s σ H _ I h) fun us s1 ⟨vs, H1, I1, r, q⟩ => ⟨I1.kIn, ?_⟩) he hpl) hdb)⟩
  have r2 := r.append hd
  refine wpAny_call (codeAny_mono (F.run X.A X.stack s1 H1 ⟨us, []⟩ _ _ Q (E σ) hr I1.env0 (hb s1 us I1.kIn (r2.length.symm.trans (F.len _ _ _ _ q))) r2 q) fun r s' hq => ?_)
  cases r with
  | error e => exact hx σ pins H1 s1 e s' I1 hq
  | ok fl => cases fl with
    | ret u => exact I1.after hq
    | _ => exact False.elim hq
theorem st_callSD {σ : L2.St} {H : Hp} {Q : VK} (h : t σ H fun vs H1 => sp (vs ++ dvs) H1 Q (E σ)) : tCallSD sp dvs E t σ H Q := h
end
theorem passX0 {X : Cx} : Passes (L2.CX X.prog X.w) X E0 := fun _ _ _ _ _ _ _ h => by
  obtain ⟨_, _, _, _, _, _, _, _, _, _, _, _, z⟩ := h
  exact z.elim
/-- an own exception class x at C, its __init__ at fI, its one field n -/
structure ExT (K : PySem.W.Frag) (mg : Str → Option Value) (x n : Str) (C fI : Addr) : Prop where
  gC : mg x = some (.ref C)
  oex : OexC K C
  xf : XfC K C
  xc : ExcC K C
  no : PySem.W.findIn K (.ref C) n = some none
  iC : PySem.W.findIn K (.ref C) "__init__" = some (some (.ref fI))
  tI : PySem.W.typeIn K (.ref fI) = some (.type "function")
  te : PySem.W.exmOne K (.ref C) (.ref C) = some true
  kv : PySem.W.kitOne K (.ref C) (.type "ValueError") = some true
theorem kv_of {K : PySem.W.Frag} {C : Addr} (h : PySem.W.subIn K (.ref C) (.type "ValueError") = some true) : PySem.W.kitOne K (.ref C) (.type "ValueError") = some true := by
  unfold PySem.W.kitOne
  rw [show ((Value.ref C) == (Value.type "ValueError")) = false from rfl]
  show PySem.W.kitCls K (.ref C) (.type "ValueError") = some true
  unfold PySem.W.kitCls
  show (if PySem.W.kitMeta "ValueError" = true then _ else none) = some true
  rw [if_pos (by decide +kernel)]
  exact h
/-- what its __init__ does -/
def sp_init (K : PySem.W.Frag) (C : Addr) (n : Str) : Sp := fun vs H Q _ => ∃ (a : Addr) (v : V), vs = [.ref a, v] ∧ H a = some (exo a C none) ∧ ∀ d, H d = none → d ≠ a → Q .non (upd (upd H d (exd d [(n, v)])) a (exo a C (some d)))
section
variable {K : PySem.W.Frag} {mg : Str → Option Value} {σ : L2.St} {H G : Hp} {W : Wl} {C : Addr} {n : Str} {v : V}
theorem st_mkO {dvs : List V} {ta : TA} {Q : XK} {sp : Sp} (h : ta σ H fun vs H1 => vs.length ≤ 1000 ∧ ∀ a, H1 a = none → sp (.ref a :: (vs ++ dvs)) (upd H1 a (exo a C none))
  (fun v H2 => v = .non ∧ ∃ (d : Addr) (fs : List (Str × V)), H2 a = some (exo a C (some d)) ∧ H2 d = some (exd d fs) ∧ H1 d = none ∧ Q (.ref C) (some d) (upd (del H2 a) d (.xd fs))) (fun _ _ _ => False)) : tMkO C sp dvs ta σ H Q := h
theorem mk_done {Q : XK} (w : Wd G W H) (k : ∀ d G' H', Same G G' → Wd G' W H' → G' d = some (.xd [(n, v)]) → Q (.ref C) (some d) H') (a : Addr) (ha : H a = none) :
    sp_init K C n [.ref a, v] (upd H a (exo a C none)) (fun v H2 => v = .non ∧ ∃ (d : Addr) (fs : List (Str × V)), H2 a = some (exo a C (some d)) ∧ H2 d = some (exd d fs) ∧ H d = none ∧ Q (.ref C) (some d) (upd (del H2 a) d (.xd fs))) (fun _ _ _ => False) := by
  refine ⟨a, v, rfl, upd_same, fun d hd hda => ⟨rfl, d, [(n, v)], upd_same, ?_, ?_, ?_⟩⟩
  · rw [upd_ne hda, upd_same]
  · rw [upd_ne hda] at hd
    exact hd
  · rw [upd_ne hda] at hd
    have e : upd (del (upd (upd (upd H a (exo a C none)) d (exd d [(n, v)])) a (exo a C (some d))) a) d (.xd [(n, v)]) = upd H d (.xd [(n, v)]) := by
      funext b
      by_cases hb : b = d
      · rw [hb, upd_same, upd_same]
      · rw [upd_ne hb, upd_ne hb]
        by_cases hb2 : b = a
        · rw [hb2, del_same, ha]
        · rw [del_ne hb2, upd_ne hb2, upd_ne hb, upd_ne hb2]
    rw [e]
    exact k d _ _ (same_upd (w.free hd)) (w.new hd) upd_same
theorem st_ost {f : Str} {to te : TE} {D : Ends} (h : te σ H fun y H1 => to σ H1 fun x H2 => ∃ a C : Addr, x = .ref a ∧ OexC K C ∧ PySem.W.findIn K (.ref C) f = some none ∧
    ((H2 a = some (exo a C none) ∧ ∀ dx, H2 dx = none → dx ≠ a → D.nx σ (upd (upd H2 dx (exd dx [(f, y)])) a (exo a C (some dx)))) ∨ ∃ (dx : Addr) (fs : List (Str × V)), H2 a = some (exo a C (some dx)) ∧ H2 dx = some (exd dx fs) ∧ fs.length ≤ 900 ∧ D.nx σ (upd H2 dx (exd dx ((f, y) :: fs))))) : tOst K f to te D σ H := h
theorem st_dnew {Q : VK} (h : NewO (.dK []) H Q) : tDNewK σ H Q := h
theorem st_vei {ta : TA} {Q : VK} (h : ta σ H fun vs H1 => ∃ (a C : Addr) (ws : List V), vs = .ref a :: ws ∧ ws.length ≤ 1000 ∧ OexC K C ∧ H1 a = some (exo a C none) ∧ Q .non H1) : tVeI K ta σ H Q := h
theorem st_xf {a : Addr} {cls : Value} {d : Option Addr} {f : Str} {te : TE} {Q : VK} (h : te σ H fun x H1 => x = .ref a ∧ cls = .ref C ∧ ∃ (dd : Addr) (fs : List (Str × V)) (v : V), d = some dd ∧ H1 dd = some (.xd fs) ∧ fs.lookup f = some v ∧ Q v H1) : tXf a cls d C f te σ H Q := h
end
end Z
namespace PySem.W
open PySem PySem.Spec PySem.Calls PyProof.Rows
section
variable {prog : Program} {w : World} {A : Around} {E : Value → Shared → Prop} {s : Shared} {K : Frag} {x D : Addr} {ox od : Obj}
theorem z_found {C : Addr} {name : Str} {a g : Value} (hc : (clsIn K C).isSome = true) (ha : findIn K (.ref C) name = some (some a)) (hg : specialIn K a "__get__" = some (some g)) (ht : takesIn K a = some true) (o : Option Obj) : findObj K C o name = some (.bind g a) := by
  obtain ⟨cd, hcd⟩ := Option.isSome_iff_exists.mp hc
  unfold findObj
  rw [hcd, Option.bind_some, ha, Option.bind_some]
  simp [hg, ht]
theorem z_classE {Q : Option Value → Shared → Prop} (C : L2.ExcC K D) (X : K.In s.heap) (I : InstAt s.heap x ox D (some od)) (h : Q (some (.ref D)) { s with toks := s.toks + 1 }) : wpAny (model prog w) A (getAttr? (.ref x) "__class__") Q E s := by
  have hf : findObj K D (some od) "__class__" = some (.bind (.builtin "getset_descriptor.__get__") (.builtin "object.__class__")) :=
    z_found (by obtain ⟨cd, hc, _⟩ := any_some C.hd; rw [hc]; rfl) C.ha C.hn C.ht (some od)
  obtain ⟨hp, g, d, t, os⟩ := s
  have l0 := I.type (M := model prog w)
  have l1 := looks_findIn (M := model prog w) X C.hg
  have l2 := looks_findIn (M := model prog w) X C.hk
  have l3 := looks_find (M := model prog w) X I hf
  have ls : Looks (model prog w) hp (isInstance (.ref x) (.type "BaseException")) true := l0.andThen (looks_subIn X C.hs)
  have z2 : (Value.builtin "BaseException.__getattribute__" == Value.builtin "object.__getattribute__") = false := by decide +kernel
  have z1 : (onTheHeap (Value.ref D) && Value.builtin "BaseException.__getattribute__" == Value.builtin "object.__getattribute__") = false := by rw [z2]; rfl
  unfold getAttr? getAttrBy? getAttrBy
  refine wpAny_bind (wpAny_mkText (wpAny_bind (wpAny_attempt (wpAny_holding (wpAny_bind (l0.at (wpAny_bind (l1.at ?_))))))))
  show wpAny _ _ (if (onTheHeap (Value.ref D) && Value.builtin "BaseException.__getattribute__" == Value.builtin "object.__getattribute__") = true then _ else _) _ _ _
  rw [z1, if_neg Bool.false_ne_true]
  unfold getAttrByItsOwn hookBefore
  refine wpAny_bind ?_
  rw [if_pos (show onTheHeap (Value.ref D) = true from rfl)]
  refine l2.at (wpAny_bind (wpAny_attempt (wpAny_holding ?_)))
  unfold callGetattribute
  rw [show (false && onTheHeap (Value.builtin "BaseException.__getattribute__")) = false from rfl, if_neg Bool.false_ne_true]
  unfold boundAndCalled
  rw [PySem.F.excAttr_ValueError.ga.bind (.ref x)]
  refine wpAny_bind (wpAny_pure ?_)
  refine wpAny_call (pos := [.ref x, .str "__class__" t]) (codeAny_call_builtin PySem.F.excAttr_ValueError.ga.plain PySem.F.entry_bexc_ga (@check_slot (model prog w) _ _ ⟨hp, g, d, t + 1, os⟩ "BaseException.__getattribute__" "BaseException" "__getattribute__" (.ref x) [.str "__class__" t] [] _ (by decide +kernel) (by decide +kernel) ls (PySem.F.args_bexc_ga (.ref x) (.str "__class__" t)) ?_))
  unfold Builtin.«object.__getattribute__»
  refine wpAny_bind (wpAny_of_eq (a := ((Value.ref x : Value), [Value.str "__class__" t])) (by first | rfl | (simp only [slotArgs]; rfl)) (wpAny_bind (wpAny_pure (wpAny_bind (l0.at (wpAny_bind (l3.at ?_)))))))
  show wpAny _ _ (holding [Value.builtin "object.__class__"] (call (.builtin "getset_descriptor.__get__") [.builtin "object.__class__", .ref x, .ref D]) >>= ret) _ _ _
  refine wpAny_bind (wpAny_holding (wpAny_call (class_get (s := ⟨hp, g, d, t + 1, os⟩) (ox := ox) (od := some od) X I C.hm (wpAny_pure ?_))))
  show wpAny _ _ (handedOut (.ref D)) _ _ _
  rw [handedOut_of (v := .ref D) rfl]
  first
    | exact wpAny_pure (wpAny_pure h)
    | exact wpAny_pure h
    | exact wpAny_pure (wpAny_bind (wpAny_pure (wpAny_pure h)))
theorem z_kit (C : L2.ExcC K D) : KitX K (.ref x) (.ref D) (fun h => ∃ od, InstAt h x ox D (some od)) where
  ty := fun _ _ _ ⟨_, I⟩ => I.type
  it := fun _ _ X _ => by
    obtain ⟨cd, hc, _⟩ := any_some C.hd
    unfold clsIn at hc
    split at hc
    · rename_i ho
      intro A' Q' E' s' k q
      unfold isType loadHead
      exact wpAny_bind (wpAny_loadPart (k _ _ (X _ _ ho)) (wpAny_pure q))
    · cases hc
  ne := fun h tp dd its n sl X htp => by
    obtain ⟨cd, hc, _⟩ := any_some C.hd
    refine Bool.eq_false_iff.mpr fun q => ?_
    obtain rfl : D = tp := Value.ref.inj (beq_iff_eq.mp q)
    unfold clsIn at hc
    split at hc
    · rename_i ho
      exact nomatch (X _ _ ho).symm.trans htp
    · cases hc
  ca := fun X ⟨_, I⟩ k => z_classE C X I k
end
end PySem.W
namespace Z
open PySem PySem.Spec PyProof.Rows L2
/-- isinstance(e, c), e the exception that the suite holds, with its dict -/
def rIsEd (K : PySem.W.Frag) (D a : Addr) (cls : Value) (d : Option Addr) : List V → Hp → VK → Prop := fun xs H Q => ∃ (c : V) (cv : Value) (b : Bool) (dd : Addr) (fs : List (Str × V)), xs = [.ref a, c] ∧ cls = .ref D ∧ d = some dd ∧ H dd = some (.xd fs) ∧ (∀ u, RelV c u → u = cv) ∧ PySem.W.kitOne K (.ref D) cv = some b ∧ Q (.bl b) H
theorem call_isEd {X : Cx} {a D : Addr} {oe : Obj} {cls : Value} {d : Option Addr} {pn : List (Addr × Obj)} (C : ExcC X.K D) (hz : Zc cls d oe) (hf : ∃ vs, oe.data = .fields vs) : CallR (X.suite a ((a, oe) :: pn)) (.builtin "isinstance") (rIsEd X.K D a cls d) := by
  intro pins s σ H xs us Q I r h
  obtain ⟨c, cv, b, dd, fs, rfl, rfl, rfl, ea, hcv, e, q⟩ := h
  obtain ⟨u1, u2, rfl, r1, r2⟩ := vals2 r
  cases r1
  obtain rfl := hcv _ r2
  obtain ⟨hget, _⟩ := I.pin (a, oe) (List.mem_append.mpr (.inl List.mem_cons_self))
  obtain ⟨vs, hv⟩ := hf
  obtain ⟨mA, hns, _⟩ : ObjOk _ _ _ _ dd (.xd fs) := I.hok dd _ ea
  obtain ⟨od, ho, _⟩ := lookIn_ns hns
  have J : PySem.W.InstAt s.heap a oe D (some od) := ⟨hget, hz.1, by unfold PySem.W.notCls; rw [hv] <;> rfl, by rw [hz.2]; exact ho⟩
  exact PySem.W.kia_one (PySem.W.z_kit C) I.kIn ⟨_, J⟩ e (fun z => nomatch z) fun tk => ⟨.bl b, H, I.kept (t' := tk) fun _ _ z => z, rfl, q⟩
end Z

/-! own exceptions over any base, with one field -/
namespace PySem
namespace ZEX
open PySem.W PySem.Calls PyProof.Rows PySem.HandSPX
open Builtin Builtin.ObjectAttr
section
variable {prog : Program} {w : World} {A : Around} {E : Value → Shared → Prop} {R : Result → Shared → Prop} {hp : Heap} {g : Array GenState} {d : Drawn} {t : Nat} {os : OsState}
theorem z_osa {K : W.Frag} {name : Str} {tk : Tok} {v : Value} {x C : Addr} {fv : Array Value} {cd : ClassData} {bmB : List Value} (pass : ∀ self, refuseLoop self "__setattr__" bmB = pure ()) (hob0 : bmB.contains (.type "object") = true)
    (X : K.In hp) (hx : hp.get? x = some { cls := .ref C, data := .fields fv }) (hcd : W.clsIn K C = some cd) (hm : cd.mro = .ref C :: bmB) (hh : cd.hasDict = true) (ha : W.findIn K (.ref C) name = some none)
    (hq : ∀ h' tk' dx, (∀ b o, b ≠ x → hp.get? b = some o → h'.get? b = some o) → hp.objs.size ≤ dx → dx ≠ x → h'.get? x = some { cls := .ref C, dict := some dx, data := .fields fv } → h'.Ns1 dx (fun y => if y = name then some v else none) → R (.ok (.ret .none)) ⟨h', g, d, tk', os⟩) :
    codeAny (model prog w) A (.call (.builtin "object.__setattr__") ⟨[.ref x, .str name tk, v], []⟩) R ⟨hp, g, d, t, os⟩ := by
  have i0 : W.InstAt hp x { cls := .ref C, data := .fields fv } C none := ⟨hx, rfl, rfl, trivial⟩
  have S := F.store_object
  have ne : cd.mro.isEmpty = false := by rw [hm]; rfl
  have hob : cd.mro.contains (.type "object") = true := by rw [hm, List.contains_cons, hob0, Bool.or_true]
  have hps : refuseLoop (.ref x) "__setattr__" cd.mro = pure () := by rw [hm, refuseLoop_ref]; exact pass _
  have nx : x ≠ hp.objs.size := Nat.ne_of_lt (Heap.lt_size hx)
  have li : W.Looks (model prog w) hp (isInstance (.ref x) (.type "object")) true := i0.type.andThen (W.looks_mroIn X (by unfold W.mroIn; rw [hcd, Option.bind_some, if_neg (by rw [ne]; decide), hob]))
  refine codeAny_call_builtin S.slot.plain S.entry (@W.check_slot (model prog w) _ _ ⟨hp, g, d, t, os⟩ "object.__setattr__" "object" "__setattr__" (.ref x) [.str name tk, v] [] _ S.kind S.split li (S.args (.ref x) (.str name tk) v) ?_)
  have lm : W.Looks (model prog w) hp (mroOf (.ref C)) cd.mro := (W.looks_clsIn X hcd).andThen .now
  have lt : W.Looks (model prog w) hp (storeTaker? none) none := .now
  have lc : W.Looks (model prog w) hp (classData C) cd := W.looks_clsIn X hcd
  rw [W.osa_eq, refuse_eq]
  refine wpAny_bind (wpAny_bind (i0.type.at (wpAny_bind (lm.at ?_))))
  rw [hps]
  refine wpAny_pure (wpAny_bind (i0.type.at (wpAny_bind ((W.looks_findIn X ha).at (wpAny_bind (lt.at ?_))))))
  show wpAny (model prog w) _ (storeInOwnDict (.ref x) (.ref C) (.str name tk) name v false) _ _ _
  obtain ⟨nm, bs, mro, ns, qn, hd, sn, sb, ab, col, del⟩ := cd
  dsimp only at hh
  subst hh
  unfold storeInOwnDict ownDictForStores
  repeat first | (with_reducible refine store_in_new ?_ ?_) | (with_reducible refine wpAny_loadPart_at hx ?_) | (with_reducible refine lc.at ?_) | wp_step
  · exact ⟨_, #[], _, (Heap.get?_update_ne _ _ _ _ nx.symm).trans (Heap.get?_push_at rfl rfl), rfl, fun e he => absurd he (by simp), fun _ => rfl⟩
  · intro h' tk' hn' hs
    have hx1 : (hp.push { cls := .type "dict", data := .dict #[] }).get? x = some { cls := .ref C, data := .fields fv } := Heap.get?_push_of_some _ hx
    exact hq h' tk' hp.objs.size (fun b o hb ho => (hs.2 b (Nat.ne_of_lt (Heap.lt_size ho))).trans ((Heap.get?_update_ne _ _ _ _ hb).trans (Heap.get?_push_of_some _ ho))) (Nat.le_refl _) nx.symm ((hs.2 x nx).trans (Heap.get?_update_self _ hx1 rfl)) hn'
end
end ZEX
end PySem
namespace Z
open PySem PySem.Spec PyProof.Rows L2
/-- the class at C: own, directly over the built-in exception B -/
structure OexB (K : PySem.W.Frag) (C : Addr) (B newId initId : String) (bmB : List Value) : Prop where
  cls : ∃ nm q N bs sn sub ab col dd k0 k1 k2 k3 k5, K.lookup C = some (excClassObj nm q C N bs bmB true sn sub ab col dd k0 k1 k2 k3 k5 newId)
  sa : PySem.W.findIn K (.ref C) "__setattr__" = some (some (.builtin "object.__setattr__"))
  exC : PySem.W.subIn K (.ref C) (.type "BaseException") = some true
  tyC : PySem.W.typeIn K (.ref C) = some (.type "type")
  kC : PySem.W.keepIn K (.ref C) = true
  fac : ExcBaseFacts B newId initId bmB
  pass : ∀ self, refuseLoop self "__setattr__" bmB = pure ()
  hob : bmB.contains (.type "object") = true
section
variable {X : Cx} {pins : List (Addr × Obj)} {σ : L2.St} {H : Hp} {s : Shared} {a C : Addr} {f : Str} {y : V} {u : Value} {E : Value → Shared → Prop} {A : Around} {B newId initId : String} {bmB : List Value}
theorem z_ost {Q : Unit → Shared → Prop} (T : OexB X.K C B newId initId bmB) (I : Inv X pins σ H s) (e : H a = some (exo a C none)) (hno : PySem.W.findIn X.K (.ref C) f = some none) (ry : RelV y u)
    (h : ∀ dx s', H dx = none → dx ≠ a → Inv X pins σ (upd (upd H dx (exd dx [(f, y)])) a (exo a C (some dx))) s' → Q () s') : wpAny (model X.prog X.w) A (setAttr (.ref a) f u) Q E s := by
  obtain ⟨nm, q, N, bs, sn, sub, ab, col, dd, k0, k1, k2, k3, k5, hC⟩ := T.cls
  have hcl : PySem.W.clsIn X.K C = some { name := nm, bases := bs, mro := .ref C :: bmB, ns := N, qualname := q, hasDict := true, slotNames := sn, subclasses := sub, abstract := ab, collection := col, hasDel := false } := by
    unfold PySem.W.clsIn
    rw [hC] <;> rfl
  obtain ⟨t1, ho⟩ := exo_at I.hok e
  obtain ⟨hp, g, d, t, os⟩ := s
  refine PySem.W.set_plain I.kIn (od := none) (ox := { cls := .ref C, dict := none, data := .fields #[.ref t1, .none, .none, .none, .bool false, .none] }) ⟨ho, rfl, rfl, trivial⟩ T.sa ?_
  refine PySem.ZEX.z_osa T.pass T.hob I.kIn ho hcl rfl rfl hno fun h' tk' dx k dn dne hx hn => ?_
  have hnd : H dx = none := I.hok.fresh dn
  have nd : ∀ {b : Addr} {o : Obj}, hp.get? b = some o → b ≠ dx := fun {b o} q => Nat.ne_of_lt (Nat.lt_of_lt_of_le (Heap.lt_size q) dn)
  have na : ∀ {b : Addr}, H b = none → b ≠ a := fun {b} n z => nomatch (z ▸ n).symm.trans e
  have un : Un X.fs [] H (upd (upd H dx (exd dx [(f, y)])) a (exo a C (some dx))) hp h' := {
    keep := fun b o q n _ _ => k b o (na n) q, slot := fun b o q n _ _ => ⟨o.slots, k b o (na n) q⟩
    free := fun b o q n _ => (upd_ne (na n)).trans ((upd_ne (nd q)).trans n)
    there := fun b o q _ => if hb : b = a then ⟨_, hb ▸ hx⟩ else ⟨o, k b o hb q⟩
    tups := fun b xs q => (upd_ne (at_ne e q exo_tup)).trans ((upd_ne (ne_of_none q hnd)).trans q)
    frzs := fun b o v q => (upd_ne (at_ne e q exo_frz)).trans ((upd_ne (ne_of_none q hnd)).trans q)
    tbls := fun b ps q => ⟨#[], by rw [upd_ne (at_ne e q exo_tbl), upd_ne (ne_of_none q hnd), q] <;> simp⟩ }
  refine h dx _ hnd dne (I.un (t' := tk') un fun b o q => ?_)
  by_cases hb : b = a
  · rw [hb, upd_same] at q
    cases q
    rw [hb]
    exact exo_ok hx
  · rw [upd_ne hb] at q
    by_cases hd : b = dx
    · rw [hd, upd_same] at q
      cases q
      rw [hd]
      exact exd_ok hn (relO_put (fs := []) ry fun g => True.intro)
    · rw [upd_ne hd] at q
      refine (I.hok b o q).stay (fun c v hc z => k c v (hc.elim (fun h => h ▸ hb) fun h => at_ne e h exo_own) z) (fun c hc => (upd_ne (at_ne e hc exo_own)).trans ((upd_ne (ne_of_none hc hnd)).trans hc)) (fun c xs hc => (upd_ne (at_ne e hc exo_tup)).trans ((upd_ne (ne_of_none hc hnd)).trans hc))
theorem z_oinit {us : List Value} {Q : Value → Shared → Prop} (T : OexB X.K C B newId initId bmB) (I : Inv X pins σ H s) (e : H a = some (exo a C none)) (hl : us.length ≤ sizeLine) (h : ∀ s', Inv X pins σ H s' → Q .none s') :
    wpAny (model X.prog X.w) A (call (.builtin initId) (.ref a :: us)) Q E s := by
  obtain ⟨nm, q, N, bs, sn, sub, ab, col, dd, k0, k1, k2, k3, k5, hC⟩ := T.cls
  obtain ⟨t1, ho⟩ := exo_at I.hok e
  obtain ⟨hp, g, d, t, os⟩ := s
  refine wpAny_call (PySem.HandSPX.init_base T.fac (fun _ => rfl) (I.kIn _ _ hC) ho hl fun h' t2 k hx => ?_)
  have J := I.write (t' := t) (x := a) (e := a) (o := exo a C none) (by rw [e]; exact True.intro) (.inl rfl) k ⟨_, hx⟩ (exo_ok hx)
  have eu : upd H a (exo a C none) = H := funext fun b => if hb : b = a then by rw [hb, upd_same, e] else upd_ne hb
  exact h _ (eu ▸ J)
end
/-- B.__init__(self, ..) -/
def tBei (K : PySem.W.Frag) (B newId initId : String) (bmB : List Value) (ta : TA) : TE := fun σ H Q => ta σ H fun vs H1 => ∃ (a C : Addr) (ws : List V), vs = .ref a :: ws ∧ ws.length ≤ 1000 ∧ OexB K C B newId initId bmB ∧ H1 a = some (exo a C none) ∧ Q .non H1
/-- self.f = e, the one field -/
def tBst (K : PySem.W.Frag) (B newId initId : String) (bmB : List Value) (f : Str) (to te : TE) : TS := fun D σ H => te σ H fun y H1 => to σ H1 fun x H2 => ∃ a C : Addr, x = .ref a ∧ OexB K C B newId initId bmB ∧ PySem.W.findIn K (.ref C) f = some none ∧
  H2 a = some (exo a C none) ∧ ∀ dx, H2 dx = none → dx ≠ a → D.nx σ (upd (upd H2 dx (exd dx [(f, y)])) a (exo a C (some dx)))
section
variable {X : Cx} {o e : Expr} {es : List Expr} {to te : TE} {ta : TA} {f bx : Str} {p p' p1 p2 pos : Pos} {B newId initId : String} {bmB : List Value}
theorem pe_beinit {pl : Sem Bool} (typ : typeOf (.type B) = pure (.type "type")) (stub : Manifest.isStub B = false) (hbt : bootBuiltins bx = some (.type B)) (hh : PySem.W.handedIn (.builtin initId) = true) (hg : Gl X bx) (hm : X.mg bx = none) (vV : PySem.W.findCls X.K (.type B) (.type "type") "__init__" = some (.val (.builtin initId))) (ha : PA X (e :: es) ta)
    (hn : bx ≠ "__name__" := by decide) (hdb : (bx == ("__debug__" : Str)) = false := by decide)
    (hc : eval (.Call (.Attribute (.Name bx p1) "__init__" p2) (e :: es) [] pos) X.env = (do let ov ← eval (.Name bx p1) X.env; standAt p2.atName; let (f, first) ← holding [ov] (getMethod ov "__init__" pl); callWith pos f first (backTo pos (starEach (e :: es) X.env)) (backToKw pos (keywordEach [] X.env))) := by rfl)
    (he : starEach (e :: es) X.env = (false, eval e X.env) :: starEach es X.env := by rfl) (hpl : (backTo pos (starEach es X.env)).any (·.1) = false := by rfl) : PE X (.Call (.Attribute (.Name bx p1) "__init__" p2) (e :: es) [] pos) (tBei X.K B newId initId bmB ta) := by
  refine ⟨fun pins s σ H Q I h => PySem.W.methodCall_KW (ld_blt I hg hm hbt ?_ hn hdb) hc⟩
  obtain ⟨m, fr⟩ := I.fr
  refine PySem.W.method_type fr I.ok.mod.kin typ stub vV hh ?_
  show wpAny (model X.prog X.w) _ (callWith pos (Value.builtin initId) [] (backTo pos (starEach (e :: es) X.env)) []) _ _ _
  refine PyProof.Rows.callWith_method1 (thn (ha.run pos pins _ σ H _ (I.tok _) h) fun us s1 ⟨vs, H1, I1, r1, a, C, ws, ev, hl, T, ea, q⟩ => ?_) he hpl
  subst ev
  cases r1 with
  | @cons _ u0 _ ur ra rw' =>
    cases (show u0 = Value.ref a from ra)
    exact z_oinit T I1 ea (by rw [← Paired.length rw', sizeLine_eq]; omega) fun s' J => ⟨.non, H1, J, rfl, q⟩
theorem ps_bst (ho : PE X o to) (he : PE X e te) (hs : swapsWith e (some (.Attribute o f p')) pos.line X.env = pure false := by rfl) : PS X (.Assign [.Attribute o f p'] e pos) (tBst X.K B newId initId bmB f to te) := by
  refine ⟨fun pins s σ H D I h => plainObj_wpAny_Assign_Attribute (thn (he.run pins s σ H _ I h) fun v s1 ⟨y, H1, I1, r1, q1⟩ => thn (ho.run pins s1 σ H1 _ I1 q1) fun u s2 ⟨x, H2, I2, r2, a, C, ex, T, hno, ea, q⟩ => ?_) hs⟩
  subst ex
  cases (show u = Value.ref a from r2)
  exact z_ost T I2 ea hno r1 fun dx s' n ne J => ⟨σ, _, J, q dx n ne⟩
theorem pmk_bex {CX : CXT} {x : Str} {C fI : Addr} {k : Nat} {fd : FuncData} {ps : List Str} {sp : Sp} {ds : List Value} {dvs : List V} (T : OexB X.K C B newId initId bmB) (iC : PySem.W.findIn X.K (.ref C) "__init__" = some (some (.ref fI))) (tI : PySem.W.typeIn X.K (.ref fI) = some (.type "function"))
    (F1 : FnOk X.prog X.w X.K X.mg X.base CX k fI fd ps sp) (hr : Room (k + 1) X.A) (hb : Binds X.K fd ps ds) (hd : Vals dvs ds) (hx : Passes CX X (fun _ _ _ => False)) (hg : Gl X x) (hm : X.mg x = some (.ref C)) (ha : PA X (e :: es) ta)
    (hdb : (x == ("__debug__" : Str)) = false := by decide) (he : starEach (e :: es) X.env = (false, eval e X.env) :: starEach es X.env := by rfl) (hpl : (backTo pos (starEach es X.env)).any (·.1) = false := by rfl) : PMk X (.Call (.Name x p) (e :: es) [] pos) (tMkO C sp dvs ta) := by
  intro pins s σ H Q I h
  obtain ⟨nm, q, N, bs, sn, sub, ab, col, dd, k0, k1, k2, k3, k5, hC⟩ := T.cls
  refine wpAny_Call_Name_kw (ld_glob I hg hm (PySem.W.callWith_K (h₀ := X.base) I.ok.mod.kin T.kC (thn (ha.run pos pins s σ H _ I h) fun us s1 ⟨vs, H1, I1, r1, hz, q1⟩ => ⟨I1.kIn, ?_⟩) he hpl) hdb)
  show wpAny (model X.prog X.w) _ (call (.ref C) us) _ _ _
  obtain ⟨hp, g, dr, tk, os⟩ := s1
  have z1 : hp.objs.size ≤ hp.objs.size + 1 := Nat.le_succ _
  have hq := q1 (hp.objs.size + 1) (I1.hok.fresh z1)
  have kk : ∀ b o, hp.get? b = some o → ((hp.push (PySem.W.kdv_tup us)).push (PySem.HandSPX.excO C hp.objs.size)).get? b = some o := fun _ _ e => Heap.get?_push_of_some _ (Heap.get?_push_of_some _ e)
  have gg : ((hp.push (PySem.W.kdv_tup us)).push (PySem.HandSPX.excO C hp.objs.size)).get? (hp.objs.size + 1) = some (PySem.HandSPX.excO C hp.objs.size) := by heap_get
  have I2 : Inv X pins σ (upd H1 (hp.objs.size + 1) (exo (hp.objs.size + 1) C none)) ⟨(hp.push (PySem.W.kdv_tup us)).push (PySem.HandSPX.excO C hp.objs.size), g, dr, tk, os⟩ := I1.laid (t' := tk) (a := hp.objs.size + 1) (o := exo (hp.objs.size + 1) C none) kk z1 (exo_ok gg)
  have r2 : Vals (V.ref (hp.objs.size + 1) :: (vs ++ dvs)) (Value.ref (hp.objs.size + 1) :: (us ++ ds)) := .cons rfl (r1.append hd)
  have hl : (Value.ref (hp.objs.size + 1) :: us ++ ds).length = ps.length := (r2.length.symm.trans (F1.len _ _ _ _ hq))
  have hus : us.length ≤ sizeLine := by rw [← Paired.length r1, sizeLine_eq]; omega
  refine wpAny_call (PySem.HandSPX.call_own T.fac (fun _ => rfl) (I1.kIn _ _ hC) (PySem.W.looks_findIn I1.kIn iC) (fun self => PySem.W.bind_fn I1.kIn self tI) hus
    (codeAny_mono (F1.run _ X.stack _ _ ⟨Value.ref (hp.objs.size + 1) :: us, []⟩ (Value.ref (hp.objs.size + 1) :: (us ++ ds)) _ _ (fun _ _ _ => False) (hr.make C us []) (I2.env0.make C us []) (hb _ (Value.ref (hp.objs.size + 1) :: us) I2.kIn hl) r2 hq) fun r s' hz2 => ?_))
  cases r with
  | error er => exact hx pins σ _ _ er s' I2 hz2
  | ok fl => cases fl with
    | ret u =>
      obtain ⟨v, H2, os2, bare2, un2, hok2, rv, ev, d, fs, ea, ed, hd1, q2⟩ := hz2
      subst ev
      obtain ⟨h2, g2, d2, t2, os'⟩ := s'
      exact ⟨rv, mk_end (raises_own T.exC T.tyC) I1 z1 kk un2 hok2 os2 bare2 ea ed hd1 q2⟩
    | _ => exact False.elim hz2
end
end Z
namespace Z
open PySem PySem.Spec PyProof.Rows L2
/-- a built-in base: what of it is the same in every program -/
structure BaseX (B newId initId : String) (bx : Str) (bmB : List Value) : Prop where
  fac : ExcBaseFacts B newId initId bmB
  pass : ∀ self, refuseLoop self "__setattr__" bmB = pure ()
  hob : bmB.contains (.type "object") = true
  typ : typeOf (.type B) = pure (.type "type")
  stub : Manifest.isStub B = false
  hbt : bootBuiltins bx = some (.type B)
  hh : PySem.W.handedIn (.builtin initId) = true
  kmt : PySem.W.kitMeta B = true
abbrev tl_ValueError : List Value := [.type "ValueError", .type "Exception", .type "BaseException", .type "object"]
theorem bx_ValueError : BaseX "ValueError" "ValueError.__new__" "ValueError.__init__" "ValueError" tl_ValueError := ⟨PySem.F.excBase_ValueError, PySem.F.store_ValueError.passes, by decide +kernel, by kernel_rfl, by decide +kernel, by decide +kernel, by decide +kernel, by decide +kernel⟩
abbrev tl_LookupError : List Value := [.type "LookupError", .type "Exception", .type "BaseException", .type "object"]
theorem bx_LookupError : BaseX "LookupError" "LookupError.__new__" "LookupError.__init__" "LookupError" tl_LookupError := ⟨PySem.F.excBase_LookupError, PySem.F.store_LookupError.passes, by decide +kernel, by kernel_rfl, by decide +kernel, by decide +kernel, by decide +kernel, by decide +kernel⟩
abbrev tl_IndexError : List Value := [.type "IndexError", .type "LookupError", .type "Exception", .type "BaseException", .type "object"]
theorem bx_IndexError : BaseX "IndexError" "IndexError.__new__" "IndexError.__init__" "IndexError" tl_IndexError := ⟨PySem.F.excBase_IndexError, PySem.F.store_IndexError.passes, by decide +kernel, by kernel_rfl, by decide +kernel, by decide +kernel, by decide +kernel, by decide +kernel⟩
abbrev tl_OverflowError : List Value := [.type "OverflowError", .type "ArithmeticError", .type "Exception", .type "BaseException", .type "object"]
theorem bx_OverflowError : BaseX "OverflowError" "OverflowError.__new__" "OverflowError.__init__" "OverflowError" tl_OverflowError := ⟨PySem.F.excBase_OverflowError, PySem.F.store_OverflowError.passes, by decide +kernel, by kernel_rfl, by decide +kernel, by decide +kernel, by decide +kernel, by decide +kernel⟩
abbrev tl_ArithmeticError : List Value := [.type "ArithmeticError", .type "Exception", .type "BaseException", .type "object"]
theorem bx_ArithmeticError : BaseX "ArithmeticError" "ArithmeticError.__new__" "ArithmeticError.__init__" "ArithmeticError" tl_ArithmeticError := ⟨PySem.F.excBase_ArithmeticError, PySem.F.store_ArithmeticError.passes, by decide +kernel, by kernel_rfl, by decide +kernel, by decide +kernel, by decide +kernel, by decide +kernel⟩
abbrev tl_TypeError : List Value := [.type "TypeError", .type "Exception", .type "BaseException", .type "object"]
theorem bx_TypeError : BaseX "TypeError" "TypeError.__new__" "TypeError.__init__" "TypeError" tl_TypeError := ⟨PySem.F.excBase_TypeError, PySem.F.store_TypeError.passes, by decide +kernel, by kernel_rfl, by decide +kernel, by decide +kernel, by decide +kernel, by decide +kernel⟩
abbrev tl_RuntimeError : List Value := [.type "RuntimeError", .type "Exception", .type "BaseException", .type "object"]
theorem bx_RuntimeError : BaseX "RuntimeError" "RuntimeError.__new__" "RuntimeError.__init__" "RuntimeError" tl_RuntimeError := ⟨PySem.F.excBase_RuntimeError, PySem.F.store_RuntimeError.passes, by decide +kernel, by kernel_rfl, by decide +kernel, by decide +kernel, by decide +kernel, by decide +kernel⟩
/-- an own exception class x at C over the base B, its __init__ at fI, its one field n -/
structure ExB (K : PySem.W.Frag) (mg : Str → Option Value) (x n : Str) (C fI : Addr) (B newId initId : String) (bmB : List Value) : Prop where
  gC : mg x = some (.ref C)
  oex : OexB K C B newId initId bmB
  xf : XfC K C
  xc : ExcC K C
  no : PySem.W.findIn K (.ref C) n = some none
  iC : PySem.W.findIn K (.ref C) "__init__" = some (some (.ref fI))
  tI : PySem.W.typeIn K (.ref fI) = some (.type "function")
  te : PySem.W.exmOne K (.ref C) (.ref C) = some true
  kv : PySem.W.kitOne K (.ref C) (.type B) = some true
theorem kvB_of {K : PySem.W.Frag} {C : Addr} {B : String} (hm : PySem.W.kitMeta B = true) (h : PySem.W.subIn K (.ref C) (.type B) = some true) : PySem.W.kitOne K (.ref C) (.type B) = some true := by
  unfold PySem.W.kitOne
  rw [show ((Value.ref C) == (Value.type B)) = false from rfl]
  show PySem.W.kitCls K (.ref C) (.type B) = some true
  unfold PySem.W.kitCls
  show (if PySem.W.kitMeta B = true then _ else none) = some true
  rw [if_pos hm]
  exact h
section
variable {K : PySem.W.Frag} {σ : L2.St} {H : Hp} {B newId initId : String} {bmB : List Value}
theorem st_bei {ta : TA} {Q : VK} (h : ta σ H fun vs H1 => ∃ (a C : Addr) (ws : List V), vs = .ref a :: ws ∧ ws.length ≤ 1000 ∧ OexB K C B newId initId bmB ∧ H1 a = some (exo a C none) ∧ Q .non H1) : tBei K B newId initId bmB ta σ H Q := h
theorem st_bst {f : Str} {to te : TE} {D : Ends} (h : te σ H fun y H1 => to σ H1 fun x H2 => ∃ a C : Addr, x = .ref a ∧ OexB K C B newId initId bmB ∧ PySem.W.findIn K (.ref C) f = some none ∧
    H2 a = some (exo a C none) ∧ ∀ dx, H2 dx = none → dx ≠ a → D.nx σ (upd (upd H2 dx (exd dx [(f, y)])) a (exo a C (some dx)))) : tBst K B newId initId bmB f to te D σ H := h
end
section
variable {K : PySem.W.Frag} {x qual : Str} {params : Arguments} {body : List Stmt} {scope : Scope} {kws : List (Str × V)} {f : Addr} {fd : FuncData} {ps ks : List Str} {n : Nat}
theorem kbnK (F : FunD K x qual params body scope [] kws f fd) (g : List Value → List Value → List Value) {gV : List V → List V → List V} (rel : ∀ {vs : List V} {us : List Value} {zs : List V} {ws : List Value}, Vals vs us → Vals zs ws → Vals (gV vs zs) (g us ws))
    (h : ∀ (kV doc pm : Value) (an : Option Addr) (cdv ct : Value) (us ws : List Value), us.length = n → ws.length = ks.length → bindArgs (PySem.W.fnOf x qual params body scope .none kV doc pm an cdv ct) ⟨us, ks.zip ws⟩ = pure (ps.zip (g us ws))) : KBn K fd ps n ks g gV := by
  obtain ⟨oc, od, dV, kV, doc, pm, an, cdv, ct, osl, rfl, lk, hcd, hD, hK⟩ := F.ex
  rcases hD with ⟨_, rfl⟩ | ⟨e, _⟩
  · exact ⟨fun s us ws _ l1 l2 => .of_eq (h kV doc pm an cdv ct us ws l1 l2), rel⟩
  · exact absurd rfl e
end
/-- f(e, .., k = v, ..) whose exceptions go where the try says -/
def tCallNS (n m : Nat) (sp : Sp) (gV : List V → List V → List V) (E : L2.St → XK) (t tk : TA) : TE := fun σ H Q => t σ H fun vs H1 => tk σ H1 fun zs H2 => vs.length = n ∧ zs.length = m ∧ sp (gV vs zs) H2 Q (E σ)
section
variable {X : Cx} {CX : CXT} {k n : Nat} {f : Addr} {fd : FuncData} {ps ks : List Str} {sp : Sp} {E : L2.St → XK} {x : Str} {p pos : Pos} {e : Expr} {es : List Expr} {kws : List Keyword} {t tk : TA} {g : List Value → List Value → List Value} {gV : List V → List V → List V}
theorem pe_callNS (F : FnOk X.prog X.w X.K X.mg X.base CX k f fd ps sp) (hr : Room k X.A) (hg : Gl X x) (hm : X.mg x = some (.ref f)) (hk : PySem.W.keepIn X.K (.ref f) = true) (hb : KBn X.K fd ps n ks g gV) (hx : ∀ σ, PassesAt CX X σ (E σ)) (ha : PA X (e :: es) t) (hkw : PK X kws tk)
    (hall : (backToKw pos (keywordEach kws X.env)).all (·.1.isSome) = true := by rfl) (hks : (backToKw pos (keywordEach kws X.env)).filterMap (·.1) = ks := by rfl) (hdb : (x == ("__debug__" : Str)) = false := by decide) (he : starEach (e :: es) X.env = (false, eval e X.env) :: starEach es X.env := by rfl) (hpl : ((backTo pos (starEach (e :: es) X.env)).any (·.1) || (backToKw pos (keywordEach kws X.env)).any (·.1.isNone)) = false := by rfl) : PE X (.Call (.Name x p) (e :: es) kws pos) (tCallNS n ks.length sp gV E t tk) := by
  refine ⟨fun pins s σ H Q I h => wpAny_Call_Name_kw (ld_glob I hg hm (PySem.W.callWith_KW (h₀ := X.base) I.ok.mod.kin hk hall (thn (ha.run pos pins s σ H _ I h) fun us s1 ⟨vs, H1, I1, r, q⟩ => thn (hkw.run pos pins s1 σ H1 _ I1 q) fun ws s2 ⟨zs, H2, I2, rz, l1, l2, q2⟩ => ⟨I2.kIn, ?_⟩) hpl he) hdb)⟩
  rw [hks]
  have r2 := hb.rel r rz
  refine wpAny_call (codeAny_mono (F.run X.A X.stack s2 H2 ⟨us, ks.zip ws⟩ (g us ws) (gV vs zs) Q (E σ) hr I2.env0 (hb.to s2 us ws I2.kIn (r.length.symm.trans l1) (rz.length.symm.trans l2)) r2 q2) fun r s' hq => ?_)
  cases r with
  | error e => exact hx σ pins H2 s2 e s' I2 hq
  | ok fl => cases fl with
    | ret u => exact I2.after hq
    | _ => exact False.elim hq
theorem st_callNS {m : Nat} {σ : L2.St} {H : Hp} {Q : VK} (h : t σ H fun vs H1 => tk σ H1 fun zs H2 => vs.length = n ∧ zs.length = m ∧ sp (gV vs zs) H2 Q (E σ)) : tCallNS n m sp gV E t tk σ H Q := h
end
end Z

/-! own classes: made by a local name, methods in a try, len; comprehensions over enumerate, of two parts -/
namespace Z
open PySem PySem.Spec PyProof.Rows L2
section
variable {X : Cx} {CX : CXT} {k : Nat} {f C : Addr} {fd : FuncData} {ps : List Str} {ds : List Value} {dvs : List V} {sp : Sp} {m : Str} {fe o e : Expr} {es : List Expr} {tf ta : TE} {t : TA} {pos apos : Pos} {E : XK}
/-- g(e, ..), g an expression whose value is the class at C -/
def tMakeV (C : Addr) (sp : Sp) (dvs : List V) (E : XK) (tf : TE) (t : TA) : TE := fun σ H Q => tf σ H fun y H1 => y = .ref C ∧ tMake C sp dvs E t σ H1 Q
theorem pe_makeV (hf : PE X fe tf) (M : Mk X.K C f) (F : FnOk X.prog X.w X.K X.mg X.base CX k f fd ps sp) (hr : Room (k + 1) X.A) (hb : Binds X.K fd ps ds) (hd : Vals dvs ds) (hx : Passes CX X E) (ha : PA X (e :: es) t)
    (ht : eval (.Call fe (e :: es) [] pos) X.env = (do callWith pos (← eval fe X.env) [] (backTo pos (starEach (e :: es) X.env)) (backToKw pos (keywordEach [] X.env))) := by rfl)
    (he : starEach (e :: es) X.env = (false, eval e X.env) :: starEach es X.env := by rfl) (hpl : (backTo pos (starEach es X.env)).any (·.1) = false := by rfl) : PE X (.Call fe (e :: es) [] pos) (tMakeV C sp dvs E tf t) := by
  refine ⟨fun pins s σ H Q I h => Call_ (thn (hf.run pins s σ H _ I h) fun u s1 ⟨y, H1, I1, ry, ey, q⟩ => ?_) ht⟩
  subst ey
  obtain rfl : u = Value.ref C := ry
  exact PySem.W.callWith_K (h₀ := X.base) I1.ok.mod.kin M.kp (thn (ha.run pos pins s1 σ H1 _ I1 q) fun us s2 ⟨vs, H2, I2, r, q2⟩ => ⟨I2.kIn, run_make M F hr hb hd hx I2 r q2⟩) he hpl
theorem st_makeV {σ : L2.St} {H : Hp} {Q : VK} (h : tf σ H fun y H1 => y = .ref C ∧ tMake C sp dvs E t σ H1 Q) : tMakeV C sp dvs E tf t σ H Q := h
theorem st_make {σ : L2.St} {H : Hp} {Q : VK} (h : t σ H fun vs H1 => ∀ x dx, H1 x = none → H1 dx = none → dx ≠ x → sp (.ref x :: (vs ++ dvs)) (upd (upd H1 dx (.own x)) x (.ins C dx [])) (fun v H2 => v = .non ∧ Q (.ref x) H2) E) : tMake C sp dvs E t σ H Q := h
theorem st_meth {σ : L2.St} {H : Hp} {Q : VK} (h : ta σ H fun x H1 => ∃ a dx fs, x = .ref a ∧ H1 a = some (.ins C dx fs) ∧ fs.lookup m = none ∧ t σ H1 fun vs H2 => sp (x :: (vs ++ dvs)) H2 Q E) : tMeth C m sp dvs E ta t σ H Q := h
theorem st_fld {K : PySem.W.Frag} {n : Str} {σ : L2.St} {H : Hp} {Q : VK} (h : ta σ H fun x H1 => ∃ a C dx fs v, x = .ref a ∧ H1 a = some (.ins C dx fs) ∧ Cls K C ∧ NoAttr K C n ∧ fs.lookup n = some v ∧ Q v H1) : tFld K ta n σ H Q := h
theorem st_sfld {K : PySem.W.Frag} {tv : TE} {n : Str} {σ : L2.St} {H : Hp} {D : Ends} (h : tv σ H fun y H1 => ta σ H1 fun x H2 => ∃ a C dx fs, x = .ref a ∧ H2 a = some (.ins C dx fs) ∧ Cls K C ∧ NoAttr K C n ∧ fs.length < 1000 ∧ D.nx σ (upd H2 a (.ins C dx (putF n y fs)))) : sFld K ta tv n D σ H := h
theorem st_cval {K : PySem.W.Frag} {n : Str} {σ : L2.St} {H : Hp} {Q : VK} (h : ta σ H fun x H1 => ∃ C mc v u, x = .ref C ∧ ClX.CRead K C mc ∧ ClX.CVal K C mc n v u ∧ Q v H1) : ClX.tCVal K ta n σ H Q := h
theorem st_cmeth {σ : L2.St} {H : Hp} {Q : VK} (h : ta σ H fun x H1 => x = .ref C ∧ t σ H1 fun vs H2 => sp (.ref C :: vs) H2 Q E) : ClX.tCMeth C sp E ta t σ H Q := h
/-- o.m(..) whose exceptions go where the try says -/
def tMethSD (C : Addr) (m : Str) (sp : Sp) (dvs : List V) (E : L2.St → XK) (ta : TE) (t : TA) : TE := fun σ H Q => ta σ H fun x H1 => ∃ a dx fs, x = .ref a ∧ H1 a = some (.ins C dx fs) ∧ fs.lookup m = none ∧ t σ H1 fun vs H2 => sp (x :: (vs ++ dvs)) H2 Q (E σ)
theorem pe_methSD {pl : Sem Bool} {E : L2.St → XK} (he : PE X o ta) (c : Cls X.K C) (hm : Meth X.K C m f) (F : FnOk X.prog X.w X.K X.mg X.base CX k f fd ps sp) (hr : Room k X.A) (hb : Binds X.K fd ps ds) (hd : Vals dvs ds) (hx : ∀ σ, PassesAt CX X σ (E σ)) (ha : PA X (e :: es) t)
    (hst : starEach (e :: es) X.env = (false, eval e X.env) :: starEach es X.env := by rfl) (hpl : (backTo pos (starEach es X.env)).any (·.1) = false := by rfl)
    (ht : eval (.Call (.Attribute o m apos) (e :: es) [] pos) X.env = (do
      let ov ← eval o X.env
      standAt apos.atName
      let (f, first) ← holding [ov] (getMethod ov m pl)
      callWith pos f first (backTo pos (starEach (e :: es) X.env)) (backToKw pos (keywordEach [] X.env))) := by rfl) :
    PE X (.Call (.Attribute o m apos) (e :: es) [] pos) (tMethSD C m sp dvs E ta t) := by
  refine ⟨fun pins s σ H Q I h => PySem.W.methodCall_KW (pl := pl) (thn (he.run pins s σ H _ I h) fun u s1 ⟨x, H1, I1, rx, a, dx, fs, ex, ea, l, q⟩ => ?_) ht⟩
  subst ex
  obtain rfl : u = Value.ref a := rx
  refine getmeth_ok I1 ea c hm l (PySem.W.callWith_K (first := [.ref a]) (h₀ := X.base) I1.ok.mod.kin hm.kp (thn (ha.run pos pins s1 σ H1 _ I1 q) fun us s2 ⟨vs, H2, I2, r, q2⟩ => ⟨I2.kIn, ?_⟩) hst hpl)
  have r2 : Vals (V.ref a :: (vs ++ dvs)) ((Value.ref a :: us) ++ ds) := .cons rfl (r.append hd)
  refine wpAny_call (codeAny_mono (F.run X.A X.stack s2 H2 ⟨Value.ref a :: us, []⟩ _ _ Q (E σ) hr I2.env0 (hb s2 (Value.ref a :: us) I2.kIn (r2.length.symm.trans (F.len _ _ _ _ q2))) r2 q2) fun r s' hq => ?_)
  cases r with
  | error e => exact hx σ pins H2 s2 e s' I2 hq
  | ok fl => cases fl with
    | ret u => exact I2.after hq
    | _ => exact False.elim hq
theorem st_methSD {E : L2.St → XK} {σ : L2.St} {H : Hp} {Q : VK} (h : ta σ H fun x H1 => ∃ a dx fs, x = .ref a ∧ H1 a = some (.ins C dx fs) ∧ fs.lookup m = none ∧ t σ H1 fun vs H2 => sp (x :: (vs ++ dvs)) H2 Q (E σ)) : tMethSD C m sp dvs E ta t σ H Q := h
/-- len of an instance with its own __len__ -/
def rLenO (C : Addr) (sp : Sp) : List V → Hp → VK → Prop := fun vs H Q => ∃ a dx fs, vs = [.ref a] ∧ H a = some (.ins C dx fs) ∧ sp [.ref a] H (fun v H2 => ∃ n : Int, v = .int n ∧ (0 ≤ n ∧ n < 2 ^ 63) ∧ Q (.int n) H2) E0
theorem call_lenO (hm : Meth X.K C "__len__" f) (F : FnOk X.prog X.w X.K X.mg X.base CX0 k f fd ps sp) (hr : Room (k + 1) X.A) (hb : Binds X.K fd ps []) : CallR X (.builtin "len") (rLenO C sp) := by
  intro pins s σ H vs us Q I r h
  obtain ⟨a, dx, fs, rfl, ha, q⟩ := h
  rw [Vals.ref1 r]
  obtain ⟨ox, od, J, _⟩ := StX.insC_at (C := C) I (.inr ⟨dx, fs, ha⟩)
  refine Calls.call_function_entry kind_len plain_len entry_len (args_len1 _) ?_
  unfold Builtin.«len»
  refine wpAny_bind (m := oneArg "len" _) (wpAny_pure ?_)
  have r2 : Vals [V.ref a] ([Value.ref a] ++ []) := .cons rfl .nil
  have run : wpAny (model X.prog X.w) X.A.in1 (call (.ref f) [.ref a]) (EP X pins σ fun v H2 => ∃ n : Int, v = .int n ∧ (0 ≤ n ∧ n < 2 ^ 63) ∧ Q (.int n) H2) X.xe s := by
    refine wpAny_call (codeAny_mono (F.run X.A.in1 X.stack s H ⟨[.ref a], []⟩ _ _ _ E0 hr.in1 I.env0.in1 (hb s [.ref a] I.kIn (r2.length.symm.trans (F.len _ _ _ _ q))) r2 q) fun r s' hq => ?_)
    cases r with
    | error e => exact False.elim hq
    | ok fl => cases fl with
      | ret u => exact I.after hq
      | _ => exact False.elim hq
  refine wpAny_bind (m := callSpecial? (.ref a) (Str.ofString "__len__")) (PySem.W.special_fn I.kIn J hm.at_ (beq_iff_eq.mp hm.fn) (wpAny_mono run (fun u s' hu => ?_) fun _ _ y => y))
  obtain ⟨v, H2, I2, rv, n, rfl, ⟨h0, h1⟩, q2⟩ := hu
  obtain ⟨tk, rfl⟩ := rv
  refine wpAny_bind (wpAny_holding (wpAny_pure ?_))
  refine wpAny_bind (wpAny_letGo ?_)
  show wpAny _ _ (if n < 0 then _ else _) _ _ _
  rw [if_neg (by omega)]
  show wpAny _ _ (if n ≥ 2 ^ 63 then _ else _) _ _ _
  rw [if_neg (by omega)]
  exact wpAny_bind (wpAny_mkInt (wpAny_pure ⟨_, rfl, .int n, H2, I2.tok _, ⟨_, rfl⟩, q2⟩))
end
/-! the ghost heap -/
section
variable {K : PySem.W.Frag} {σ : L2.St} {H G : Hp} {W : Wl} {Q : VK} {a : Addr} {xs : List V} {tt : TT} {te : TE} {vs : List Nat}
theorem new_ins {C : Addr} {P : Addr → Addr → Hp → Prop} (w : Wd G W H) (k : ∀ x dx G1 H1, Same G G1 → G1 dx = some (.own x) → Wd G1 ((x, Is (.ins C dx [])) :: W) H1 → P x dx H1) : ∀ x dx, H x = none → H dx = none → dx ≠ x → P x dx (upd (upd H dx (.own x)) x (.ins C dx [])) := fun x dx hx hd ne =>
  k x dx _ _ (same_upd (w.free hd)) upd_same ((w.new hd).newM (by rw [upd_ne (fun z => ne z.symm)]; exact hx) rfl)
/-- a comprehension over enumerate -/
theorem lc_enumA (hx : SqL K G a xs ∨ SqT K G a xs) {i1 i2 : Nat} (I : Nat → List V → Hp → Prop) (w : Wd G W H) (h0 : I 0 [] G) (hw : ∀ x y, wipe (((wipe σ vs).set i1 x).set i2 y) vs = wipe σ vs)
    (hs : ∀ (i : Nat) x D G' G'' H' acc, xs[i]? = some x → Same G G' → I i acc G' → Same G' G'' → Wd G'' ((D, Is (.lst acc)) :: W) H' → tt (((wipe σ vs).set i1 (some (.int (i : Int)))).set i2 (some x)) H' fun b H3 =>
      if b = true then te (((wipe σ vs).set i1 (some (.int (i : Int)))).set i2 (some x)) H3 fun y H4 => ∃ acc, H4 D = some (.lst acc) ∧ acc.length < sizeLine ∧ LcB I G W D (i + 1) (upd H4 D (.lst (acc ++ [y]))) else LcB I G W D (i + 1) H3)
    (hd : ∀ D G' H' acc, Same G G' → Wd G' ((D, Is (.lst acc)) :: W) H' → I xs.length acc G' → Q (.ref D) H') :
    ∃ a' ys, [V.ref a] = [.ref a'] ∧ ((SqL K H a' ys ∧ LcQ (Ite K a') (gTup K 2 (gCons (gName i1) (gCons (gName i2) gNil))) tt te vs σ H Q) ∨ (SqT K H a' ys ∧ LcQ (IteT K a') (gTup K 2 (gCons (gName i1) (gCons (gName i2) gNil))) tt te vs σ H Q)) := by
  have step : ∀ (i : Nat) (x : V) (D : Addr) (G' H' H'' : Hp) (acc : List V), i < xs.length → Same G G' → Wd G' ((D, Is (.lst acc)) :: W) H' → I i acc G' → YPair (fun i => some (.int (i : Nat))) (fun i => xs[i]?) i H' x H'' →
      gTup K 2 (gCons (gName i1) (gCons (gName i2) gNil)) x (wipe σ vs) H'' fun σ2 H2 => wipe σ2 vs = wipe σ vs ∧ tt σ2 H2 fun b H3 =>
        if b = true then te σ2 H3 fun y H4 => ∃ acc, H4 D = some (.lst acc) ∧ acc.length < sizeLine ∧ LcB I G W D (i + 1) (upd H4 D (.lst (acc ++ [y]))) else LcB I G W D (i + 1) H3 := fun i x D G' H' H'' acc _ e w' h y => by
    obtain ⟨T, x1, x2, rfl, hn, rfl, e1, e2⟩ := y
    cases e1
    refine ⟨T, _, rfl, SqT.of upd_same, rfl, _, _, rfl, ?_⟩
    refine ⟨_, _, rfl, ?_⟩
    exact ⟨rfl, hw _ _, hs i x2 D G' _ _ acc e2 e h (same_upd (w'.free hn)) (w'.new hn)⟩
  rcases hx with hx | hx
  · exact ⟨a, xs, rfl, .inl ⟨seq_up w hx, lc_go walk_enum I w (fun _ _ _ e w' => seq_up w' (e.seq hx)) h0 step hd⟩⟩
  · exact ⟨a, xs, rfl, .inr ⟨tup_up w hx, lc_go walk_enumT I w (fun _ _ _ e w' => tup_up w' (seqT e hx)) h0 step hd⟩⟩
/-- the inner part of a comprehension of two parts -/
def LcIn (J : It) (g : TG) (tt : TT) (te : TE) (vs : List Nat) (D : Addr) (Nx : Hp → Prop) (σ : L2.St) (H4 : Hp) : Prop := ∃ W1 : Nat → Nat → Hp → Prop, (∃ m, W1 0 m H4) ∧ ∀ j k H, W1 j k H →
  (J.stop j H ∧ Nx H) ∨ (J.go j H ∧ ∃ Nx1 : Hp → Prop, (∀ H', Nx1 H' → ∃ k', k' < k ∧ W1 (j + 1) k' H') ∧ ∀ x H', J.yld j H x H' → g x (wipe σ vs) H' fun σ3 H5 => wipe σ3 vs = wipe σ vs ∧ tt σ3 H5 fun b H6 =>
    if b = true then te σ3 H6 fun y H7 => ∃ acc, H7 D = some (.lst acc) ∧ acc.length < sizeLine ∧ Nx1 (upd H7 D (.lst (acc ++ [y]))) else Nx1 H6)
def Lc2Q (J : It) (g : TG) (tt : TT) (wi1 : TI) (g1 : TG) (tt1 : TT) (te : TE) (vs vs1 : List Nat) (σ : L2.St) (H1 : Hp) (Q : VK) : Prop := ∀ D, H1 D = none → ∃ W : Nat → Nat → Hp → Prop, (∃ m, W 0 m (upd H1 D (.lst []))) ∧ ∀ i m H, W i m H →
  (J.stop i H ∧ Q (.ref D) H) ∨ (J.go i H ∧ ∃ Nx : Hp → Prop, (∀ H', Nx H' → ∃ m', m' < m ∧ W (i + 1) m' H') ∧ ∀ x H', J.yld i H x H' → g x (wipe σ vs) H' fun σ2 H2 => wipe σ2 vs = wipe σ vs ∧ tt σ2 H2 fun b H3 =>
    if b = true then wi1 σ2 H3 fun J1 H4 => LcIn J1 g1 tt1 te vs1 D Nx σ2 H4 else Nx H3)
theorem st_lc2 {wi wi1 : TI} {g g1 : TG} {tt1 : TT} {vs1 : List Nat} (h : wi σ H fun J H1 => Lc2Q J g tt wi1 g1 tt1 te vs vs1 σ H1 Q) : tLc2 wi g tt wi1 g1 tt1 te vs vs1 σ H Q := h
theorem lc_in {J : It} {n : Nat} {Gp : Hp → Prop} {Y : Nat → Hp → V → Hp → Prop} (wk : Walk J n Gp Y) {g : TG} {D : Addr} {Nx : Hp → Prop} (Pv : Nat → Hp → Prop) (h0 : Pv 0 H) (hG : ∀ i H, i ≤ n → Pv i H → Gp H)
    (hs : ∀ i x H H', i < n → Pv i H → Y i H x H' → g x (wipe σ vs) H' fun σ2 H2 => wipe σ2 vs = wipe σ vs ∧ tt σ2 H2 fun b H3 =>
      if b = true then te σ2 H3 fun y H4 => ∃ acc, H4 D = some (.lst acc) ∧ acc.length < sizeLine ∧ Pv (i + 1) (upd H4 D (.lst (acc ++ [y]))) else Pv (i + 1) H3) (hd : ∀ H, Pv n H → Nx H) : LcIn J g tt te vs D Nx σ H := by
  refine ⟨fun i m H => m = n - i ∧ i ≤ n ∧ Pv i H, ⟨n, by simp, Nat.zero_le _, h0⟩, ?_⟩
  rintro i m H ⟨rfl, hi, p⟩
  have q := hG i H hi p
  rcases Nat.lt_or_ge i n with hl | hl
  · exact .inr ⟨wk.goes i H hl q, Pv (i + 1), fun H' p' => ⟨n - (i + 1), by omega, rfl, hl, p'⟩, fun x H' y => hs i x H H' hl p (wk.yields i H x H' hl q y)⟩
  · obtain rfl : i = n := by omega
    exact .inl ⟨wk.stops H q, hd H p⟩
/-- .. for j in range(z) -/
theorem lc_in1 {z : Int} {j : Nat} {D : Addr} {Nx : Hp → Prop} {acc0 : List V} (hz : -(2 ^ 62) ≤ z ∧ z < 2 ^ 62) (I : Nat → List V → Hp → Prop) (w : Wd G ((D, Is (.lst acc0)) :: W) H) (h0 : I 0 acc0 G) (hw : ∀ x, wipe ((wipe σ vs).set j x) vs = wipe σ vs)
    (hs : ∀ (i : Nat) G' H' acc, (i : Int) < z → Same G G' → Wd G' ((D, Is (.lst acc)) :: W) H' → I i acc G' → tt ((wipe σ vs).set j (some (.int (i : Int)))) H' fun b H3 =>
      if b = true then te ((wipe σ vs).set j (some (.int (i : Int)))) H3 fun y H4 => ∃ acc, H4 D = some (.lst acc) ∧ acc.length < sizeLine ∧ LcB I G W D (i + 1) (upd H4 D (.lst (acc ++ [y]))) else LcB I G W D (i + 1) H3)
    (hd : ∀ G' H' acc, Same G G' → Wd G' ((D, Is (.lst acc)) :: W) H' → I z.toNat acc G' → Nx H') : ∃ j' : Int, [V.int z] = [.int j'] ∧ -(2 ^ 62) ≤ j' ∧ j' < 2 ^ 62 ∧ LcIn (Itr 0 j'.toNat) (gName j) tt te vs D Nx σ H :=
  ⟨z, rfl, hz.1, hz.2, lc_in walk_range (LcB I G W D) ⟨G, acc0, Same.refl _, w, h0⟩ (fun _ _ _ _ => trivial) (fun i x H' H'' hi ⟨G', acc, e, w', h⟩ y => by
    obtain ⟨rfl, rfl⟩ := y
    have e0 : (0 : Int) + (i : Int) = (i : Int) := Int.zero_add _
    dsimp only
    rw [e0]
    exact ⟨hw _, hs i G' _ acc (by omega) e w' h⟩) fun H' ⟨G', acc, e, w', h⟩ => hd G' H' acc e w' h⟩
/-- the outer part over a list -/
theorem lc2_l {j : Nat} {wi1 : TI} {g1 : TG} {tt1 : TT} {vs1 : List Nat} (hx : SqL K G a xs) (I : Nat → List V → Hp → Prop) (w : Wd G W H) (h0 : I 0 [] G) (hw : ∀ x, wipe ((wipe σ vs).set j x) vs = wipe σ vs)
    (hs : ∀ (i : Nat) x D G' H' acc, xs[i]? = some x → Same G G' → Wd G' ((D, Is (.lst acc)) :: W) H' → I i acc G' → tt ((wipe σ vs).set j (some x)) H' fun b H3 =>
      if b = true then wi1 ((wipe σ vs).set j (some x)) H3 fun J1 H4 => LcIn J1 g1 tt1 te vs1 D (LcB I G W D (i + 1)) ((wipe σ vs).set j (some x)) H4 else LcB I G W D (i + 1) H3)
    (hd : ∀ D G' H' acc, Same G G' → Wd G' ((D, Is (.lst acc)) :: W) H' → I xs.length acc G' → Q (.ref D) H') : ∃ a', V.ref a = .ref a' ∧ (∃ xs, SqL K H a' xs) ∧ Lc2Q (Itl K a') (gName j) tt wi1 g1 tt1 te vs vs1 σ H Q := by
  refine ⟨a, rfl, ⟨xs, seq_up w hx⟩, fun D hD => ⟨fun i m H => m = xs.length - i ∧ i ≤ xs.length ∧ LcB I G W D i H, ⟨xs.length, by simp, Nat.zero_le _, G, [], Same.refl _, w.newM hD rfl, h0⟩, ?_⟩⟩
  rintro i m H1 ⟨rfl, hi, G', acc, e, w', p⟩
  have q := seq_up w' (e.seq hx)
  have wk : Walk (Itl K a) xs.length (fun H => SqL K H a xs) _ := walk_list
  rcases Nat.lt_or_ge i xs.length with hl | hl
  · refine .inr ⟨wk.goes i H1 hl q, LcB I G W D (i + 1), fun H' p' => ⟨xs.length - (i + 1), by omega, rfl, hl, p'⟩, fun x H' y => ?_⟩
    obtain ⟨e3, y2⟩ := wk.yields i H1 x H' hl q y
    subst e3
    exact ⟨hw _, hs i x D G' _ acc y2 e w' p⟩
  · obtain rfl : i = xs.length := by omega
    exact .inl ⟨wk.stops H1 q, hd D G' H1 acc e w' p⟩
end
end Z

/-! own classes: + == != str repr [] of instances -/
namespace PySem.W
open PySem PySem.Calls PyProof.Rows Builtin
section
variable {prog : Program} {w : World} {A : Around} {E : Value → Shared → Prop} {s : Shared} {K : Frag} {x C L f : Addr} {h0 : Heap} {m : Str → Option Value} {ox : Obj} {od : Option Obj}
theorem zc_ifBound {M : Model} {nm : Str} {id : String} {args : List Value} {Q : Option Value → Shared → Prop} (X : K.In s.heap) (I : InstAt s.heap x ox C od) (hs : findIn K (.ref C) nm = some (some (.builtin id)))
    (hb : ∀ v, bindSpecial (.builtin id) v = pure (.builtin id, [v])) (h : wpAny M A (call (.builtin id) (.ref x :: args)) (fun v => Q (some v)) E s) : wpAny M A (callSpecialIfBound? (.ref x) nm args) Q E s := by
  simp only [callSpecialIfBound?, bindSpecialIfBound?]
  have last : wpAny M A (call (.builtin id) ([.ref x] ++ args) >>= fun v => pure (some v)) Q E s := wpAny_bind (wpAny_mono h (fun v t q => wpAny_pure q) fun _ _ q => q)
  refine wpAny_holding (wpAny_bind (wpAny_bind (wpAny_bind (I.type.here ((looks_findIn X hs).here (wpAny_bind (wpAny_askSetting (wpAny_ite ?_))))))))
  split
  · exact wpAny_bind ((Looks.of_pure (hb _)).here (wpAny_pure last))
  · exact wpAny_tryCatch (wpAny_bind ((Looks.of_pure (hb _)).here (wpAny_pure last)))
theorem zc_neBind (v : Value) : bindSpecial (.builtin "object.__ne__") v = pure (.builtin "object.__ne__", [v]) := by kernel_rfl
/-- x != b, the class has __eq__ and no __ne__ of its own -/
theorem zc_ne {b : Value} {Q : Value → Shared → Prop} (hu : A.units < cLine) (hu1 : A.in1.units < cLine) (F : Fr h0 L s.heap m) (X0 : K.In h0) (I : InstAt s.heap x ox C od) (hb : Looks (model prog w) s.heap (typeOf b) (.ref C))
    (hn : findIn K (.ref C) "__ne__" = some (some (.builtin "object.__ne__"))) (hm : mroIn K C (.type "object") = some true) (hs : findIn K (.ref C) "__eq__" = some (some (.ref f))) (hf : isFn K (.ref f) = true)
    (h : wpAny (model prog w) A.in1 (call (.ref f) [.ref x, b]) (fun v t => ∃ c, v = .bool c ∧ Q (.bool (!c)) t) E s) : wpAny (model prog w) A (richCompare .NotEq (.ref x) b) Q E s := by
  have X := X0.keeps F.keep
  have one : wpAny (model prog w) A (tryCompare (.ref x) (cmpInfo .NotEq).2.1 b) (fun r t => ∃ v, r = some v ∧ Q v t) E s := by
    unfold tryCompare
    refine wpAny_bind (zc_ifBound X I (show findIn K (.ref C) (cmpInfo .NotEq).2.1 = _ from hn) zc_neBind (wpAny_call (codeAny_call_builtin PySem.F.slot_object_ne.plain PySem.F.cmpEntry_ne (check_slot PySem.F.cmpKind_ne PySem.F.cmpSplit_ne (I.type.andThen (looks_mroIn X hm)) (PySem.F.cmpArgs_ne _ _) ?_))))
    unfold Builtin.«object.__ne__»
    refine wpAny_bind (m := slotArgs "__ne__" 1 _) (wpAny_pure ?_)
    refine wpAny_bind (m := cRoomFor _ _) (wpAny_cRoomFor hu1 ?_)
    refine wpAny_bind (m := callSpecialIfBound? (.ref x) (Str.ofString "__eq__") _) (ifBound_K X I hs hf (wpAny_mono h (fun r t hr => ?_) fun _ _ y => y))
    obtain ⟨c, rfl, q⟩ := hr
    refine wpAny_bind (m := truthy (.bool _)) (wpAny_truthy_bool ?_)
    exact wpAny_pure (wpAny_pure ⟨_, rfl, q⟩)
  unfold richCompare
  simp only [oneThing_ref]
  refine wpAny_holding (wpAny_bind (wpAny_cRoomFor hu (wpAny_bind (I.type.here (wpAny_bind (hb.here ?_))))))
  rw [show (Value.ref C != Value.ref C) = false from by simp]
  simp only [Bool.false_eq_true, if_false]
  refine wpAny_bind (wpAny_pure ?_)
  simp only [Bool.false_eq_true, if_false]
  refine wpAny_bind (wpAny_mono one (fun r t z => ?_) fun _ _ e => e)
  obtain ⟨v, rfl, q⟩ := z
  exact wpAny_pure q
end
end PySem.W
namespace Z
open PySem PySem.Spec PyProof.Rows L2
section
variable {X : Cx} {k : Nat} {f C : Addr} {fd : FuncData} {ps : List Str} {sp : Sp}
/-- an own def runs within a builtin -/
theorem run_own {A1 : Around} {E1 : Value → Shared → Prop} {pins : List (Addr × Obj)} {σ : L2.St} {H : Hp} {s : Shared} {Q : VK} {us : List Value} {vs : List V} (F : FnOk X.prog X.w X.K X.mg X.base CX0 k f fd ps sp) (hr : Room k A1) (e0 : Env0 X.prog X.w X.K X.mg X.base A1 X.stack s H)
    (hb : Binds X.K fd ps []) (I : Inv X pins σ H s) (r : Vals vs us) (q : sp vs H Q E0) : wpAny (model X.prog X.w) A1 (call (.ref f) us) (EP X pins σ Q) E1 s := by
  have r2 : Vals vs (us ++ []) := by rw [List.append_nil]; exact r
  refine wpAny_call (codeAny_mono (F.run A1 X.stack s H ⟨us, []⟩ _ _ Q E0 hr e0 (hb s us I.kIn (r2.length.symm.trans (F.len _ _ _ _ q))) r2 q) fun r s' hq => ?_)
  cases r with
  | error e => exact False.elim hq
  | ok fl => cases fl with
    | ret u => exact I.after hq
    | _ => exact False.elim hq
theorem vals_a (a : Addr) : Vals [V.ref a] [Value.ref a] := .cons rfl .nil
theorem vals_ab (a b : Addr) : Vals [V.ref a, V.ref b] [Value.ref a, Value.ref b] := .cons rfl (.cons rfl .nil)
/-- a + b, instances of C -/
def rAddO (C : Addr) (sp : Sp) : R2 := fun x y H Q => ∃ a b dx fs dy gs, x = .ref a ∧ y = .ref b ∧ H a = some (.ins C dx fs) ∧ H b = some (.ins C dy gs) ∧ sp [.ref a, .ref b] H (fun v H2 => ∃ p, v = .ref p ∧ Q (.ref p) H2) E0
theorem op_addO (hc : PySem.W.selfFirst X.K C = true) (hm : Meth X.K C "__add__" f) (F : FnOk X.prog X.w X.K X.mg X.base CX0 k f fd ps sp) (hr : Room k X.A) (hb : Binds X.K fd ps []) : OpR X (binaryOp .Add) (rAddO C sp) := by
  intro pins s σ H x y v u Q I rx ry h
  obtain ⟨a, b, dx, fs, dy, gs, rfl, rfl, ha, hb2, q⟩ := h
  cases rx
  cases ry
  obtain ⟨m, hF⟩ := I.fr
  obtain ⟨ox, od, J, _⟩ := StX.insC_at (C := C) I (.inr ⟨dx, fs, ha⟩)
  obtain ⟨oy, od2, J2, _⟩ := StX.insC_at (C := C) I (.inr ⟨dy, gs, hb2⟩)
  refine PySem.W.binop_K (op := .Add) hF I.ok.mod.kin J J2.type hc hm.at_ hm.fn (wpAny_mono (run_own F hr I.env0 hb I (vals_ab a b) q) (fun v s' hv => ?_) fun _ _ y => y)
  obtain ⟨v', H2, I2, rv, p, rfl, q2⟩ := hv
  cases rv
  exact ⟨V.ref p, H2, I2, rfl, q2⟩
/-- a == b, instances of C; != the same, by == -/
def rEqO (C : Addr) (sp : Sp) (neg : Bool) : R2 := fun x y H Q => ∃ a b dx fs dy gs, x = .ref a ∧ y = .ref b ∧ H a = some (.ins C dx fs) ∧ H b = some (.ins C dy gs) ∧ sp [.ref a, .ref b] H (fun v H2 => ∃ c, v = .bl c ∧ Q (.bl (if neg then !c else c)) H2) E0
theorem op_eqO (hm : Meth X.K C "__eq__" f) (F : FnOk X.prog X.w X.K X.mg X.base CX0 k f fd ps sp) (hr : Room k X.A) (hb : Binds X.K fd ps []) : OpR X (compareOp .Eq) (rEqO C sp false) := by
  intro pins s σ H x y v u Q I rx ry h
  obtain ⟨a, b, dx, fs, dy, gs, rfl, rfl, ha, hb2, q⟩ := h
  cases rx
  cases ry
  obtain ⟨m, hF⟩ := I.fr
  obtain ⟨ox, od, J, _⟩ := StX.insC_at (C := C) I (.inr ⟨dx, fs, ha⟩)
  obtain ⟨oy, od2, J2, _⟩ := StX.insC_at (C := C) I (.inr ⟨dy, gs, hb2⟩)
  refine show wpAny _ _ (richCompare .Eq _ _) _ _ _ from PySem.W.cmp_K (op := .Eq) (tb := .ref C) hr.units0 hF I.ok.mod.kin J J2.type (by simp [PySem.W.notFirst]) hm.at_ hm.fn (wpAny_mono (run_own F hr I.env0 hb I (vals_ab a b) q) (fun v s' hv => ?_) fun _ _ y => y)
  obtain ⟨v', H2, I2, rv, c, rfl, q2⟩ := hv
  cases rv
  exact ⟨V.bl c, H2, I2, rfl, q2⟩
/-- what != of instances needs of the class -/
structure NeC (K : PySem.W.Frag) (C : Addr) : Prop where
  ne : PySem.W.findIn K (.ref C) "__ne__" = some (some (.builtin "object.__ne__"))
  mr : PySem.W.mroIn K C (.type "object") = some true
theorem op_neO (hm : Meth X.K C "__eq__" f) (hn : NeC X.K C) (F : FnOk X.prog X.w X.K X.mg X.base CX0 k f fd ps sp) (hr : Room (k + 1) X.A) (hb : Binds X.K fd ps []) : OpR X (compareOp .NotEq) (rEqO C sp true) := by
  intro pins s σ H x y v u Q I rx ry h
  obtain ⟨a, b, dx, fs, dy, gs, rfl, rfl, ha, hb2, q⟩ := h
  cases rx
  cases ry
  obtain ⟨m, hF⟩ := I.fr
  obtain ⟨ox, od, J, _⟩ := StX.insC_at (C := C) I (.inr ⟨dx, fs, ha⟩)
  obtain ⟨oy, od2, J2, _⟩ := StX.insC_at (C := C) I (.inr ⟨dy, gs, hb2⟩)
  refine show wpAny _ _ (richCompare .NotEq _ _) _ _ _ from PySem.W.zc_ne hr.units0 hr.in1.units0 hF I.ok.mod.kin J J2.type hn.ne hn.mr hm.at_ hm.fn (wpAny_mono (run_own F hr.in1 I.env0.in1 hb I (vals_ab a b) q) (fun v s' hv => ?_) fun _ _ y => y)
  obtain ⟨v', H2, I2, rv, c, rfl, q2⟩ := hv
  cases rv
  exact ⟨c, rfl, V.bl (!c), H2, I2, rfl, q2⟩
/-- str(a) -/
def rStrO (C : Addr) (sp : Sp) : List V → Hp → VK → Prop := fun vs H Q => ∃ a dx fs, vs = [.ref a] ∧ H a = some (.ins C dx fs) ∧ sp [.ref a] H (fun v H2 => ∃ z, v = .str z ∧ Q (.str z) H2) E0
theorem call_strO (hm : Meth X.K C "__str__" f) (F : FnOk X.prog X.w X.K X.mg X.base CX0 k f fd ps sp) (hr : Room (k + 1 + 1) X.A) (hb : Binds X.K fd ps []) : CallR X (.type "str") (rStrO C sp) := by
  intro pins s σ H vs us Q I r h
  obtain ⟨a, dx, fs, rfl, ha, q⟩ := h
  rw [Vals.ref1 r]
  obtain ⟨ox, od, J, _⟩ := StX.insC_at (C := C) I (.inr ⟨dx, fs, ha⟩)
  refine PySem.W.kso_call hr.in1.in1.units0 I.kIn J hm.at_ hm.fn (wpAny_mono (run_own F hr.in1.in1 I.env0.in1.in1 hb I (vals_a a) q) (fun v s' hv => ?_) fun _ _ y => y)
  obtain ⟨v', H2, I2, rv, z, rfl, q2⟩ := hv
  obtain ⟨t, rfl⟩ := rv
  exact ⟨V.str z, H2, I2, ⟨_, rfl⟩, q2⟩
/-- repr(a) -/
theorem call_reprO (hm : Meth X.K C "__repr__" f) (F : FnOk X.prog X.w X.K X.mg X.base CX0 k f fd ps sp) (hr : Room (k + 1) X.A) (hb : Binds X.K fd ps []) : CallR X (.builtin "repr") (rStrO C sp) := by
  intro pins s σ H vs us Q I r h
  obtain ⟨a, dx, fs, rfl, ha, q⟩ := h
  rw [Vals.ref1 r]
  obtain ⟨m, hF⟩ := I.fr
  obtain ⟨ox, od, J, _⟩ := StX.insC_at (C := C) I (.inr ⟨dx, fs, ha⟩)
  refine PySem.W.repr_K hr.in1.units0 hF I.ok.mod.kin J hm.at_ hm.fn (wpAny_mono (run_own F hr.in1 I.env0.in1 hb I (vals_a a) q) (fun v s' hv => ?_) fun _ _ y => y)
  obtain ⟨v', H2, I2, rv, z, rfl, q2⟩ := hv
  obtain ⟨t, rfl⟩ := rv
  exact ⟨V.str z, H2, I2, ⟨_, rfl⟩, q2⟩
/-- a[i] -/
def rIxO (C : Addr) (sp : Sp) : R2 := fun x y H Q => ∃ a dx fs, x = .ref a ∧ H a = some (.ins C dx fs) ∧ sp [.ref a, y] H Q E0
theorem ix_own (hm : Meth X.K C "__getitem__" f) (hfn : PySem.W.fnIn X.K f = true) (F : FnOk X.prog X.w X.K X.mg X.base CX0 k f fd ps sp) (hr : Room (k + 1) X.A) (hb : Binds X.K fd ps []) (value slice : Expr) {pins : List (Addr × Obj)} {s : Shared} {σ : L2.St} {H : Hp} {x y : V} {v u : Value} {Q : VK}
    (I : Inv X pins σ H s) (rx : RelV x v) (ry : RelV y u) (h : rIxO C sp x y H Q) (hs : subscripted slice true v u = runValue (.builtin "lifetime.subscript" ⟨[v, u], []⟩)) : wpAny (model X.prog X.w) X.A (subscriptTail value slice v u) (EP X pins σ Q) X.xe s := by
  obtain ⟨a, dx, fs, rfl, ha, q⟩ := h
  cases rx
  obtain ⟨m, hF⟩ := I.fr
  obtain ⟨ox, od, J, _⟩ := StX.insC_at (C := C) I (.inr ⟨dx, fs, ha⟩)
  exact PySem.W.sub_K hF I.ok.mod.kin J hm.at_ hfn hm.fn (run_own F hr.in1 I.env0.in1 hb I (show Vals [V.ref a, y] [Value.ref a, u] from .cons rfl (.cons ry .nil)) q) hs
end
end Z

/-! pairs of ints sorted; ranges with a step; three targets at once; dicts with tuples as keys -/
namespace Z
open PySem PySem.Spec PyProof.Rows L2
section
variable {X : Cx} {K : PySem.W.Frag} {σ : L2.St} {H G : Hp} {W : Wl} {Q : VK} {a : Addr} {tt : TT} {te : TE} {vs : List Nat}
theorem ip_shl : PIp X .LShift (rI CPow fun i j => .int (i * 2 ^ j.toNat)) := iop_shl
theorem st_par3 {i j l : Nat} {ta : TA} {D : Ends} (h : ta σ H fun vs H1 => ∃ u v w, vs = [u, v, w] ∧ D.nx (((σ.set i (some u)).set j (some v)).set l (some w)) H1) : tPar3 i j l ta D σ H := h
theorem st_iRng3 {ta : TA} {R : It → Hp → Prop} (h : ta σ H fun vs H1 => ∃ (i j c : Int) (n : Nat), vs = [.int i, .int j, .int c] ∧ RgC i j c n ∧ R (Itc i c n) H1) : iRng3 ta σ H R := h
/-- [.. for i in range(lo, z, c)] -/
theorem lc_r3 {lo z c : Int} {j n : Nat} (hn : RgC lo z c n) (I : Nat → List V → Hp → Prop) (w : Wd G W H) (h0 : I 0 [] G) (hw : ∀ x, wipe ((wipe σ vs).set j x) vs = wipe σ vs)
    (hs : ∀ (i : Nat) D G' H' acc, i < n → Same G G' → Wd G' ((D, Is (.lst acc)) :: W) H' → I i acc G' → tt ((wipe σ vs).set j (some (.int (lo + (i : Int) * c)))) H' fun b H3 =>
      if b = true then te ((wipe σ vs).set j (some (.int (lo + (i : Int) * c)))) H3 fun y H4 => ∃ acc, H4 D = some (.lst acc) ∧ acc.length < sizeLine ∧ LcB I G W D (i + 1) (upd H4 D (.lst (acc ++ [y]))) else LcB I G W D (i + 1) H3)
    (hd : ∀ D G' H' acc, Same G G' → Wd G' ((D, Is (.lst acc)) :: W) H' → I n acc G' → Q (.ref D) H') : ∃ (i' j' c' : Int) (n' : Nat), [V.int lo, V.int z, V.int c] = [.int i', .int j', .int c'] ∧ RgC i' j' c' n' ∧ LcQ (Itc i' c' n') (gName j) tt te vs σ H Q :=
  ⟨lo, z, c, n, rfl, hn, lc_go (walk_rangeC) I w (fun _ _ _ _ _ => trivial) h0 (fun i x D G' H' H'' acc hi e w' h y => by
    obtain ⟨rfl, rfl⟩ := y
    exact ⟨hw _, hs i D G' H'' acc hi e w' h⟩) hd⟩
/-- a list of pairs -/
def PrG (G : Hp) : List V → List (Int × Int) → Prop
  | [], [] => True
  | x :: xs, p :: ps => (∃ t, x = .ref t ∧ G t = some (.tup [.int p.1, .int p.2])) ∧ PrG G xs ps
  | _, _ => False
theorem PrG.up {G G' : Hp} (e : Same G G') : ∀ {xs : List V} {ps : List (Int × Int)}, PrG G xs ps → PrG G' xs ps
  | [], [], _ => trivial
  | _ :: _, _ :: _, ⟨⟨t, h1, h2⟩, h3⟩ => ⟨⟨t, h1, e _ _ h2⟩, PrG.up e h3⟩
theorem PrG.app {G : Hp} {x : V} {p : Int × Int} (h : ∃ t, x = .ref t ∧ G t = some (.tup [.int p.1, .int p.2])) : ∀ {xs : List V} {ps : List (Int × Int)}, PrG G xs ps → PrG G (xs ++ [x]) (ps ++ [p])
  | [], [], _ => ⟨h, trivial⟩
  | _ :: _, _ :: _, ⟨h1, h3⟩ => ⟨h1, PrG.app h h3⟩
theorem PrG.len {G : Hp} : ∀ {xs : List V} {ps : List (Int × Int)}, PrG G xs ps → xs.length = ps.length
  | [], [], _ => rfl
  | _ :: _, _ :: _, ⟨_, h3⟩ => by rw [List.length_cons, List.length_cons, PrG.len h3]
/-- the pair at an address -/
def kOf (G : Hp) : V → Int × Int
  | .ref t => match G t with
    | some (.tup [.int i, .int j]) => (i, j)
    | _ => (0, 0)
  | _ => (0, 0)
theorem PrG.k {G : Hp} : ∀ {xs : List V} {ps : List (Int × Int)}, PrG G xs ps → xs.map (kOf G) = ps ∧ ∀ x ∈ xs, ∃ t, x = .ref t ∧ G t = some (.tup [.int (kOf G x).1, .int (kOf G x).2])
  | [], [], _ => ⟨rfl, (fun _ h => nomatch h)⟩
  | x :: xs, p :: ps, ⟨⟨t, h1, h2⟩, h3⟩ => by
    obtain ⟨a1, a2⟩ := PrG.k h3
    have e : kOf G x = p := by
      subst h1
      show (match G t with
        | some (.tup [.int i, .int j]) => (i, j)
        | _ => (0, 0)) = p
      rw [h2]
    refine ⟨by rw [List.map_cons, e, a1], fun y hy => ?_⟩
    rcases List.mem_cons.mp hy with rfl | hy
    · exact ⟨t, h1, by rw [e]; exact h2⟩
    · exact a2 y hy
theorem PrG.of_k {G : Hp} : ∀ {xs : List V}, (∀ x ∈ xs, ∃ t, x = .ref t ∧ G t = some (.tup [.int (kOf G x).1, .int (kOf G x).2])) → PrG G xs (xs.map (kOf G))
  | [], _ => trivial
  | _ :: _, h => ⟨h _ List.mem_cons_self, PrG.of_k fun y hy => h y (List.mem_cons_of_mem _ hy)⟩
theorem lex_uniq : ∀ {l m : List (Int × Int)}, SrtO.Srtd SrtO.lexB l → SrtO.Srtd SrtO.lexB m → l.Perm m → l = m
  | [], m, _, _, h => (List.Perm.eq_nil h.symm).symm
  | x :: l, [], _, _, h => absurd h.length_eq (by simp)
  | x :: l, y :: m, hl, hm, h => by
    have h1 : SrtO.lexB x y = false := by
      rcases List.mem_cons.mp (h.mem_iff.mp List.mem_cons_self) with e | hx
      · rw [e]
        exact SrtO.lexB_no.mpr (by omega)
      · exact SrtO.srtd_head hm x hx
    have h2 : SrtO.lexB y x = false := by
      rcases List.mem_cons.mp (h.mem_iff.mpr List.mem_cons_self) with e | hy
      · rw [e]
        exact SrtO.lexB_no.mpr (by omega)
      · exact SrtO.srtd_head hl y hy
    have n1 := SrtO.lexB_no.mp h1
    have n2 := SrtO.lexB_no.mp h2
    have e : x = y := Prod.ext (by omega) (by omega)
    subst e
    rw [lex_uniq (List.pairwise_cons.mp hl).2 (List.pairwise_cons.mp hm).2 (List.Perm.cons_inv h)]
/-- sorted(pairs): cs is what they are in order -/
theorem st_sortedP {xs : List V} {ps cs : List (Int × Int)} (ha : SqL K H a xs) (hp : PrG G xs ps) (w : Wd G W H) (hc : SrtO.Srtd SrtO.lexB cs) (hpm : cs.Perm ps)
    (k : ∀ p ys G' H', Same G G' → Wd G' W H' → G' p = some (.lst ys) → PrG G' ys cs → Q (.ref p) H') : rSortedPO K [.ref a] H Q := by
  obtain ⟨e1, e2⟩ := hp.k
  refine ⟨a, xs, kOf G, rfl, ha, fun x hx => ?_, fun ys p h1 h2 hn => ?_⟩
  · obtain ⟨t, h1, h2⟩ := e2 x hx
    exact ⟨t, h1, w.at h2⟩
  · have hy : ∀ x ∈ ys, ∃ t, x = V.ref t ∧ G t = some (.tup [.int (kOf G x).1, .int (kOf G x).2]) := fun x hx => e2 x (h2.perm.mem_iff.mp hx)
    have hk : ys.map (kOf G) = cs := lex_uniq (List.pairwise_map.mpr h1) hc (((h2.perm.map (kOf G)).trans (by rw [e1])).trans hpm.symm)
    have hP := PrG.of_k hy
    rw [hk] at hP
    have es : Same G (upd G p (.lst ys)) := same_upd (w.free hn)
    exact k p ys _ _ es (w.new hn) upd_same (hP.up es)
end
end Z

/-! dicts with tuples as keys: a display of one pair; texts of bits; a text from behind -/
namespace Z
open PySem PySem.Spec PyProof.Rows L2
section
variable {X : Cx} {σ : L2.St} {H G : Hp} {W : Wl} {Q : VK} {a : Addr} {te tk tv : TE} {pos : Pos}
theorem units1 {A : Around} (h : A.units + 64 < cLine) : A.units + 1 < cLine := Nat.lt_of_le_of_lt (by omega) h
/-- {k: v}, k a tuple of ints and texts -/
def OneT (p : Addr) (Q : VK) (ps : List (V × V)) (H2 : Hp) : Prop := ∃ b k y, ps = [(.ref b, y)] ∧ H2 p = some (.dT []) ∧ H2 b = some (.tup (k.map kV)) ∧ Q (.ref p) (upd H2 p (.dT [(k, y)]))
def tDisp1T (tk tv : TE) : TE := fun σ H Q => ∀ p, H p = none → tk σ (upd H p (.dT [])) fun x H1 => tv σ H1 fun y H2 => OneT p Q [(x, y)] H2
theorem pe_disp1T {k v : Expr} (hu : X.A.units + 1 < cLine) (hk : PE X k tk) (hv : PE X v tv) : PE X (.Dict [some k] [v] pos) (tDisp1T tk tv) := by
  refine ⟨fun pins s σ H Q I q => ?_⟩
  have hn := I.hok.fresh (Nat.le_refl s.heap.objs.size)
  have I1 := I.laid (a := s.heap.objs.size) (o := .dT []) (h' := s.heap.push { cls := .type "dict", data := .dict #[] }) (t' := s.toks) (fun _ _ q => Heap.get?_push_of_some _ q) (Nat.le_refl _) (dt_empty s.heap I.big)
  rw [arm_eval_Dict, zip_pairTrees [some k] [v] X.env pos rfl rfl, dictDisplay_pairs _ (by exact List.cons_ne_nil _ _) (by show 1 < 17; decide)]
  refine wpAny_bind (wpAny_standAt (wpAny_bind (wpAny_subDictH (knd := tupleKind (mixKind X.prog X.w)) (Q := fun d s' => wpAny (model X.prog X.w) X.A (pure (Value.ref d)) (EP X pins σ Q) X.xe s') (Nat.lt_of_succ_lt hu) (by show 1 ≤ 15; decide) ?_)))
  refine thn ((pps_cons hk hv pps_nil).run pins _ σ _ (OneT s.heap.objs.size Q) I1 (q _ hn)) fun ws s2 ⟨ps, H2, I2, rel, b, ks, y, ep, e, eb, q2⟩ => ?_
  subst ep
  cases rel with
  | @cons p0 w0 _ _ hp hr =>
  cases hr
  obtain ⟨kw, vw⟩ := w0
  obtain ⟨h1, h2⟩ := hp
  obtain rfl : kw = Value.ref b := h1
  obtain ⟨z, hd, xs, rel, dd⟩ := dt_of I2.hok e
  cases rel
  refine ⟨[(ks, b, vw)], ⟨rfl, rfl, key_of I2.hok eb, True.intro⟩, dd, fun h' tk' dd' hs => wpAny_pure ⟨.ref s.heap.objs.size, _, ?_, rfl, q2⟩⟩
  obtain ⟨o, es, ep, hq, h3, h4, h5, h6, h7⟩ := dd'
  refine d_write I2 (by rw [e]; exact True.intro) hs ⟨o, hq⟩ ⟨by show 1 ≤ sizeLine; decide, hd, [(ks, b, vw)], Paired.cons ⟨rfl, ?_, h2⟩ .nil, o, es, ep, hq, h3, h4, h5, h7⟩
  rw [upd_ne (ne_of eb e (fun z => nomatch z))]
  exact eb
theorem kys_map (c : List Int) : (c.map fun i => (Sum.inl i : Key)).map kV = c.map V.int := by
  rw [List.map_map]
  rfl
theorem st_disp1T (h : ∀ p, H p = none → tk σ (upd H p (.dT [])) fun x H1 => tv σ H1 fun y H2 => OneT p Q [(x, y)] H2) : tDisp1T tk tv σ H Q := h
theorem st_dnewT (h : NewO (.dT []) H Q) : tDNewT σ H Q := h
theorem st_dput {td ty tv : TE} {D : Ends} (h : tv σ H fun v H1 => td σ H1 fun x H2 => ty σ H2 fun y H3 => ∃ a H4, x = .ref a ∧ DPut H3 a y v H4 ∧ D.nx σ H4) : sDPut td ty tv D σ H := h
theorem st_dget {td ty : TE} (h : td σ H fun x H1 => ty σ H1 fun y H2 => ∃ a v, x = .ref a ∧ DGet H2 a y (some v) ∧ Q v H2) : tDGet td ty σ H Q := h
theorem st_din {td ty : TE} (h : ty σ H fun y H1 => td σ H1 fun x H2 => ∃ a o, x = .ref a ∧ DGet H2 a y o ∧ Q (.bl o.isSome) H2) : tDIn ty td σ H Q := h
theorem st_dnin {td ty : TE} (h : ty σ H fun y H1 => td σ H1 fun x H2 => ∃ a o, x = .ref a ∧ DGet H2 a y o ∧ Q (.bl (!o.isSome)) H2) : tDNotIn ty td σ H Q := h
/-! ### z[::-1] of a text -/
def revS (z : Str) : Str := ⟨z.cps.toList.reverse.toArray⟩
theorem picked_rev (z : Str) : slicePicked z none none (some ((-1 : Int), t)) = (List.range z.length).reverse := by
  unfold slicePicked Builtin.Str.strSliceIndices
  have h := PySem.W.krv_sliceRange z.length
  rw [PySem.W.krv_range] at h
  exact h
def tRevS (te : TE) : TE := fun σ H Q => te σ H fun x H1 => ∃ z, x = .str z ∧ z.length ≤ sizeLine ∧ Q (.str (revS z)) H1
theorem st_revS (h : te σ H fun x H1 => ∃ z, x = .str z ∧ z.length ≤ sizeLine ∧ Q (.str (revS z)) H1) : tRevS te σ H Q := h
theorem pe_revS {e : Expr} {k : Nat} {p1 p2 p3 pos : Pos} (he : PE X e te) : PE X (.Subscript e (.Slice none none (some (.UnaryOp .USub (.Constant (.int 1) k p1) p2)) p3) pos) (tRevS te) := by
  refine ⟨fun pins s σ H Q I h => ?_⟩
  refine Subscript_ (thn (he.run pins s σ H _ I h) fun v s1 ⟨x, H1, I1, r1, q1⟩ => ?_)
  obtain ⟨z, ex, hz, q⟩ := q1
  subst ex
  obtain ⟨t, rfl⟩ := r1
  have hst : PO X (some (.UnaryOp .USub (.Constant (.int 1) k p1) p2)) (tPart (tUn (rU fun i => .int (-i)) (tC (.int 1)))) := po_some (pe_un un_neg pe_int)
  refine wpAny_Slice (thn (po_none.run pins s1 σ H1 (fun o H2 => o = none ∧ H2 = H1) I1 ⟨rfl, rfl⟩) fun vl s2 ⟨l, H2, I2, pl, el, e2⟩ => ?_)
  subst el e2
  refine thn (po_none.run pins s2 σ H2 (fun o H3 => o = none ∧ H3 = H2) I2 ⟨rfl, rfl⟩) fun vu s3 ⟨u, H3, I3, pu, eu, e3⟩ => ?_
  subst eu e3
  refine thn (hst.run pins s3 σ H3 (fun o H4 => o = some (-1) ∧ H4 = H3) I3 ⟨1, rfl, -1, rfl, rfl, rfl⟩) fun vs s4 ⟨o, H4, I4, ps, eo, e4⟩ => ?_
  subst eo e4
  have I5 : Inv X pins σ H4 { s4 with heap := s4.heap.push { cls := .type "slice", data := .fields #[vl, vu, vs] } } := I4.kept (t' := s4.toks) fun b ob q => Heap.get?_push_of_some _ q
  obtain ⟨l, rfl, el⟩ := IsPart.raw pl
  obtain ⟨u, rfl, eu⟩ := IsPart.raw pu
  obtain ⟨st, rfl, es⟩ := IsPart.raw ps
  cases l with
  | some l => cases el
  | none =>
  cases u with
  | some u => cases eu
  | none =>
  cases st with
  | none => cases es
  | some st =>
  obtain ⟨i, ti⟩ := st
  obtain rfl : i = -1 := Option.some.inj es
  show wpAny (model X.prog X.w) X.A (subscriptTail e (.Slice none none (some (.UnaryOp .USub (.Constant (.int 1) k p1) p2)) p3) (.str z t) (.ref s4.heap.objs.size)) (EP X pins σ Q) X.xe { s4 with heap := s4.heap.push { cls := .type "slice", data := .fields #[_, _, _] } }
  refine tail_any (ops := [.ref s4.heap.objs.size, .str z t]) (typeIs_str _ _ _) F.slot_str_getitem.lookup ?_ (by with_unfolding_all rfl)
  refine wpAny_getItem_str_slice (l := none) (u := none) (st := some (-1, ti)) ⟨_, Heap.get?_push_size _ rfl, rfl, rfl⟩ rfl ?_
  show Made.post (if ((-1 : Int) == 1 && (slicePicked z none none (some (-1, ti))).length == z.length) = true then Made.val (.str z t)
    else Made.str ⟨((slicePicked z none none (some (-1, ti))).filterMap (z.cps[·]?)).toArray⟩) (EP X pins σ Q) _
  rw [if_neg (by simp), picked_rev, List.filterMap_reverse, show (List.range z.length).filterMap (z.cps[·]?) = z.cps.toList from PySem.W.krv_all _]
  refine ⟨?_, .str _, H4, I5.tok _, ⟨_, rfl⟩, q⟩
  show ((z.cps.toList.reverse).toArray).size ≤ sizeLine
  rw [List.size_toArray, List.length_reverse, Array.length_toList]
  exact hz
/-! ### texts of bits -/
def bt (bs : List Int) : Str := ⟨(bs.map fun b => (48 + b).toNat).toArray⟩
theorem bt_rev (bs : List Int) : revS (bt bs) = bt bs.reverse := by
  unfold revS bt
  rw [List.toList_toArray, List.map_reverse]
theorem bt_len (bs : List Int) : (bt bs).length = bs.length := by
  show ((bs.map fun b => (48 + b).toNat).toArray).size = _
  rw [List.size_toArray, List.length_map]
theorem bt_inj : ∀ {as bs : List Int}, (∀ b ∈ as, 0 ≤ b) → (∀ b ∈ bs, 0 ≤ b) → bt as = bt bs → as = bs := by
  intro as bs ha hb h
  have h1 : (as.map fun b => (48 + b).toNat) = bs.map fun b => (48 + b).toNat := by
    have := congrArg (fun z : Str => z.cps.toList) h
    simpa [bt] using this
  clear h
  induction as generalizing bs with
  | nil => cases bs with
    | nil => rfl
    | cons b bs => cases h1
  | cons a as ih =>
    cases bs with
    | nil => cases h1
    | cons b bs =>
      rw [List.map_cons, List.map_cons] at h1
      injection h1 with h2 h3
      have := ha a List.mem_cons_self
      have := hb b List.mem_cons_self
      rw [ih (fun x hx => ha x (List.mem_cons_of_mem _ hx)) (fun x hx => hb x (List.mem_cons_of_mem _ hx)) h3, show a = b by omega]
theorem bt_one {b : Int} (h : b = 0 ∨ b = 1) : (toString b : Str) = bt [b] := by
  rcases h with rfl | rfl <;> rfl
theorem bt_join (bs : List Int) : Txt.join "" (bs.map fun b => bt [b]) = bt bs := by
  rw [TL.join_eq]
  have hj : ∀ ps : List (List Nat), TL.joinL [] ps = ps.flatten := by
    intro ps
    induction ps with
    | nil => rfl
    | cons p ps ih =>
      cases ps with
      | nil => simp [TL.joinL]
      | cons q r =>
        show p ++ ([] ++ TL.joinL [] (q :: r)) = _
        rw [ih, List.nil_append]
        rfl
  have h := TL.tl_join "" (bs.map fun b => bt [b])
  rw [show TL.tl "" = [] from rfl, hj] at h
  have h2 : ((bs.map fun b => bt [b]).map TL.tl).flatten = TL.tl (bt bs) := by
    induction bs with
    | nil => rfl
    | cons b bs ih =>
      rw [List.map_cons, List.map_cons, List.flatten_cons]
      have h := TL.tl_join "" (bs.map fun b => bt [b])
      rw [show TL.tl "" = [] from rfl, hj] at h
      rw [ih h]
      rfl
  rw [h2] at h
  generalize Str.join "" (bs.map fun b => bt [b]) = z at h
  obtain ⟨c⟩ := z
  have : c.toList = (bt bs).cps.toList := h
  have : c = (bt bs).cps := Array.toList_inj.mp this
  subst this
  rfl
theorem st_m1 {r : V → List V → Hp → VK → Prop} {to te : TE} (h : to σ H fun x H1 => (∃ a, x = .str a) ∧ te σ H1 fun y H2 => r x [y] H2 Q) : tM1 r to te σ H Q := h
/-! ### an object for good that may change again -/
def del (G : Hp) (p : Addr) : Hp := fun b => if b = p then none else G b
theorem del_at {p b : Addr} {o : HO} (h : G b = some o) (hb : b ≠ p) : del G p b = some o := by
  unfold del
  rw [if_neg hb]
  exact h
theorem del_same {G0 : Hp} {p : Addr} (e : Same G0 G) (hp : G0 p = none) : Same G0 (del G p) := fun b o h => del_at (e _ _ h) (ne_of_none h hp)
theorem Wd.thaw {o : HO} (w : Wd G W H) (h : G a = some o) : Wd (del G a) ((a, Is o) :: W) H := by
  have hn : ∀ q ∈ W, q.1 ≠ a := fun q hq e => by
    have := (w.own q hq).1
    rw [e, h] at this
    cases this
  refine ⟨fun b u hb => ?_, fun q hq => ?_, ?_⟩
  · unfold del at hb
    split at hb
    · cases hb
    · exact w.ex _ _ hb
  · rcases List.mem_cons.mp hq with rfl | hq
    · exact ⟨by unfold del; rw [if_pos rfl], o, w.at h, rfl⟩
    · refine ⟨?_, (w.own q hq).2⟩
      unfold del
      rw [if_neg (hn q hq)]
      exact (w.own q hq).1
  · rw [List.map_cons]
    refine List.nodup_cons.mpr ⟨fun hm => ?_, w.nd⟩
    obtain ⟨q, hq, e⟩ := List.mem_map.mp hm
    exact hn q hq e
def rJoin (K : PySem.W.Frag) : V → List V → Hp → VK → Prop := fun x xs H Q => ∃ a p, ∃ ys : List Str, x = .str a ∧ xs = [.ref p] ∧ (SqL K H p (ys.map V.str) ∨ SqT K H p (ys.map V.str)) ∧
  (ys.map (·.length)).sum + ys.length * a.length ≤ 16777216 ∧ Q (.str (Txt.join a ys)) H
theorem pe_joinK {o e : Expr} {to te : TE} {apos pos : Pos} (ho : PE X o to) (he : PE X e te) (hs : starEach [e] X.env = [(false, eval e X.env)] := by rfl) (hbase : attributeBase o "join" X.env (eval o X.env) = eval o X.env := by rfl) (hline : (apos.endLine == pos.line) = true := by rfl) :
    PE X (.Call (.Attribute o "join" apos) [e] [] pos) (tM1 (rJoin X.K) to te) := pe_join ho he hs hbase hline
def rLenQ (K : PySem.W.Frag) : List V → Hp → VK → Prop := fun xs H Q => ∃ p ys, xs = [.ref p] ∧ (SqL K H p ys ∨ SqT K H p ys) ∧ Q (.int ys.length) H
theorem call_lenQ : CallR X (.builtin "len") (rLenQ X.K) := call_len_seq
end
end Z

/-! own exceptions with two fields; several except clauses with names; an instance called inside a try; keys of a dict with tuples -/
namespace PySem
namespace ZEX
open PySem.W PySem.Calls PyProof.Rows PySem.HandSPX
open Builtin Builtin.ObjectAttr
section
variable {prog : Program} {w : World} {A : Around} {E : Value → Shared → Prop} {R : Result → Shared → Prop} {hp : Heap} {g : Array GenState} {d : Drawn} {t : Nat} {os : OsState}
theorem z_osa2 {K : W.Frag} {name : Str} {tk : Tok} {v : Value} {x C dx : Addr} {fv : Array Value} {cd : ClassData} {bmB : List Value} {m0 : Str → Option Value} {nl : List Str} (pass : ∀ self, refuseLoop self "__setattr__" bmB = pure ()) (hob0 : bmB.contains (.type "object") = true)
    (X : K.In hp) (hx : hp.get? x = some { cls := .ref C, dict := some dx, data := .fields fv }) (hns : hp.Ns1 dx m0) (hw : Within m0 nl) (hz : nl.length ≤ 1000) (hcd : W.clsIn K C = some cd) (hm : cd.mro = .ref C :: bmB) (hh : cd.hasDict = true) (ha : W.findIn K (.ref C) name = some none)
    (hq : ∀ h' tk', (∀ b o, b ≠ dx → hp.get? b = some o → h'.get? b = some o) → h'.Ns1 dx (fun y => if y = name then some v else m0 y) → R (.ok (.ret .none)) ⟨h', g, d, tk', os⟩) :
    codeAny (model prog w) A (.call (.builtin "object.__setattr__") ⟨[.ref x, .str name tk, v], []⟩) R ⟨hp, g, d, t, os⟩ := by
  obtain ⟨oD, esD, epD, hoD, hdD, _⟩ := hns.count hw
  have i0 : W.InstAt hp x { cls := .ref C, dict := some dx, data := .fields fv } C (some oD) := ⟨hx, rfl, rfl, hoD⟩
  have S := F.store_object
  have ne : cd.mro.isEmpty = false := by rw [hm]; rfl
  have hob : cd.mro.contains (.type "object") = true := by rw [hm, List.contains_cons, hob0, Bool.or_true]
  have hps : refuseLoop (.ref x) "__setattr__" cd.mro = pure () := by rw [hm, refuseLoop_ref]; exact pass _
  have li : W.Looks (model prog w) hp (isInstance (.ref x) (.type "object")) true := i0.type.andThen (W.looks_mroIn X (by unfold W.mroIn; rw [hcd, Option.bind_some, if_neg (by rw [ne]; decide), hob]))
  refine codeAny_call_builtin S.slot.plain S.entry (@W.check_slot (model prog w) _ _ ⟨hp, g, d, t, os⟩ "object.__setattr__" "object" "__setattr__" (.ref x) [.str name tk, v] [] _ S.kind S.split li (S.args (.ref x) (.str name tk) v) ?_)
  have lm : W.Looks (model prog w) hp (mroOf (.ref C)) cd.mro := (W.looks_clsIn X hcd).andThen .now
  have lt : W.Looks (model prog w) hp (storeTaker? none) none := .now
  have lc : W.Looks (model prog w) hp (classData C) cd := W.looks_clsIn X hcd
  rw [W.osa_eq, refuse_eq]
  refine wpAny_bind (wpAny_bind (i0.type.at (wpAny_bind (lm.at ?_))))
  rw [hps]
  refine wpAny_pure (wpAny_bind (i0.type.at (wpAny_bind ((W.looks_findIn X ha).at (wpAny_bind (lt.at ?_))))))
  show wpAny (model prog w) _ (storeInOwnDict (.ref x) (.ref C) (.str name tk) name v false) _ _ _
  obtain ⟨nm, bs, mro, ns, qn, hd, sn, sb, ab, col, del⟩ := cd
  dsimp only at hh
  subst hh
  unfold storeInOwnDict ownDictForStores
  repeat first | (with_reducible refine PySem.OEX.store_in_old hns hw hz ?_) | (with_reducible refine wpAny_loadPart_at hx ?_) | (with_reducible refine lc.at ?_) | wp_step
  exact fun h' tk' hn' hs => hq h' tk' (fun b o hb ho => (hs.2 b hb).trans ho) hn'
end
end ZEX
end PySem
namespace Z
open PySem PySem.Spec PyProof.Rows L2
section
variable {X : Cx} {pins : List (Addr × Obj)} {σ : L2.St} {H : Hp} {s : Shared} {a C dx : Addr} {f : Str} {y : V} {u : Value} {E : Value → Shared → Prop} {A : Around} {B newId initId : String} {bmB : List Value} {fs : List (Str × V)}
theorem z_ost2 {Q : Unit → Shared → Prop} (T : OexB X.K C B newId initId bmB) (I : Inv X pins σ H s) (e : H a = some (exo a C (some dx))) (ed : H dx = some (exd dx fs)) (hl : fs.length ≤ 900) (hno : PySem.W.findIn X.K (.ref C) f = some none) (ry : RelV y u)
    (h : ∀ s', Inv X pins σ (upd H dx (exd dx ((f, y) :: fs))) s' → Q () s') : wpAny (model X.prog X.w) A (setAttr (.ref a) f u) Q E s := by
  obtain ⟨nm, q, N, bs, sn, sub, ab, col, dd, k0, k1, k2, k3, k5, hC⟩ := T.cls
  have hcl : PySem.W.clsIn X.K C = some { name := nm, bases := bs, mro := .ref C :: bmB, ns := N, qualname := q, hasDict := true, slotNames := sn, subclasses := sub, abstract := ab, collection := col, hasDel := false } := by
    unfold PySem.W.clsIn
    rw [hC] <;> rfl
  obtain ⟨t1, ho⟩ := exo_at I.hok e
  obtain ⟨mA, hns, rel⟩ := exd_at I.hok ed
  have hw := within_of rel
  obtain ⟨hp, g, d, t, os⟩ := s
  obtain ⟨oD, _, _, hoD, _, _⟩ := hns.count hw
  refine PySem.W.set_plain I.kIn (od := some oD) (ox := { cls := .ref C, dict := some dx, data := .fields #[.ref t1, .none, .none, .none, .bool false, .none] }) ⟨ho, rfl, rfl, hoD⟩ T.sa ?_
  refine PySem.ZEX.z_osa2 T.pass T.hob I.kIn ho hns hw (by rw [List.length_map]; omega) hcl rfl rfl hno fun h' tk' k hn => ?_
  have hd : ∃ o, h'.get? dx = some o := let ⟨o, _, _, e', _⟩ := hn; ⟨o, e'⟩
  exact h _ (I.write (t' := tk') (x := dx) (e := dx) (o := exd dx ((f, y) :: fs)) (by rw [ed]; exact True.intro) (.inl rfl) k hd (exd_ok hn (relO_put ry rel)))
end
/-- self.f = e, a further field -/
def tBst2 (K : PySem.W.Frag) (B newId initId : String) (bmB : List Value) (f : Str) (to te : TE) : TS := fun D σ H => te σ H fun y H1 => to σ H1 fun x H2 => ∃ a C dx fs, x = .ref a ∧ OexB K C B newId initId bmB ∧ PySem.W.findIn K (.ref C) f = some none ∧
  H2 a = some (exo a C (some dx)) ∧ H2 dx = some (exd dx fs) ∧ fs.length ≤ 900 ∧ D.nx σ (upd H2 dx (exd dx ((f, y) :: fs)))
section
variable {X : Cx} {o e : Expr} {to te : TE} {f : Str} {p' pos : Pos} {B newId initId : String} {bmB : List Value} {σ : L2.St} {H G : Hp} {W : Wl}
theorem ps_bst2 (ho : PE X o to) (he : PE X e te) (hs : swapsWith e (some (.Attribute o f p')) pos.line X.env = pure false := by rfl) : PS X (.Assign [.Attribute o f p'] e pos) (tBst2 X.K B newId initId bmB f to te) := by
  refine ⟨fun pins s σ H D I h => plainObj_wpAny_Assign_Attribute (thn (he.run pins s σ H _ I h) fun v s1 ⟨y, H1, I1, r1, q1⟩ => thn (ho.run pins s1 σ H1 _ I1 q1) fun u s2 ⟨x, H2, I2, r2, a, C, dx, fs, ex, T, hno, ea, ed, hl, q⟩ => ?_) hs⟩
  subst ex
  cases (show u = Value.ref a from r2)
  exact z_ost2 T I2 ea ed hl hno r1 fun s' J => ⟨σ, _, J, q⟩
theorem st_bst2 {K : PySem.W.Frag} {D : Ends} (h : te σ H fun y H1 => to σ H1 fun x H2 => ∃ a C dx fs, x = .ref a ∧ OexB K C B newId initId bmB ∧ PySem.W.findIn K (.ref C) f = some none ∧
  H2 a = some (exo a C (some dx)) ∧ H2 dx = some (exd dx fs) ∧ fs.length ≤ 900 ∧ D.nx σ (upd H2 dx (exd dx ((f, y) :: fs)))) : tBst2 K B newId initId bmB f to te D σ H := h
end
/-- what an __init__ of two fields gives -/
def sp_init2 (C : Addr) (n m : Str) : Sp := fun vs H Q _ => ∃ (a : Addr) (v u : V), vs = [.ref a, v, u] ∧ H a = some (exo a C none) ∧ ∀ d, H d = none → d ≠ a → Q .non (upd (upd (upd H d (exd d [(n, v)])) a (exo a C (some d))) d (exd d [(m, u), (n, v)]))
theorem mk_done2 {G H : Hp} {W : Wl} {C : Addr} {n m : Str} {v u : V} {Q : XK} (w : Wd G W H) (k : ∀ d G' H', Same G G' → Wd G' W H' → G' d = some (.xd [(m, u), (n, v)]) → Q (.ref C) (some d) H') (a : Addr) (ha : H a = none) :
    sp_init2 C n m [.ref a, v, u] (upd H a (exo a C none)) (fun v H2 => v = .non ∧ ∃ (d : Addr) (fs : List (Str × V)), H2 a = some (exo a C (some d)) ∧ H2 d = some (exd d fs) ∧ H d = none ∧ Q (.ref C) (some d) (upd (L2.del H2 a) d (.xd fs))) (fun _ _ _ => False) := by
  refine ⟨a, v, u, rfl, upd_same, fun d hd hda => ⟨rfl, d, [(m, u), (n, v)], ?_, upd_same, ?_, ?_⟩⟩
  · rw [upd_ne (Ne.symm hda), upd_same]
  · rw [upd_ne hda] at hd
    exact hd
  · rw [upd_ne hda] at hd
    have e : upd (L2.del (upd (upd (upd (upd H a (exo a C none)) d (exd d [(n, v)])) a (exo a C (some d))) d (exd d [(m, u), (n, v)])) a) d (.xd [(m, u), (n, v)]) = upd H d (.xd [(m, u), (n, v)]) := by
      funext b
      by_cases hb : b = d
      · rw [hb, upd_same, upd_same]
      · rw [upd_ne hb, upd_ne hb]
        by_cases hba : b = a
        · rw [hba, L2.del_same, ha]
        · rw [L2.del_ne hba, upd_ne hb, upd_ne hba, upd_ne hb, upd_ne hba]
    rw [e]
    exact k d _ _ (same_upd (w.free hd)) (w.new hd) upd_same
/-! ### try with several clauses, each with a name or without -/
abbrev ClN := Value × Option Nat × (Addr → Value → Option Addr → TS)
/-- behind a suite its name is gone -/
def goneD (D : Ends) : Option Nat → Ends
  | none => D
  | some i => { nx := fun σ' H' => D.nx (σ'.set i none) H', rt := D.rt, bk := fun σ' H' => D.bk (σ'.set i none) H', ct := fun σ' H' => D.ct (σ'.set i none) H' }
def putN (σ : L2.St) (a : Addr) : Option Nat → L2.St
  | none => σ
  | some i => σ.set i (some (.ref a))
/-- what the clauses wish of an exception of the body, from the first on -/
def wCl (K : PySem.W.Frag) (Wout : WX) (D : Ends) : List ClN → WX
  | [] => Wout
  | (c, o, ts) :: r => fun cls d σ H => ∃ b, PySem.W.exmOne K cls c = some b ∧ (b = true → ∀ a, H a = none → ts a cls d (goneD D o) (putN σ a o) H) ∧ (b = false → wCl K Wout D r cls d σ H)
inductive HdN (X : Cx) : List ExceptHandler → List ClN → Prop
  | nil : HdN X [] []
  | bare {x : Str} {c : Value} {ts : Addr → Value → Option Addr → TS} {b₀ : Stmt} {suite : List Stmt} {np pos' : Pos} {hds : List ExceptHandler} {l : List ClN} (hc : Names X x c)
      (hsu : ∀ (a : Addr) (oe : Obj) (cls : Value) (d : Option Addr) (pn : List (Addr × Obj)), Zc cls d oe → (∃ vs, oe.data = .fields vs) → PSs (X.suite a ((a, oe) :: pn)) (b₀ :: suite) (ts a cls d)) (r : HdN X hds l) :
      HdN X (.ExceptHandler (some (.Name x np)) none (b₀ :: suite) pos' :: hds) ((c, none, ts) :: l)
  | named {x n : Str} {i : Nat} {c : Value} {ts : Addr → Value → Option Addr → TS} {b₀ : Stmt} {suite : List Stmt} {np pos' : Pos} {hds : List ExceptHandler} {l : List ClN} (hN : X.N.Nodup) (hi : X.N[i]? = some n) (hln : X.env.kindOf n = some .local) (hc : Names X x c)
      (hsu : ∀ (a : Addr) (oe : Obj) (cls : Value) (d : Option Addr) (pn : List (Addr × Obj)), Zc cls d oe → (∃ vs, oe.data = .fields vs) → PSs (X.suite a ((a, oe) :: pn)) (b₀ :: suite) (ts a cls d)) (r : HdN X hds l) :
      HdN X (.ExceptHandler (some (.Name x np)) (some n) (b₀ :: suite) pos' :: hds) ((c, some i, ts) :: l)
section
variable {X : Cx} {body : List Stmt} {h₀ : ExceptHandler} {hds : List ExceptHandler} {l : List ClN} {pos : Pos} {tb : WX → TS} {Wout : WX}
theorem ps_tryN (hs : X.stack = X.env :: X.outer) (hf : X.env.frame = some X.env.locals) (tk : Takes X Wout)
    (hb : ∀ (W : WX) (pn : List (Addr × Obj)) (xe : Value → Shared → Prop), Takes (X.tr pn xe) W → PassesOwn (model X.prog X.w) X.A X.env xe → PSs (X.tr pn xe) body (tb W))
    (hh : HdN X (h₀ :: hds) l) : PS X (.Try body (h₀ :: hds) [] [] pos) (fun D σ H => tb (wCl X.K Wout D l) D σ H) := by
  refine ⟨fun pins s σ H D I h => ?_⟩
  have ok := I.ok
  have hfr : X.A.frames = some (X.env :: X.outer) := by rw [ok.frames, hs]
  refine wpAny_Try_except ?_
  refine wpAny_mono ((hb (wCl X.K Wout D l) (X.pn ++ pins) (fun e s₁ => wpAny (model X.prog X.w) X.A (noteFrame e X.env) (fun _ s₂ => wpAny (model X.prog X.w) X.A (setFlight e none) (fun _ s₃ =>
    wpAny (model X.prog X.w) X.A (handleBy e X.env (h₀ :: hds)) (SP X pins D) X.xe s₃) X.xe s₂) X.xe s₁) (fun u s' xx => ?_) PassesOwn.looking).run [] s σ H D (I.toTry _) h) (fun f s1 hsp => ?_) (fun e s1 he => he)
  · obtain ⟨a, B, sI, pins', σ', H', cls, d, rfl, J', nb, up, sky, na, os, ag, wish⟩ := xx
    have J : Inv X pins σ' H' sI := J'.ofTry ok
    show wpAny (model X.prog X.w) X.A (noteFrame (.ref a) X.env) _ _ _
    refine Sky.land Zc.steady hfr hf (by rw [← hs]; exact sky) fun h3 fl3 up3 => ?_
    have J3 : Inv X pins σ' H' { s' with heap := h3 } := J.landed nb fl3.1 (up.trans up3) os ag
    obtain ⟨oe3, vs3, he3, hz3, hd3⟩ := fl3.there
    have nfr : a ∉ frs (X.env :: X.outer) := fun hm => by
      obtain ⟨_, o', e', hnf⟩ := fl3.2.2.1.mem hm
      rw [he3] at e'
      cases e'
      exact hnf _ hd3
    have nL : a ≠ X.env.locals := fun z => nfr (List.mem_filterMap.mpr ⟨X.env, List.mem_cons_self, by rw [hf, z]⟩)
    have nF : a ∉ X.fs := fun hm => by
      obtain ⟨e, he, q⟩ := List.mem_filterMap.mp hm
      exact nfr (List.mem_filterMap.mpr ⟨e, List.mem_cons_of_mem _ he, q⟩)
    have S3 := J3.suite he3 hd3 na nL nF
    have LT : PySem.W.Looks (model X.prog X.w) h3 (typeOf (.ref a)) cls := fun A Q E s k q => wpAny_typeOf_ref (k _ _ he3) (by rw [hz3.1]; exact q)
    have test : ∀ {x : Str} {c : Value} {np : Pos} {Q : Value → Shared → Prop} {E : Value → Shared → Prop}, Names X x c → Q c { s' with heap := h3 } → wpAny (model X.prog X.w) (X.A.mark (some (.ref a))) (eval (.Name x np) X.env) Q E { s' with heap := h3 } := fun {x c np Q E} hc q => by
      obtain ⟨hg, hdbg, hm | ⟨hm, hv, hnn⟩⟩ := hc
      · exact ld_glob (X := X.suite a ((a, oe3) :: (X.pn ++ pins))) S3 hg hm q hdbg
      · exact ld_blt (X := X.suite a ((a, oe3) :: (X.pn ++ pins))) S3 hg hm hv q hnn hdbg
    have go : ∀ {hds' : List ExceptHandler} {l' : List ClN}, HdN X hds' l' → wCl X.K Wout D l' cls d σ' H' → wpAny (model X.prog X.w) X.A (handleBy (.ref a) X.env hds') (SP X pins D) X.xe { s' with heap := h3 } := by
      intro hds' l' hk
      induction hk with
      | nil =>
        intro wish
        refine wpAny_handleBy_nil ?_
        obtain ⟨k1, k2, k3, oe, vs, T, oT, ts', he, hz, hd, h1, hr⟩ := id fl3
        unfold PySem.passOn
        refine wpAny_bind (wpAny_field he hd h1 ?_)
        rw [if_neg (show ¬ ((Value.ref T == Value.none) = true) from by simp)]
        have fin : wpAny (model X.prog X.w) X.A (setFlight (.ref a) X.env.frame) (fun _ s4 => wpAny (model X.prog X.w) X.A (throw (.ref a) : Sem Flow) (SP X pins D) X.xe s4) X.xe { s' with heap := h3 } := by
          rw [hf]
          exact HandSPX.setFlight_upZ fl3 fun h4 hh4 up4 => wpAny_throw (tk _ _ ⟨a, B, sI, pins, σ', H', cls, d, rfl, J, nb, (up.trans up3).trans up4, .inr (.inr (by rw [hs]; exact hh4)), na, os, ag, wish⟩)
        first
          | exact wpAny_bind (wpAny_pure (wpAny_bind fin))
          | exact wpAny_bind fin
      | bare hc hsu _ ih =>
        rintro ⟨b, hb1, hyes, hno⟩
        refine wpAny_handleBy_cons (codeAny_handlers_test ?_) (by intro q; cases q)
        refine test hc ((PySem.W.exm_one (M := model X.prog X.w) (J3.kIn) LT hb1).here ?_)
        cases b with
        | false => exact ih (hno rfl)
        | true =>
          refine codeAny_handlers_suite (HandSPX.lands_againZ fl3 fun h4 fl4 up4 => ?_)
          have J4 : Inv X pins σ' H' { s' with heap := h4 } := J.landed nb fl4.1 ((up.trans up3).trans up4) os ag
          obtain ⟨oe4, vs4, he4, hz4, hd4⟩ := fl4.there
          refine wpAny_mono ((hsu a oe4 cls d (X.pn ++ pins) hz4 ⟨_, hd4⟩).run [] _ _ H' _ (J4.suite he4 hd4 na nL nF) (hyes rfl a na)) (fun f s6 hsp => ?_) (fun _ _ z => False.elim z)
          cases f with
          | ret u => exact let ⟨_, _, _, S6, r6, q6⟩ := hsp; ⟨_, _, _, S6.unsuite ok, r6, q6⟩
          | next => exact let ⟨_, _, S6, q6⟩ := hsp; ⟨_, _, S6.unsuite ok, q6⟩
          | brk => exact let ⟨_, _, S6, q6⟩ := hsp; ⟨_, _, S6.unsuite ok, q6⟩
          | cont => exact let ⟨_, _, S6, q6⟩ := hsp; ⟨_, _, S6.unsuite ok, q6⟩
      | named hN hi hln hc hsu _ ih =>
        rintro ⟨b, hb1, hyes, hno⟩
        refine wpAny_handleBy_cons (codeAny_handlers_test ?_) (by intro q; cases q)
        refine test hc ((PySem.W.exm_one (M := model X.prog X.w) (J3.kIn) LT hb1).here ?_)
        cases b with
        | false => exact ih (hno rfl)
        | true =>
          refine codeAny_handlers_suite_as (HandSPX.lands_againZ fl3 fun h4 fl4 up4 => ?_)
          have J4 : Inv X pins σ' H' { s' with heap := h4 } := J.landed nb fl4.1 ((up.trans up3).trans up4) os ag
          obtain ⟨oe4, vs4, he4, hz4, hd4⟩ := fl4.there
          refine store_ok (X := X.suite a ((a, oe4) :: (X.pn ++ pins))) (v := .ref a) (J4.suite he4 hd4 na nL nF) hN hi (.inl hln) rfl (fun s5 S5 => ?_) (.inr hln)
          refine wpAny_mono ((hsu a oe4 cls d (X.pn ++ pins) hz4 ⟨_, hd4⟩).run [] s5 _ H' _ S5 (hyes rfl a na)) (fun f s6 hsp => ?_) (fun _ _ z => False.elim z)
          cases f with
          | ret u => exact let ⟨_, _, _, S6, r6, q6⟩ := hsp; gone_ok (S6.unsuite ok) hN hi hln fun s7 J7 => ⟨_, _, _, J7, r6, q6⟩
          | next => exact let ⟨_, _, S6, q6⟩ := hsp; gone_ok (S6.unsuite ok) hN hi hln fun s7 J7 => ⟨_, _, J7, q6⟩
          | brk => exact let ⟨_, _, S6, q6⟩ := hsp; gone_ok (S6.unsuite ok) hN hi hln fun s7 J7 => ⟨_, _, J7, q6⟩
          | cont => exact let ⟨_, _, S6, q6⟩ := hsp; gone_ok (S6.unsuite ok) hN hi hln fun s7 J7 => ⟨_, _, J7, q6⟩
    exact go hh wish
  · cases f with
    | next => exact let ⟨σ', H', J', q⟩ := hsp; wpAny_execs_nil ⟨σ', H', J'.ofTry ok, q⟩
    | brk => exact let ⟨σ', H', J', q⟩ := hsp; ⟨σ', H', J'.ofTry ok, q⟩
    | cont => exact let ⟨σ', H', J', q⟩ := hsp; ⟨σ', H', J'.ofTry ok, q⟩
    | ret u => exact let ⟨v, σ', H', J', r, q⟩ := hsp; ⟨v, σ', H', J'.ofTry ok, r, q⟩
end
/-! ### an instance called -/
section
variable {X : Cx} {CX : CXT} {k : Nat} {C g : Addr} {sp : Sp} {fe e : Expr} {es : List Expr} {tf : TE} {t : TA} {pos : Pos} {σ : L2.St} {H : Hp} {Q : VK} {m : Str} {f : Addr}
/-- o(..), o an instance of C; its exceptions go where the try says -/
def tCallOS (C : Addr) (sp : Sp) (E : L2.St → XK) (tf : TE) (t : TA) : TE := fun σ H Q => tf σ H fun y H1 => ∃ a, y = V.ref a ∧ t σ H1 fun vs H2 => (∃ dx fs, H2 a = some (.ins C dx fs)) ∧ sp (V.ref a :: vs) H2 Q (E σ)
theorem pe_callOS {E : L2.St → XK} {fd : FuncData} {ps : List Str} (hf : PE X fe tf) (c : StX.CallO X.K C g) (F : FnOk X.prog X.w X.K X.mg X.base CX k g fd ps sp) (hr : Room k X.A) (hb : Binds X.K fd ps []) (hx : ∀ σ, PassesAt CX X σ (E σ)) (ha : PA X (e :: es) t)
    (ht : eval (.Call fe (e :: es) [] pos) X.env = (do callWith pos (← eval fe X.env) [] (backTo pos (starEach (e :: es) X.env)) (backToKw pos (keywordEach [] X.env))) := by rfl)
    (he : starEach (e :: es) X.env = (false, eval e X.env) :: starEach es X.env := by rfl) (hpl : (backTo pos (starEach es X.env)).any (·.1) = false := by rfl) : PE X (.Call fe (e :: es) [] pos) (tCallOS C sp E tf t) := by
  refine ⟨fun pins s σ H Q I h => ?_⟩
  refine Call_ (thn (hf.run pins s σ H _ I h) fun u s1 ⟨y, H1, I1, ry, a, ey, q⟩ => ?_) ht
  subst ey
  obtain rfl : u = Value.ref a := ry
  refine StX.callO_with (thn (ha.run pos pins s1 σ H1 _ I1 q) fun us s2 ⟨vs, H2, I2, r, hi, q2⟩ => ?_) he hpl
  obtain ⟨ox, od, J, hd⟩ := StX.insC_at (C := C) I2 (.inr hi)
  refine ⟨⟨C, ox, od, J, hd⟩, wpAny_call (PySem.W.kco_code I2.kIn J hd c.at_ c.fn c.fi ?_)⟩
  have r2 : Vals (V.ref a :: vs) ((Value.ref a :: us) ++ []) := by
    rw [List.append_nil]
    exact .cons rfl r
  refine codeAny_mono (F.run X.A X.stack s2 H2 ⟨Value.ref a :: us, []⟩ _ _ Q (E σ) hr I2.env0 (hb s2 (Value.ref a :: us) I2.kIn (by have e2 := r2.length; rw [F.len _ _ _ _ q2] at e2; exact e2.symm)) r2 q2) fun r s' hq => ?_
  cases r with
  | error e => exact hx σ pins H2 s2 e s' I2 hq
  | ok fl => cases fl with
    | ret u => exact I2.after hq
    | _ => exact False.elim hq
theorem st_callOS {E : L2.St → XK} (h : tf σ H fun y H1 => ∃ a, y = V.ref a ∧ t σ H1 fun vs H2 => (∃ dx fs, H2 a = some (.ins C dx fs)) ∧ sp (V.ref a :: vs) H2 Q (E σ)) : tCallOS C sp E tf t σ H Q := h
end
/-! ### enumerate of a text; a comprehension over a text -/
def IteS (z : Str) : It :=
  ⟨fun i _ => i < z.cps.size, fun i H v H' => ∃ T c, v = .ref T ∧ H T = none ∧ H' = upd H T (.tup [.int (i : Nat), .str ⟨#[c]⟩]) ∧ z.cps[i]? = some c, fun i _ => z.cps.size ≤ i⟩
theorem turn_enumS {P : Program} {w : World} {K : PySem.W.Frag} {elts : List Expr} {kk : Nat} {tpos : Pos} (z : Str) (t : Tok) (ty : String) (hty : ty = "str_ascii_iterator" ∨ ty = "str_iterator") (e it : Addr) :
    Turn P w K (.Tuple elts kk tpos) (IteS z) [e, it] e (fun i h => i ≤ z.cps.size ∧ (∃ old, IsEnum h e it ((i : Nat) : Int) old) ∧ h.IsStrIter it ty z t i ∧ e ≠ it) where
  mem := List.mem_cons_self
  obj := fun i h st b hb => by
    obtain ⟨_, ⟨old, he⟩, ⟨o, ho, hc, hd⟩, _⟩ := st
    rcases (show b = e ∨ b = it by simpa using hb) with z | z
    · exact z ▸ ⟨_, he, fun v q => nomatch q⟩
    · exact z ▸ ⟨o, ho, fun v q => by rw [hd] at q; cases q⟩
  keep := fun i h h' st k => let ⟨hi, ⟨old, he⟩, ⟨o, ho, r⟩, hne⟩ := st; ⟨hi, ⟨old, k e List.mem_cons_self _ he⟩, ⟨o, k it (by simp) o ho, r⟩, hne⟩
  item := by
    intro X hP hw hK hc i pins s σ H E I hf st hg
    cases hP; cases hw; cases hK
    obtain ⟨_, ⟨old, he⟩, hit, hne⟩ := st
    have hel := Heap.lt_size he
    have hil : it < s.heap.objs.size := let ⟨o, ho, _⟩ := hit; Heap.lt_size ho
    have D : Draws X.prog X.w X.A.in1 it [it] z.cps.size (fun i v => ∃ c u, z.cps[i]? = some c ∧ v = .str ⟨#[c]⟩ u) (fun i h => h.IsStrIter it ty z t i) := by
      rcases hty with e | e
      · rw [e]; exact Draws.strAscii (A := X.A.in1) (I.ok.hd hc) it z t
      · rw [e]; exact Draws.strWide (A := X.A.in1) (I.ok.hd hc) it z t
    refine wpAny_pyNext_enum_itemD D he hit hg hne (by simp [hne]) fun v h' tk hv ho hst hT hsz hk => ?_
    obtain ⟨c, u, hcx, rfl⟩ := hv
    refine ⟨_, rfl, wpAny_letOwnedTupleGo_enum (s := { s with heap := h', toks := tk + 1 }) ho fun h'' he' sb => ?_⟩
    have hT2 := (sb.2 _ (Nat.ne_of_gt hel)).trans hT
    have new : ObjOk X.prog X.w (upd H s.heap.objs.size (.tup [.int (i : Nat), .str ⟨#[c]⟩])) h'' s.heap.objs.size (.tup [.int (i : Nat), .str ⟨#[c]⟩]) :=
      ⟨by show 2 ≤ sizeLine; decide, [.int i tk, .str ⟨#[c]⟩ u], .cons ⟨_, rfl⟩ (.cons ⟨_, rfl⟩ .nil), ⟨_, hT2, rfl, _, rfl⟩⟩
    have I1 := I.turnedNew (t' := tk + 1) (ch := [e, it]) (fun b ob hb q => (sb.2 b (fun z => hb (by simp [z]))).trans (hk b ob (fun z => hb (by simp [z])) (fun z => hb (by simp [z])) q)) hf (Nat.le_refl _) new
    refine ⟨.ref s.heap.objs.size, _, I1, rfl, ⟨_, c, rfl, I.hok.fresh (Nat.le_refl _), rfl, hcx⟩, ⟨hg, ⟨.str ⟨#[c]⟩ u, ?_⟩, let ⟨o, ho2, r⟩ := hst; ⟨o, (sb.2 it (Ne.symm hne)).trans ho2, r⟩, hne⟩, fun b hb => ?_⟩
    · rw [show ((i + 1 : Nat) : Int) = (i : Int) + 1 by omega]
      exact he'
    · have hb' : b < s.heap.objs.size := by
        rcases (show b = e ∨ b = it by simpa using hb) with z | z
        · exact z ▸ hel
        · exact z ▸ hil
      rw [upd_ne (Nat.ne_of_lt hb')]
      exact (hf b hb).1
  done := by
    intro X hP hw hK hc i pins s σ H E I hf st hg
    cases hP; cases hw; cases hK
    obtain ⟨hi, ⟨old, he⟩, hit, hne⟩ := st
    obtain ⟨f0, f1, f2, f3, f4, f5⟩ := hf it (by simp)
    have D : Draws X.prog X.w X.A.in1 it [it] z.cps.size (fun i v => ∃ c u, z.cps[i]? = some c ∧ v = .str ⟨#[c]⟩ u) (fun i h => h.IsStrIter it ty z t i) := by
      rcases hty with e | e
      · rw [e]; exact Draws.strAscii (A := X.A.in1) (I.ok.hd hc) it z t
      · rw [e]; exact Draws.strWide (A := X.A.in1) (I.ok.hd hc) it z t
    have hn : i = z.cps.size := Nat.le_antisymm hi hg
    subst hn
    exact wpAny_pyNext_enum_endD D he hit fun h' eb => ⟨rfl, I.turned (t' := s.toks) (fun b o hb q => eb b o hb q) f0 f1 f3 f4 f5⟩
  self := fun A i s Q E st h => let ⟨_, ⟨_, he⟩, _⟩ := st; wpAny_pyIter_enum he h
def iEnumS (ta : TA) : TI := fun σ H R => ta σ H fun vs H1 => ∃ z, vs = [.str z] ∧ R (IteS z) H1
theorem pi_enumS {X : Cx} {e : Expr} {ta : TA} {p pos tpos : Pos} {elts : List Expr} {kk : Nat} (hg : Gl X "enumerate") (hm : X.mg "enumerate" = none) (ha : PA X [e] ta) (hs : starEach [e] X.env = [(false, eval e X.env)] := by rfl) :
    PI X (.Tuple elts kk tpos) (.Call (.Name "enumerate" p) [e] [] pos) (iEnumS ta) := by
  refine ⟨fun pins s σ H R I h => Call_ (ld_blt I hg hm boot_enumerate (PyProof.Rows.callWith_type1 (thn (ha.run pos pins s σ H _ I h) fun us s1 ⟨vs, H1, I1, r1, z, ex, q⟩ => ?_) hs rfl))⟩
  subst ex
  cases r1 with
  | cons r rr =>
    cases rr
    obtain ⟨t, rfl⟩ := r
    have fp : ∀ b ∈ [s1.heap.objs.size + 1, s1.heap.objs.size], FpOk X pins H1 b := fun b hb => by
      have hle : s1.heap.objs.size ≤ b := by
        rcases (show b = s1.heap.objs.size + 1 ∨ b = s1.heap.objs.size by simpa using hb) with z | z
        · exact z ▸ Nat.le_add_right _ _
        · exact z ▸ Nat.le_refl _
      exact I1.fpOk hle (I1.hok.fresh hle)
    refine call_enumerate_str fun h' he hit hsz hk => wpAny_pyIter_enum he ?_
    have hty : strIterType z = "str_ascii_iterator" ∨ strIterType z = "str_iterator" := by
      unfold strIterType
      split
      · exact .inl rfl
      · exact .inr rfl
    exact ⟨s1.heap.objs.size + 1, _, _, _, H1, rfl, I1.kept (t' := s1.toks) hk, turn_enumS z t _ hty (s1.heap.objs.size + 1) s1.heap.objs.size, ⟨Nat.zero_le _, ⟨.none, he⟩, hit, Nat.succ_ne_self _⟩, fp, q⟩
section
variable {K : PySem.W.Frag} {σ : L2.St} {H G : Hp} {W : Wl} {Q : VK} {nx : L2.St → Hp → Prop} {rt : VK} {tb : TS} {ta : TA} {R : It → Hp → Prop} {z : Str} {te : TE} {tt : TT} {vs : List Nat}
theorem walk_enumS : Walk (IteS z) z.cps.size (fun _ => True) (YPair (fun i => some (.int (i : Nat))) (fun i => z.cps[i]?.map fun c => .str ⟨#[c]⟩)) :=
  ⟨fun i H hi _ => hi, fun H _ => Nat.le_refl _, fun i H x H' hi _ y => by
    obtain ⟨T, c, e1, e2, e3, e4⟩ := y
    exact ⟨T, _, _, e1, e2, e3, rfl, congrArg (Option.map fun c : Nat => V.str ⟨#[c]⟩) e4⟩⟩
theorem st_iEnumS (h : ta σ H fun vs H1 => ∃ z, vs = [.str z] ∧ R (IteS z) H1) : iEnumS ta σ H R := h
theorem st_iStr (h : te σ H fun v H1 => ∃ x, v = .str x ∧ R (Its x) H1) : iStr te σ H R := h
/-- for i, c in enumerate(a text) -/
theorem for_enumS {i1 i2 : Nat} (I : Nat → L2.St → Hp → Wl → Prop) (w : Wd G W H) (h0 : I 0 σ G W)
    (hs : ∀ (i c : Nat) σ' G' G'' W' H', z.cps[i]? = some c → Same G G' → I i σ' G' W' → Same G' G'' → Wd G'' W' H' → tb ⟨Btw I G (i + 1), rt, nx, Btw I G (i + 1)⟩ ((σ'.set i1 (some (.int (i : Int)))).set i2 (some (.str ⟨#[c]⟩))) H')
    (hd : ∀ σ' G' W' H', Same G G' → Wd G' W' H' → I z.cps.size σ' G' W' → nx σ' H') :
    ∃ z', [V.str z] = [.str z'] ∧ LoopQ (IteS z') (gTup K 2 (gCons (gName i1) (gCons (gName i2) gNil))) tb nx rt σ H :=
  ⟨z, rfl, loop_go walk_enumS I w (fun _ _ _ _ _ => trivial) h0 (fun i x σ' G' W' H' H'' _ e w' h y => by
    obtain ⟨T, x1, x2, rfl, hn, rfl, e1, e2⟩ := y
    cases e1
    obtain ⟨c, hc, rfl⟩ := Option.map_eq_some_iff.mp e2
    refine ⟨T, _, rfl, SqT.of upd_same, rfl, _, _, rfl, ?_⟩
    refine ⟨_, _, rfl, ?_⟩
    exact ⟨rfl, hs i c σ' G' _ W' _ hc e h (same_upd (w'.free hn)) (w'.new hn)⟩) hd⟩
/-- [.. for c in a text] -/
theorem lc_str {j : Nat} (I : Nat → List V → Hp → Prop) (w : Wd G W H) (h0 : I 0 [] G) (hw : ∀ x, wipe ((wipe σ vs).set j x) vs = wipe σ vs)
    (hs : ∀ (i c : Nat) D G' H' acc, z.cps[i]? = some c → Same G G' → Wd G' ((D, Is (.lst acc)) :: W) H' → I i acc G' → tt ((wipe σ vs).set j (some (.str ⟨#[c]⟩))) H' fun b H3 =>
      if b = true then te ((wipe σ vs).set j (some (.str ⟨#[c]⟩))) H3 fun y H4 => ∃ acc, H4 D = some (.lst acc) ∧ acc.length < sizeLine ∧ LcB I G W D (i + 1) (upd H4 D (.lst (acc ++ [y]))) else LcB I G W D (i + 1) H3)
    (hd : ∀ D G' H' acc, Same G G' → Wd G' ((D, Is (.lst acc)) :: W) H' → I z.cps.size acc G' → Q (.ref D) H') : ∃ x, V.str z = .str x ∧ LcQ (Its x) (gName j) tt te vs σ H Q :=
  ⟨z, rfl, lc_go walk_str I w (fun _ _ _ _ _ => trivial) h0 (fun i x D G' H' H'' acc hi e w' h y => by
    obtain ⟨rfl, c, hc, rfl⟩ := y
    exact ⟨hw _, hs i c D G' H'' acc hc e w' h⟩) hd⟩
end
/-! ### a new instance by keywords alone -/
section
variable {X : Cx} {CX : CXT} {k : Nat} {f C : Addr} {fd : FuncData} {ps ks : List Str} {sp : Sp} {E : XK} {x : Str} {p pos : Pos} {kws : List Keyword} {tk : TA} {g : List Value → List Value → List Value} {gV : List V → List V → List V}
theorem pe_makeN0 (M : Mk X.K C f) (F : FnOk X.prog X.w X.K X.mg X.base CX k f fd ps sp) (hr : Room (k + 1) X.A) (hg : Gl X x) (hm : X.mg x = some (.ref C)) (hb : KBn X.K fd ps 1 ks g gV) (hx : Passes CX X E)
    (hkw : PK X kws tk) (hall : (backToKw pos (keywordEach kws X.env)).all (·.1.isSome) = true := by rfl) (hks : (backToKw pos (keywordEach kws X.env)).filterMap (·.1) = ks := by rfl)
    (hdb : (x == ("__debug__" : Str)) = false := by decide) (hpl : ((backTo pos (starEach [] X.env)).any (·.1) || (backToKw pos (keywordEach kws X.env)).any (·.1.isNone)) = false := by rfl) :
    PE X (.Call (.Name x p) [] kws pos) (tMakeN C 0 ks.length sp gV E tNil tk) := by
  refine ⟨fun pins s σ H Q I h => wpAny_Call_Name_kw (ld_glob I hg hm ?_ hdb)⟩
  refine PySem.W.callWith_KW0 (h₀ := X.base) I.ok.mod.kin M.kp hall (thn (hkw.run pos pins _ σ H _ (I.tok _) h) fun ws s2 ⟨zs, H2, I2, rz, l1, l2, q2⟩ => ⟨I2.kIn, ?_⟩) hpl
  rw [hks]
  exact run_makeN (n := 0) (us := []) (vs := []) M F hr hb hx I2 .nil rz rfl l2 q2
theorem st_makeN {n m : Nat} {t : TA} {σ : L2.St} {H : Hp} {Q : VK} (h : t σ H fun vs H1 => tk σ H1 fun zs H2 => vs.length = n ∧ zs.length = m ∧
  ∀ x dx, H2 x = none → H2 dx = none → dx ≠ x → sp (gV (.ref x :: vs) zs) (upd (upd H2 dx (.own x)) x (.ins C dx [])) (fun v H3 => v = .non ∧ Q (.ref x) H3) E) : tMakeN C n m sp gV E t tk σ H Q := h
theorem atP (h : Passes CX X E) : ∀ σ, PassesAt CX X σ E := fun σ pins H s e s' I q => h pins σ H s e s' I q
end
end Z

/-! an own instance by index; texts of bits: parts, in a list, index; *items -/
namespace PySem
open AutoSeq1
theorem zExtT (l : Addr) (items : Array Value) (n : Nat) (b : Addr) (items2 : Array Value) (n2 : Nat) (dd : Option Addr) (sl : Array (Option Value)) (hs0 : ¬(!items.isEmpty && Builtin.List.listTooLong (items.size + items2.size)) = true) (hs1 : items.size ≤ sizeLine) (hs2 : items.size + items2.size ≤ sizeLine + 1) :
    Meets (Builtin.«list.extend» ⟨[.ref l, .ref b], []⟩) (fun _ R s => s.heap.get? l = some { cls := .type "list", dict := none, data := .seq items n, slots := #[] } ∧ s.heap.get? b = some { cls := .type "tuple", dict := dd, data := .seq items2 n2, slots := sl } ∧ R (.ok (.ret Value.none)) { s with heap := s.heap.update l (Obj.mapSeq fun x => x ++ items2), toks := s.toks }) :=
  .of_wp fun prog w A R s h => by
    obtain ⟨hp, g, d, tk, os⟩ := s; obtain ⟨hl, hb, h⟩ := h; have f1 := idx_int; have f2 := sub_tuple_tuple; have f3 := sub_list_list; have f4 := sub_tuple_list; have f5 := sub_list_tuple;
    have hz' : (items ++ items2).size ≤ sizeLine + 1 := by rw [Array.size_append]; exact hs2
    wp_walk using (wpAny_updateSeq hl rfl (hz := hs1) (_hz' := hz')), wpAny_loadPart' hl, wpAny_loadPart' hb; exact ⟨_, rfl, h⟩
end PySem
namespace Z
open PySem PySem.Spec PyProof.Rows L2
def rListOf (K : PySem.W.Frag) : List V → Hp → VK → Prop := fun xs H Q => ∃ p ys, xs = [.ref p] ∧ (SqL K H p ys ∨ SqT K H p ys) ∧ ∀ l, H l = none → Q (.ref l) (upd H l (.lst ys))
theorem call_listOf {X : Cx} : CallR X (.type "list") (rListOf X.K) := call_list_of
/-- xs.extend(t), t a tuple -/
def rExtT (K : PySem.W.Frag) : V → List V → Hp → VK → Prop := fun x vs H Q => ∃ l b xs zs, x = .ref l ∧ vs = [.ref b] ∧ H l = some (.lst xs) ∧ SqT K H b zs ∧ xs.length + zs.length ≤ sizeLine ∧ Q .non (upd H l (.lst (xs ++ zs)))
theorem mt_extT {X : Cx} : MtM X "list.extend" (rExtT X.K) := by
  intro pins s σ H x vs v us Q I rx rv h
  obtain ⟨l, b, xs, zs, rfl, rfl, hH, hB, hz, q⟩ := h
  cases rx
  obtain ⟨u, rfl, ru⟩ := rv.one
  cases ru
  obtain ⟨z, its, n, r, hl, e⟩ := I.lstM hH
  obtain ⟨its2, r2, ht, hz2⟩ := I.tuple hB
  obtain ⟨⟨c, dd, dt, sl⟩, e2, hc, n2, hd⟩ := ht
  obtain rfl : c = .type "tuple" := hc
  obtain rfl : dt = .seq its2.toArray n2 := hd
  have hl2 := r2.length
  have hsz : its.toArray.size + its2.toArray.size ≤ sizeLine := by rw [List.size_toArray, List.size_toArray]; omega
  have hlong : ¬ (!its.toArray.isEmpty && Builtin.List.listTooLong (its.toArray.size + its2.toArray.size)) = true := by
    rw [notLongL hsz, Bool.and_false]
    exact Bool.false_ne_true
  refine call_meets F.slot_list_extend ⟨_, e, rfl⟩ F.entry_list_extend (F.args_list_extend_2 _ _)
    (zExtT l its.toArray n b its2.toArray n2 dd sl hlong (by rw [List.size_toArray]; omega) (by omega)) ⟨e, e2, ?_⟩
  refine ⟨.non, _, I.lset (its' := its ++ its2) hH e (by simp) (r.append r2) ?_, rfl, q⟩
  rw [List.length_append]
  omega
section
variable {X : Cx} {k : Nat} {f C : Addr} {fd : FuncData} {ps : List Str} {sp : Sp} {a b : Expr} {ta tb : TE} {pos : Pos}
theorem pe_ixO (hm : Meth X.K C "__getitem__" f) (hfn : PySem.W.fnIn X.K f = true) (F : FnOk X.prog X.w X.K X.mg X.base CX0 k f fd ps sp) (hr : Room (k + 1) X.A) (hb : Binds X.K fd ps []) (ha : PE X a ta) (hb2 : PE X b tb)
    (hs : ∀ v u : Value, subscripted b true v u = runValue (.builtin "lifetime.subscript" ⟨[v, u], []⟩) := by intro _ _; rfl) : PE X (.Subscript a b pos) (tOp (rIxO C sp) ta tb) := by
  refine ⟨fun pins s σ H Q I h => ?_⟩
  exact Subscript_ (binT ha hb2 I h fun v u s2 x y H2 I2 rx ry q => ix_own hm hfn F hr hb a b I2 rx ry q (hs _ _))
end
section
variable {K : PySem.W.Frag} {σ : L2.St} {H G : Hp} {W : Wl} {Q : VK} {QA : List V → Hp → Prop} {te : TE} {t : TA}
theorem st_star (h : te σ H fun x H1 => ∃ p xs, x = V.ref p ∧ (SqT K H1 p xs ∨ SqL K H1 p xs) ∧ t σ H1 fun ys H2 => QA (xs ++ ys) H2) : StX.tStar K te t σ H QA := h
end
theorem bt_list (bs : List Int) : (bt bs).cps.toList = bs.map fun b => (48 + b).toNat := by
  unfold bt
  exact List.toList_toArray
theorem cutS_bt (bs : List Int) {s e : Nat} (h : s ≤ e) : cutS (bt bs) (some (s : Int)) (some (e : Int)) = bt ((bs.drop s).take (e - s)) := by
  unfold cutS
  rw [HT.sIx_nat, HT.sIx_nat, bt_len, bt_list]
  unfold bt
  rw [List.map_take, List.map_drop]
  congr 1
  rcases Nat.le_total s bs.length with h1 | h1
  · rw [Nat.min_eq_left h1]
    rcases Nat.le_total e bs.length with h2 | h2
    · rw [Nat.min_eq_left h2]
    · rw [Nat.min_eq_right h2, List.take_of_length_le (by rw [List.length_drop, List.length_map]; omega), List.take_of_length_le (by rw [List.length_drop, List.length_map]; omega)]
  · rw [Nat.min_eq_right h1, List.drop_of_length_le (by rw [List.length_map]; omega), List.drop_of_length_le (by rw [List.length_map]; omega)]
    simp
theorem cutS_lo (bs : List Int) (e : Nat) : cutS (bt bs) none (some (e : Int)) = bt (bs.take e) := by
  have h := cutS_bt bs (Nat.zero_le e)
  rw [List.drop_zero, Nat.sub_zero] at h
  rw [← h]
  unfold cutS
  rw [HT.sIx_none, HT.sIx_nat, HT.sIx_nat, Nat.min_eq_left (Nat.zero_le _)]
def Pos0 (c : List Int) : Prop := ∀ b ∈ c, 0 ≤ b
theorem bt_eq {a b : List Int} (ha : Pos0 a) (hb : Pos0 b) : decide (V.str (bt a) = V.str (bt b)) = decide (a = b) := by
  by_cases h : a = b
  · rw [decide_eq_true h, decide_eq_true (by rw [h])]
  · rw [decide_eq_false h, decide_eq_false fun e => h (bt_inj ha hb (by injection e))]
def tb (cs : List (List Int)) : List V := cs.map fun c => V.str (bt c)
theorem flat_tb (cs : List (List Int)) : (tb cs).all flatV = true := by
  unfold tb
  rw [List.all_map, List.all_eq_true]
  intro c _
  rfl
theorem eqV_bt {a b : List Int} (ha : Pos0 a) (hb : Pos0 b) : eqV (.str (bt a)) (.str (bt b)) = decide (a = b) := by
  show (bt a == bt b) = _
  by_cases h : a = b
  · rw [decide_eq_true h, h]
    exact beq_self_eq_true _
  · rw [decide_eq_false h]
    exact beq_eq_false_iff_ne.mpr fun e => h (bt_inj ha hb e)
theorem in_tb {c : List Int} (hc : Pos0 c) : ∀ {cs : List (List Int)}, (∀ d ∈ cs, Pos0 d) → inV (.str (bt c)) (tb cs) = decide (c ∈ cs)
  | [], _ => by simp [inV, tb]
  | d :: cs, h => by
    have ih := in_tb hc (cs := cs) fun x hx => h x (List.mem_cons_of_mem _ hx)
    unfold inV tb at ih ⊢
    rw [List.map_cons, List.any_cons, ih, eqV_bt (h d List.mem_cons_self) hc]
    by_cases e : d = c
    · simp [e]
    · have e' : ¬ c = d := fun z => e z.symm
      simp [e, e', List.mem_cons]
section
variable {K : PySem.W.Frag} {H G : Hp} {W : Wl} {Q : VK} {a : Addr}
/-- c in a list of texts of bits -/
theorem st_inB {c : List Int} {cs : List (List Int)} (ha : SqL K H a (tb cs)) (hc : Pos0 c) (hcs : ∀ d ∈ cs, Pos0 d) (q : Q (.bl (decide (c ∈ cs))) H) : rIn K false (.str (bt c)) (.ref a) H Q := by
  refine ⟨a, _, rfl, .inl ha, rfl, flat_tb cs, ?_⟩
  rw [in_tb hc hcs]
  exact q
theorem first_of {α : Type} [DecidableEq α] [BEq α] [LawfulBEq α] {cs : List α} {c : α} (h : c ∈ cs) : cs[cs.idxOf c]? = some c ∧ ∀ i : Nat, i < cs.idxOf c → cs[i]? ≠ some c := by
  induction cs with
  | nil => exact nomatch h
  | cons x xs ih =>
    by_cases e : x = c
    · subst e
      rw [List.idxOf_cons_self]
      exact ⟨rfl, fun i hi => absurd hi (Nat.not_lt_zero i)⟩
    · obtain ⟨h2, h3⟩ := ih ((List.mem_cons.mp h).resolve_left fun z => e z.symm)
      rw [List.idxOf_cons, show (x == c) = false from beq_eq_false_iff_ne.mpr e]
      refine ⟨h2, fun i hi => ?_⟩
      cases i with
      | zero => exact fun z => e (Option.some.inj z)
      | succ i => exact h3 i (Nat.lt_of_succ_lt_succ hi)
/-- cs.index(c), texts of bits -/
theorem st_indexB {c : List Int} {cs : List (List Int)} (ha : SqL K H a (tb cs)) (hc : Pos0 c) (hcs : ∀ d ∈ cs, Pos0 d) (hm : c ∈ cs) (q : Q (.int ((cs.idxOf c : Nat) : Int)) H) : rIndex K (.ref a) [.str (bt c)] H Q := by
  obtain ⟨h2, h3⟩ := first_of hm
  refine ⟨a, _, _, cs.idxOf c, .str (bt c), rfl, rfl, ha, rfl, flat_tb cs, by unfold tb; rw [List.getElem?_map, h2]; rfl, by rw [eqV_bt hc hc]; exact decide_eq_true rfl, fun i z hi hz => ?_, q⟩
  unfold tb at hz
  rw [List.getElem?_map] at hz
  obtain ⟨d, hd, rfl⟩ := Option.map_eq_some_iff.mp hz
  rw [eqV_bt (hcs d (List.mem_of_getElem? hd)) hc]
  exact decide_eq_false fun e => h3 i hi (by rw [hd, e])
end
theorem bt_joins : ∀ cs : List (List Int), Txt.join "" (cs.map bt) = bt cs.flatten := fun cs => by
  have h : (Str.join "" (cs.map bt)).cps.toList = (bt cs.flatten).cps.toList := by
    have h1 := TL.tl_join "" (cs.map bt)
    have hj : ∀ ps : List (List Nat), TL.joinL [] ps = ps.flatten := by
      intro ps
      induction ps with
      | nil => rfl
      | cons p ps ih =>
        cases ps with
        | nil => simp [TL.joinL]
        | cons q r =>
          show p ++ ([] ++ TL.joinL [] (q :: r)) = _
          rw [ih, List.nil_append]
          rfl
    rw [show TL.tl "" = [] from rfl, hj] at h1
    refine Eq.trans h1 ?_
    clear h1 hj
    induction cs with
    | nil => rfl
    | cons c cs ih =>
      rw [List.map_cons, List.map_cons, List.flatten_cons, ih, List.flatten_cons, bt_list, bt_list, List.map_append]
      show (bt c).cps.toList ++ _ = _
      rw [bt_list]
  rw [TL.join_eq]
  generalize Str.join "" (cs.map bt) = z at h
  obtain ⟨c⟩ := z
  have : c = (bt cs.flatten).cps := Array.toList_inj.mp h
  subst this
  rfl
end Z

/-! lambdas: tables of code objects as ghosts; the end of a law whose defs hold lambdas -/
namespace Z
open PySem PySem.Spec PyProof.Rows L2
open LamX (CodeO TabS Tabs ExtN codeO_ne TabB GivesTo tLam lamCx LamS lamEnv)
/-! ### tables among what may change -/
def TabP (G : Hp) (q : Str) : HO → Prop := fun o => ∃ ps : Array Value, o = .tbl ps ∧ TriplesOk ps.toList ∧ ∀ (pos : Pos) (cv : Value), codeAmong pos ps.toList = some cv → ∃ c, cv = .ref c ∧ G c = some (CodeO c q)
def TabW (T : List (Addr × Str)) (G : Hp) : Wl := T.map fun p => (p.1, TabP G p.2)
def NoTbl (G : Hp) : Prop := ∀ b ps, G b ≠ some (.tbl ps)
def NoX (W : Wl) : Prop := ∀ p ∈ W, ∀ o, p.2 o → (∀ ps, o ≠ .tbl ps) ∧ ∀ c q, o ≠ CodeO c q
def strip (G : Hp) : Hp := fun b => match G b with
  | some (.tbl _) => none
  | x => x
theorem strip_of {G : Hp} {b : Addr} {o : HO} (h : G b = some o) (n : ∀ ps, o ≠ .tbl ps) : strip G b = some o := by
  unfold strip
  rw [h]
  cases o <;> first | rfl | exact absurd rfl (n _)
theorem of_strip {G : Hp} {b : Addr} {o : HO} (h : strip G b = some o) : G b = some o := by
  unfold strip at h
  split at h
  · cases h
  · exact h
theorem strip_nt (G : Hp) : NoTbl (strip G) := fun b ps h => by
  have h2 := of_strip h
  unfold strip at h
  rw [h2] at h
  cases h
theorem same_strip {G G' : Hp} (nt : NoTbl G) (e : Same G G') : Same G (strip G') := fun b o h => strip_of (e _ _ h) fun ps z => nt b ps (by rw [h, z])
theorem Wd.strip {G H : Hp} {W : Wl} (w : Wd G W H) : Wd (strip G) W H :=
  ⟨fun b o h => w.ex _ _ (of_strip h), fun p hp => ⟨by
    have h := (w.own p hp).1
    unfold Z.strip
    rw [h], (w.own p hp).2⟩, w.nd⟩
section
variable {K : PySem.W.Frag} {G : Hp}
theorem lstrip {a : Addr} {xs : List V} (h : SqL K G a xs) : SqL K (strip G) a xs := by
  rcases h with (h | ⟨o, h⟩) | h
  · exact .inl (.inl (strip_of h fun _ z => by cases z))
  · exact .inl (.inr ⟨o, strip_of h fun _ z => by cases z⟩)
  · exact .inr h
theorem tstrip {a : Addr} {xs : List V} (h : SqT K G a xs) : SqT K (strip G) a xs := by
  rcases h with (h | ⟨o, h⟩) | h
  · exact .inl (.inl (strip_of h fun _ z => by cases z))
  · exact .inl (.inr ⟨o, strip_of h fun _ z => by cases z⟩)
  · exact .inr h
mutual
theorem dstrip : ∀ {d : PyData} {v : V}, Dp K G v d → Dp K (strip G) v d
  | _, _, .non => .non
  | _, _, .bl b => .bl b
  | _, _, .int i => .int i
  | _, _, .str x => .str x
  | _, _, .lst h r => .lst (lstrip h) (dstripAll r)
  | _, _, .tup h r => .tup (tstrip h) (dstripAll r)
theorem dstripAll : ∀ {ds : List PyData} {vs : List V}, DpAll K G vs ds → DpAll K (strip G) vs ds
  | _, _, .nil => .nil
  | _, _, .cons h r => .cons (dstrip h) (dstripAll r)
end
end
theorem tabW_map (T : List (Addr × Str)) (G : Hp) : (TabW T G).map (·.1) = T.map (·.1) := by
  unfold TabW
  rw [List.map_map]
  rfl
theorem tabW_mem {T : List (Addr × Str)} {G : Hp} {p : Addr × (HO → Prop)} (h : p ∈ TabW T G) : ∃ t ∈ T, p = (t.1, TabP G t.2) := by
  obtain ⟨t, ht, e⟩ := List.mem_map.mp h
  exact ⟨t, ht, e.symm⟩
theorem Wd.tabUp {G G' H : Hp} {T : List (Addr × Str)} {Wr : Wl} (w : Wd G' (TabW T G ++ Wr) H) (e : Same G G') : Wd G' (TabW T G' ++ Wr) H := by
  refine ⟨w.ex, fun p hp => ?_, ?_⟩
  · rcases List.mem_append.mp hp with hp | hp
    · obtain ⟨t, ht, rfl⟩ := tabW_mem hp
      obtain ⟨g, o, ho, ps, h1, h2, h3⟩ := w.own (t.1, TabP G t.2) (List.mem_append_left _ (List.mem_map.mpr ⟨t, ht, rfl⟩))
      exact ⟨g, o, ho, ps, h1, h2, fun pos cv hc => let ⟨c, e1, e2⟩ := h3 pos cv hc; ⟨c, e1, e _ _ e2⟩⟩
    · exact w.own p (List.mem_append_right _ hp)
  · have := w.nd
    rw [List.map_append, tabW_map] at this ⊢
    exact this
open Classical in
/-- G and the code objects of H -/
noncomputable def addC (G H : Hp) : Hp := fun b => if G b = none ∧ ∃ q, H b = some (CodeO b q) then H b else G b
section
variable {G H H1 : Hp} {T : List (Addr × Str)} {Wr : Wl}
theorem addC_old {b : Addr} {o : HO} (h : G b = some o) : addC G H1 b = some o := by
  unfold addC
  rw [if_neg (fun z => by rw [h] at z; exact nomatch z.1), h]
theorem addC_new {b : Addr} {q : Str} (h : G b = none) (hc : H1 b = some (CodeO b q)) : addC G H1 b = some (CodeO b q) := by
  unfold addC
  rw [if_pos ⟨h, q, hc⟩, hc]
theorem addC_cases {b : Addr} {o : HO} (h : addC G H1 b = some o) : G b = some o ∨ (H1 b = some o ∧ ∃ q, o = CodeO b q) := by
  unfold addC at h
  split at h
  · rename_i z
    obtain ⟨_, q, hq⟩ := z
    rw [hq] at h
    exact .inr ⟨by rw [hq]; exact h, q, (Option.some.inj h).symm⟩
  · exact .inl h
theorem tabs_of (w : Wd G (TabW T G ++ Wr) H) : Tabs T H := fun p hp => by
  obtain ⟨_, o, ho, ps, rfl, h2, h3⟩ := w.own (p.1, TabP G p.2) (List.mem_append_left _ (List.mem_map.mpr ⟨p, hp, rfl⟩))
  exact ⟨ps, ho, h2, fun pos cv hc => let ⟨c, e1, e2⟩ := h3 pos cv hc; ⟨c, e1, w.at e2⟩⟩
/-- a lambda is made -/
theorem lam_ghost (w : Wd G (TabW T G ++ Wr) H) (nx : NoX Wr) (nt : NoTbl G) (e : ExtN H H1) (t1 : Tabs T H1) : ∃ G1, Same G G1 ∧ NoTbl G1 ∧ Wd G1 (TabW T G1 ++ Wr) H1 := by
  have old : ∀ b o, G b = some o → H1 b = some o := fun b o h => e b o (w.at h) fun ps z => nt b ps (by rw [h, z])
  refine ⟨addC G H1, fun b o h => addC_old h, fun b ps h => ?_, fun b o h => ?_, fun p hp => ?_, ?_⟩
  · rcases addC_cases h with h | ⟨_, q, hq⟩
    · exact nt b ps h
    · exact codeO_ne ps hq.symm
  · rcases addC_cases h with h | ⟨h, _⟩
    · exact old b o h
    · exact h
  · have none_of : ∀ {b : Addr} {o : HO}, G b = none → H1 b = some o → (∀ c q, o ≠ CodeO c q) → addC G H1 b = none := fun {b o} g h1 n => by
      unfold addC
      rw [if_neg fun z => by
        obtain ⟨_, q, hq⟩ := z
        rw [h1] at hq
        exact n b q (Option.some.inj hq), g]
    rcases List.mem_append.mp hp with hp | hp
    · obtain ⟨t, ht, rfl⟩ := tabW_mem hp
      obtain ⟨g, _⟩ := w.own (t.1, TabP G t.2) (List.mem_append_left _ (List.mem_map.mpr ⟨t, ht, rfl⟩))
      obtain ⟨ps, h1, h2, h3⟩ := t1 t ht
      refine ⟨none_of g h1 fun c q z => codeO_ne ps z.symm, _, h1, ps, rfl, h2, fun pos cv hc => ?_⟩
      obtain ⟨c, e1, e2⟩ := h3 pos cv hc
      refine ⟨c, e1, ?_⟩
      cases gc : G c with
      | none => exact addC_new gc e2
      | some u =>
        have := old c u gc
        rw [e2] at this
        rw [addC_old gc]
        exact this.symm
    · obtain ⟨g, o, ho, hP⟩ := w.own p (List.mem_append_right _ hp)
      obtain ⟨n1, n2⟩ := nx p hp o hP
      have h1 := e _ _ ho n1
      exact ⟨none_of g h1 n2, o, h1, hP⟩
  · have := w.nd
    rw [List.map_append, tabW_map] at this ⊢
    exact this
theorem st_lam {TT : (XK → Hp → VK → Prop) → Hp → VK → Prop} {t : XK → TE} {σ : L2.St} {Q : VK} (w : Wd G (TabW T G ++ Wr) H) (nx : NoX Wr) (nt : NoTbl G)
    (k : ∀ G1 H1, Same G G1 → NoTbl G1 → Wd G1 (TabW T G1 ++ Wr) H1 → TT (fun E H' Q' => t E σ H' Q') H1 Q) : tLam T TT t σ H Q :=
  ⟨tabs_of w, fun H1 e t1 => let ⟨G1, e1, n1, w1⟩ := lam_ghost w nx nt e t1; k G1 H1 e1 n1 w1⟩
end
/-! ### the call of what was handed -/
section
variable {X : Cx}
theorem takes_len {W : WX} (t : Takes X W) : Takes X (fun cls d σ H => σ.length = X.N.length → W cls d σ H) := fun u s' ⟨a, B, sI, pins, σ, H, cls, d, e, I, nb, up, sky, na, os, ag, w⟩ =>
  t u s' ⟨a, B, sI, pins, σ, H, cls, d, e, I, nb, up, sky, na, os, ag, w I.len⟩
/-- a(), what was handed is called -/
def tLc (n : Nat) (f c' : Addr) (q : Str) (tl : XK → Hp → VK → Prop) (W : WX) : TS := fun D σ H => ∃ E : XK, (∀ cls d σ' H', σ'.length = n → E cls d H' → W cls d σ' H') ∧ σ[0]? = some (some (.ref f)) ∧ H c' = some (CodeO c' q) ∧ tl E H fun _ H' => D.nx σ H'
theorem ps_lcall {n : Nat} {W : WX} {f c' : Addr} {q : Str} {tl : XK → Hp → VK → Prop} {a : Str} {p1 p2 p3 : Pos} (hn : X.N.length = n) (tk : Takes X W)
    (act : ∀ (W : WX) (E : XK), Takes X W → (∀ cls d σ' H', E cls d H' → W cls d σ' H') → PE X (.Call (.Name a p1) [] [] p2) (fun σZ HZ Q => σZ[0]? = some (some (.ref f)) ∧ HZ c' = some (CodeO c' q) ∧ tl E HZ Q)) :
    PS X (.Expr (.Call (.Name a p1) [] [] p2) p3) (tLc n f c' q tl W) := by
  refine ⟨fun pins s σ H D I h => ?_⟩
  obtain ⟨E, hW, h1, h2, h3⟩ := h
  exact (ps_expr (act _ E (takes_len tk) fun cls d σ' H' he hl => hW cls d σ' H' (hl.trans hn) he)).run pins s σ H D I ⟨h1, h2, h3⟩
end
section
variable {X : Cx}
/-- x(lambda: body), x a def of the module -/
theorem pe_lamF {T : List (Addr × Str)} {TT : (XK → Hp → VK → Prop) → Hp → VK → Prop} {x a : Str} {g c P : Addr} {k : Nat} {pg : Arguments} {bg : List Stmt} {sg : Scope} {fd : FuncData} {Ng : List Str}
    {params : Arguments} {body : Expr} {scope : Scope} {t : XK → TE} {p lpos pos : Pos} (F : FunD X.K x x pg bg sg [] [] g fd) (hg : Gl X x) (hm : X.mg x = some (.ref g)) (hb : Binds X.K fd [a] []) (Sg : FnScope Ng [a] sg) (hNg : Ng[0]? = some a) (hva : Vis sg a)
    (hG : ∀ cdg : Value, GivesTo X Ng x sg g cdg bg a (X.env.qual ++ "<lambda>") TT)
    (TB : TabB X.base X.mg c P) (hcode : X.env.code = .ref c) (hmT : (P, X.env.qual ++ "<lambda>") ∈ T) (hu : ∀ p ∈ T, p.1 = P → p.2 = X.env.qual ++ "<lambda>") (hr : Room (k + 2) X.A) (L : LamS X.env.scope scope) (hdef : defaultsOf params X.env = ([], []))
    (hbind : ∀ (q : Str) (cl : List (Str × Addr)) (pm cv ctv : Value), bindArgs (PySem.W.kla_fn "<lambda>" q params body scope cl pm cv ctv) ⟨[], []⟩ = pure [])
    (hbody : ∀ (A : Around) (outer : List Env) (s : Shared) (H : Hp) (E : XK) (f c' : Addr), Room k (A.deeper (lamEnv X scope s.heap.objs.size f c')) → PE (lamCx X A outer s H E scope f c') body (t E))
    (hdb : (x == ("__debug__" : Str)) = false := by decide) (hd : (a == ("__debug__" : Str)) = false := by decide) (hcd : (a == ("__classdict__" : Str)) = false := by decide) :
    PE X (.Call (.Name x p) [.Lambda params body scope lpos] [] pos) (tLam T TT t) := by
  obtain ⟨oc, od, dV, kV, doc, pm, an, cdv, ct, osl, rfl, lk, hcd2, _, _⟩ := F.ex
  exact LamX.pe_lamcall hg hm F.kp lk hcd2 hb Sg hNg hva (hG cdv) TB hcode hmT hu hr L hdef hbind hbody hdb hd hcd
end
section
variable {P : Program} {w : World} {K : PySem.W.Frag} {mg mb : Str → Option Value} {base : Heap} {x qual : Str} {params : Arguments} {body : List Stmt} {scope : Scope} {dvs : List V} {kws : List (Str × V)} {f : Addr} {fd : FuncData}
/-- a def whose code object is known -/
theorem okC {N ps : List Str} {k : Nat} {sp : Sp} {c : Addr} (F : FunD K x qual params body scope dvs kws f fd) (hc : fd.code = .ref c) (S : FnScope N ps scope) (len : ∀ vs H Q E, sp vs H Q E → vs.length = ps.length)
    (hbody : ∀ (A : Around) (outer : List Env) (s : Shared) (H : Hp) (vs : List V) (Q : VK) (E : XK), A.guards = some [] → Room k (A.deeper (envOfC qual scope s.heap.objs.size f (.ref c))) → sp vs H Q E →
      ∃ t, PSs (cxOf CX0 P w K mg base N qual scope f (.ref c) A outer s H E).nox body t ∧ t { nx := fun _ H' => Q .non H', rt := Q } (start N vs) H) : FnG P w K mg base (k + 1) f fd ps sp := by
  obtain ⟨oc, od, dV, kV, doc, pm, an, cdv, ct, osl, rfl, lk, hcd, _, _⟩ := F.ex
  obtain rfl : cdv = .ref c := hc
  refine ⟨len, fun A outer s H args us vs Q E hr hgd e0 hb r hsp => ?_⟩
  have KX : K.In s.heap := e0.mod.kin.keeps fun b o e => (e0.bs b o e).1
  have kd : ∀ y ∈ ps.zip us, scope.names.lookup y.1 = some .local ∨ (scope.names.lookup y.1 = some .cell ∧ ((cellsFrom (s.heap.objs.size + 1) scope.names []).lookup y.1).isSome = true) := fun y hy =>
    (S.par y.1 (List.of_mem_zip (a := y.1) (b := y.2) hy).1).imp (fun q => q) fun q => ⟨q, PySem.W.cellsFrom_some _ _ _ (.inl q)⟩
  refine codeAny_call_function hr.depth (KX _ _ lk) rfl S.co S.gen rfl (PySem.W.codeRec_of KX hcd) (hb _ _ _ _ (wpAny_newFunctionEnv_cells S.kind kd fun env he s1 y => ?_))
  cases he
  obtain ⟨t, ht, hq⟩ := hbody A outer s H vs Q E hgd (hr.deeper _) hsp
  refine And.intro ((e0.mod.nolimit.keeps fun b o e => (e0.bs b o e).1).keeps y.toInCall.keep) (codeAny_func (wpAny_mono (ht.nox.run [] s1 (start N vs) H _ (inv_start S hr.hd e0 (len _ _ _ _ hsp) r y) hq) (fun fl s' hs => ?_) fun e s' hs => hs))
  cases fl with
  | ret u =>
    obtain ⟨v, _, H', J, rv, q⟩ := hs
    exact ⟨v, H', J.os, J.bare, J.base, J.hok, rv, q⟩
  | next =>
    obtain ⟨_, H', J, q⟩ := hs
    exact ⟨.non, H', J.os, J.bare, J.base, J.hok, rfl, q⟩
  | brk => exact hs.elim fun _ hs => hs.elim fun _ hs => hs.2.elim
  | cont => exact hs.elim fun _ hs => hs.elim fun _ hs => hs.2.elim
end
/-! ### the law itself, with tables -/
section
variable {P : Program} {w : World} {K : PySem.W.Frag} {mg mb : Str → Option Value} {k : Nat} {fa a : Addr} {fd : FuncData} {x : Str} {sp : Sp} {s₁ : Shared} {vs : List Value} {ns : List Int} {cs : List (Addr × Addr)} {H : Hp}
/-- what H tells of is the script or a table -/
def TwoK (h : Heap) (H : Hp) (va : Array Value) : Prop := ∀ b, H b ≠ none → ∀ o, h.get? b = some o → o.data = .seq va ∨ o.data = .fields #[]
theorem hid_of {h : Heap} {va : Array Value} {b : Addr} {o : Obj} (hA : TwoK h H va) (e : h.get? b = some o) (n1 : o.data ≠ .seq va) (n2 : o.data ≠ .fields #[]) : (hidT h H).get? b = some o :=
  hidT_get e (by
    cases q : H b with
    | none => rfl
    | some u => exact ((hA b (by rw [q]; exact fun z => nomatch z) o e).elim n1 n2).elim)
theorem hid_ns2 {h : Heap} {va : Array Value} {b : Addr} {m : Str → Option Value} (hA : TwoK h H va) (n : h.Ns b m) : (hidT h H).Ns b m := by
  obtain ⟨o, es, ep, e, d, r⟩ := n
  exact ⟨o, es, ep, hid_of hA e (by rw [d]; exact fun z => nomatch z) (by rw [d]; exact fun z => nomatch z), d, r⟩
theorem law_tabs (KX : K.In s₁.heap) (hns : s₁.heap.Ns mainGlobals mg) (hb : s₁.heap.Ns builtinsNs mb) (hbb : ∀ x : Str, x ≠ "__name__" → mb x = bootBuiltins x) (hlim : s₁.heap.NoLimit) (hg : s₁.gens = #[])
    (hT : ∀ p ∈ cs, s₁.heap.get? p.2 = some { cls := .none, data := .fields #[] }) (C : ∀ p ∈ cs, PySem.W.CodeHd s₁.heap p.1 p.2)
    (hbm : ∃ (bm : Addr) (ob : Obj), mg "__builtins__" = some (.ref bm) ∧ bm ≠ builtinsNs ∧ s₁.heap.get? bm = some ob ∧ ob.cls = .type "module" ∧ ob.dict = some builtinsNs ∧ ob.data = .plain)
    (hr : Room k callerA) (F : ∀ base : Heap, K.In base → base.Ns mainGlobals mg → (∀ p ∈ cs, TabB base mg p.1 p.2) → FnG P w K mg base k fa fd [x] sp) (hbind : ∀ (s : Shared) (u : Value), BindsTo s fd ⟨[u], []⟩ [(x, u)])
    (hH : ∀ p ∈ cs, H p.2 = some (.tbl #[])) (hO : ∀ b, H b = none ∨ b ∈ cs.map (·.2) ∨ ∃ o xs, H b = some (.frz o (.lst xs))) (hsp : sp [.ref a] H (fun v _ => v = .bl true) fun _ _ _ => False) (hok : HOk P w H s₁.heap)
    (hA : TwoK s₁.heap H vs.toArray) (hK : ∀ b, H b ≠ none → K.lookup b = none) :
    codeAny (model P w) callerA (.call (.ref fa) ⟨[.ref a], []⟩) (fun r s' => r = .ok (.ret (.bool true)) ∧ OldK s₁.heap s'.heap ∧ s'.os = s₁.os ∧ AllBare s'.gens) s₁ := by
  have hKb : K.In (hidT s₁.heap H) := fun b o e => hidT_get (KX b o e) (by
    cases q : H b with
    | none => rfl
    | some u =>
      rw [hK b (by rw [q]; exact fun z => nomatch z)] at e
      exact nomatch e)
  have M : Mod K mg (hidT s₁.heap H) := ⟨hKb, hid_ns2 hA hns, ⟨mb, hid_ns2 hA hb, hbb⟩, let ⟨mc, h1, h2⟩ := hlim; ⟨mc, hid_ns2 hA h1, h2⟩⟩
  have TB : ∀ p ∈ cs, TabB (hidT s₁.heap H) mg p.1 p.2 := fun p hp => by
    have hTp := hT p hp
    refine ⟨?_, ?_, fun z => ?_⟩
    · obtain ⟨o, us, file, tf, flags, tg, inF, text, tt, e1, r1, r2, r3, rest⟩ := C p hp
      refine ⟨o, us, file, tf, flags, tg, inF, text, tt, hid_of hA e1 (by rw [r2]; exact fun z => nomatch z) (fun z => ?_), r1, r2, r3, rest⟩
      rw [r2] at z
      injection z with z
      rw [z] at r3
      exact nomatch r3
    · obtain ⟨bm, ob, b1, b2, b3, b4, b5, b6⟩ := hbm
      refine ⟨bm, ob, b1, b2, fun q => ?_, fun q => ?_, hid_of hA b3 (by rw [b6]; exact fun z => nomatch z) (by rw [b6]; exact fun z => nomatch z), b4, b5, b6⟩
      · obtain ⟨o, es, ep, e, hd, _⟩ := hns
        rw [q, e] at b3
        cases b3
        rw [hd] at b6
        exact nomatch b6
      · rw [q, hTp] at b3
        cases b3
        exact nomatch b6
    · obtain ⟨o, es, ep, e, hd, _⟩ := hns
      rw [z, hTp] at e
      cases e
      exact nomatch hd
  have e0 : Env0 P w K mg (hidT s₁.heap H) callerA [] s₁ H := ⟨rfl, M, fun b o e => of_hidT e, Nat.le_of_eq (hidT_size _ _), trivial, fun b z => (List.not_mem_nil z).elim, hok, .of_eq hg⟩
  refine codeAny_mono ((F _ hKb (hid_ns2 hA hns) TB).run callerA [] s₁ H ⟨[.ref a], []⟩ [.ref a] [.ref a] _ _ hr rfl e0 (hbind s₁ (.ref a)) (.cons rfl .nil) hsp) fun r s' h => ?_
  cases r with
  | error e => exact False.elim h
  | ok fl => cases fl with
    | ret u =>
      obtain ⟨v, H', os, bare, un, hok', r', q⟩ := h
      cases (show v = .bl true from q)
      cases (show u = Value.bool true from r')
      have other : ∀ b o, b ∉ cs.map (·.2) → s₁.heap.get? b = some o → s'.heap.get? b = some o := fun b o nb e => by
        rcases hO b with y | y | ⟨ob, xs, y⟩
        · exact un.keep b o e y (List.not_mem_nil) (List.not_mem_nil)
        · exact absurd y nb
        · have e1 := (hok b _ y).1
          rw [e] at e1
          cases e1
          exact (hok' b _ (un.frzs b _ _ y)).1
      have table : ∀ b o, b ∈ cs.map (·.2) → s₁.heap.get? b = some o → ∃ p more, p ∈ cs ∧ b = p.2 ∧ o = ({ cls := .none, data := .fields #[] } : Obj) ∧ s'.heap.get? b = some { cls := .none, data := .fields more } := fun b o hb e => by
        obtain ⟨p, hp, rfl⟩ := List.mem_map.mp hb
        obtain ⟨more, z⟩ := un.tbls p.2 #[] (hH p hp)
        have hTp := hT p hp
        rw [e] at hTp
        cases hTp
        exact ⟨p, _, hp, rfl, rfl, hok' p.2 _ z⟩
      refine ⟨rfl, ⟨fun b o e => ?_, fun b o e => ?_⟩, os, bare⟩
      · by_cases hb : b ∈ cs.map (·.2)
        · obtain ⟨p, more, hp, rfl, rfl, hm⟩ := table b o hb e
          exact .inr (.inl ⟨((C p hp).tab (hT p hp)).isCodeTable, rfl, #[], more, rfl, by rw [Array.empty_append]; exact hm⟩)
        · exact .inl (other b o hb e)
      · by_cases hb : b ∈ cs.map (·.2)
        · obtain ⟨p, more, hp, rfl, rfl, hm⟩ := table b o hb e
          exact ⟨_, hm⟩
        · exact ⟨o, other b o hb e⟩
    | _ => exact False.elim h
end
section
variable {P : Program} {w : World} {K : PySem.W.Frag} {mg mb : Str → Option Value} {k : Nat} {fa a : Addr} {fd : FuncData} {x : Str} {sp : Sp} {s₁ : Shared} {vs : List Value} {ns : List Int} {cs : List (Addr × Addr)}
theorem law_callL (KX : K.In s₁.heap) (hns : s₁.heap.Ns mainGlobals mg) (hb : s₁.heap.Ns builtinsNs mb) (hbb : ∀ x : Str, x ≠ "__name__" → mb x = bootBuiltins x) (hlim : s₁.heap.NoLimit) (hg : s₁.gens = #[])
    (hT : ∀ p ∈ cs, s₁.heap.get? p.2 = some { cls := .none, data := .fields #[] }) (nT : ∀ p ∈ cs, K.lookup p.2 = none) (C : ∀ p ∈ cs, PySem.W.CodeHd s₁.heap p.1 p.2)
    (hbm : ∃ (bm : Addr) (ob : Obj), mg "__builtins__" = some (.ref bm) ∧ bm ≠ builtinsNs ∧ s₁.heap.get? bm = some ob ∧ ob.cls = .type "module" ∧ ob.dict = some builtinsNs ∧ ob.data = .plain)
    (ha : s₁.heap.get? a = some { cls := .type "list", data := .seq vs.toArray }) (hi : IntsAre vs ns) (hl : ns.length ≤ sizeLine) (hr : Room k callerA)
    (F : ∀ base : Heap, K.In base → base.Ns mainGlobals mg → (∀ p ∈ cs, TabB base mg p.1 p.2) → FnG P w K mg base k fa fd [x] sp) (hbind : ∀ (s : Shared) (u : Value), BindsTo s fd ⟨[u], []⟩ [(x, u)])
    (hsp : ∀ H : Hp, (∀ p ∈ cs, H p.2 = some (.tbl #[])) → SqL K H a (ns.map V.int) → sp [.ref a] H (fun v _ => v = .bl true) fun _ _ _ => False) :
    codeAny (model P w) callerA (.call (.ref fa) ⟨[.ref a], []⟩) (fun r s' => r = .ok (.ret (.bool true)) ∧ OldK s₁.heap s'.heap ∧ s'.os = s₁.os ∧ AllBare s'.gens) s₁ := by
  have rv := vals_ints hi
  have isT : ∀ b : Addr, b ∈ cs.map (·.2) → s₁.heap.get? b = some { cls := .none, data := .fields #[] } ∧ K.lookup b = none := fun b hb => by
    obtain ⟨p, hp, rfl⟩ := List.mem_map.mp hb
    exact ⟨hT p hp, nT p hp⟩
  have inT : ∀ p ∈ cs, p.2 ∈ cs.map (·.2) := fun p hp => List.mem_map.mpr ⟨p, hp, rfl⟩
  have aT : a ∉ cs.map (·.2) := fun z => by
    have q := (isT a z).1
    rw [ha] at q
    cases q
  cases hk : K.lookup a with
  | some o =>
    have e := KX a o hk
    rw [ha] at e
    cases e
    have Hc : ∀ {b : Addr} {u : HO}, (fun b => if b ∈ cs.map (·.2) then some (HO.tbl #[]) else none : Hp) b = some u → b ∈ cs.map (·.2) ∧ u = .tbl #[] := fun {b u} z => by
      by_cases y : b ∈ cs.map (·.2)
      · exact ⟨y, (Option.some.inj ((if_pos y).symm.trans z)).symm⟩
      · exact nomatch (if_neg y).symm.trans z
    refine law_tabs (H := fun b => if b ∈ cs.map (·.2) then some (.tbl #[]) else none) (vs := vs) KX hns hb hbb hlim hg hT C hbm hr F hbind (fun p hp => if_pos (inT p hp)) (fun b => ?_) (hsp _ (fun p hp => if_pos (inT p hp)) (.inr ⟨_, vs.toArray, _, hk, rfl, rfl, rfl, by rw [List.size_toArray, hi.length]; exact hl, by simpa using rv⟩)) (fun b u z => ?_) (fun b z o e => ?_) (fun b z => ?_)
    · by_cases y : b ∈ cs.map (·.2)
      · exact .inr (.inl y)
      · exact .inl (if_neg y)
    · obtain ⟨y, rfl⟩ := Hc z
      exact (isT b y).1
    · cases q : (fun b => if b ∈ cs.map (·.2) then some (HO.tbl #[]) else none : Hp) b with
      | none => exact absurd q z
      | some u =>
        rw [(isT b (Hc q).1).1] at e
        cases e
        exact .inr rfl
    · cases q : (fun b => if b ∈ cs.map (·.2) then some (HO.tbl #[]) else none : Hp) b with
      | none => exact absurd q z
      | some u => exact (isT b (Hc q).1).2
  | none =>
    have Hc : ∀ {b : Addr} {u : HO}, (fun b => if b = a then some (HO.frz { cls := .type "list", data := .seq vs.toArray } (.lst (ns.map V.int))) else if b ∈ cs.map (·.2) then some (.tbl #[]) else none : Hp) b = some u →
        (b = a ∧ u = .frz { cls := .type "list", data := .seq vs.toArray } (.lst (ns.map V.int))) ∨ (b ∈ cs.map (·.2) ∧ u = .tbl #[]) := fun {b u} z => by
      by_cases y : b = a
      · exact .inl ⟨y, (Option.some.inj ((if_pos y).symm.trans z)).symm⟩
      · by_cases y2 : b ∈ cs.map (·.2)
        · exact .inr ⟨y2, (Option.some.inj (((if_neg y).trans (if_pos y2)).symm.trans z)).symm⟩
        · exact nomatch ((if_neg y).trans (if_neg y2)).symm.trans z
    have pT : ∀ p ∈ cs, (fun b => if b = a then some (HO.frz { cls := .type "list", data := .seq vs.toArray } (.lst (ns.map V.int))) else if b ∈ cs.map (·.2) then some (.tbl #[]) else none : Hp) p.2 = some (.tbl #[]) := fun p hp =>
      (if_neg (show ¬ p.2 = a from fun z => aT (by rw [← z]; exact inT p hp))).trans (if_pos (inT p hp))
    refine law_tabs (H := fun b => if b = a then some (HO.frz { cls := .type "list", data := .seq vs.toArray } (.lst (ns.map V.int))) else if b ∈ cs.map (·.2) then some (.tbl #[]) else none) (vs := vs) KX hns hb hbb hlim hg hT C hbm hr F hbind pT (fun b => ?_) (hsp _ pT (.inl (.inr ⟨_, if_pos rfl⟩))) (fun b u z => ?_) (fun b z o e => ?_) (fun b z => ?_)
    · by_cases y : b = a
      · exact .inr (.inr ⟨_, _, if_pos y⟩)
      · by_cases y2 : b ∈ cs.map (·.2)
        · exact .inr (.inl y2)
        · exact .inl ((if_neg y).trans (if_neg y2))
    · rcases Hc z with ⟨rfl, rfl⟩ | ⟨y, rfl⟩
      · exact ⟨ha, by rw [List.length_map]; exact hl, vs, _, rv, ha⟩
      · exact (isT b y).1
    · cases q : (fun b => if b = a then some (HO.frz { cls := .type "list", data := .seq vs.toArray } (.lst (ns.map V.int))) else if b ∈ cs.map (·.2) then some (.tbl #[]) else none : Hp) b with
      | none => exact absurd q z
      | some u =>
        rcases Hc q with ⟨y, _⟩ | ⟨y, _⟩
        · rw [y, ha] at e
          cases e
          exact .inl rfl
        · rw [(isT b y).1] at e
          cases e
          exact .inr rfl
    · cases q : (fun b => if b = a then some (HO.frz { cls := .type "list", data := .seq vs.toArray } (.lst (ns.map V.int))) else if b ∈ cs.map (·.2) then some (.tbl #[]) else none : Hp) b with
      | none => exact absurd q z
      | some u =>
        rcases Hc q with ⟨y, _⟩ | ⟨y, _⟩
        · rw [y]
          exact hk
        · exact (isT b y).2
end
theorem tabIn_of {K : PySem.W.Frag} {nm : Str} {f c P : Addr} {oc lo : Value} {od ld : Option Addr} {fd : FuncData} {sl ls : Array (Option Value)} {lv : Array Value} (a : PySem.W.nsIn K mainGlobals nm = some (some (.ref f))) (l : K.lookup f = some ⟨oc, od, .func fd, sl⟩)
    (tc : K.lookup c = some ⟨lo, ld, .fields lv, ls⟩) (tp : lv[11]? = some (.ref P)) (hc : fd.code = .ref c := by rfl) : PySem.W.tabIn K nm = some (c, P) := by
  unfold PySem.W.tabIn
  rw [a]
  show (match K.lookup f with | some ⟨_, _, .func fd, _⟩ => _ | _ => _) = _
  rw [l]
  show (match fd.code with | .ref c => _ | _ => _) = _
  rw [hc]
  show (match K.lookup c with | some ⟨_, _, .fields vs, _⟩ => _ | _ => _) = _
  rw [tc]
  show (match (lv[11]? : Option Value) with | some (.ref P) => _ | _ => _) = _
  rw [tp]
/-- the start of a law with tables -/
def spLawL (K : PySem.W.Frag) (T : List (Addr × Str)) : Sp := fun vs H Q _ => ∃ (a : Addr) (ns : List Int), vs = [.ref a] ∧ SqL K H a (ns.map V.int) ∧ ns.length ≤ 63 ∧ (∀ p ∈ T, H p.1 = some (.tbl #[])) ∧ ∀ H', Q (.bl true) H'
theorem law_start {H : Hp} {T : List (Addr × Str)} (h : ∀ p ∈ T, H p.1 = some (.tbl #[])) (nd : (T.map (·.1)).Nodup) : NoTbl (strip H) ∧ Wd (strip H) (TabW T (strip H)) H := by
  refine ⟨strip_nt H, fun b o h => of_strip h, fun p hp => ?_, ?_⟩
  · obtain ⟨t, ht, rfl⟩ := tabW_mem hp
    have := h t ht
    refine ⟨?_, _, this, #[], rfl, ?_, fun pos cv hc => nomatch hc⟩
    · show strip H t.1 = none
      unfold strip
      rw [this]
    · exact trivial
  · rw [tabW_map]
    exact nd
theorem st_lam2 {G0 G H : Hp} {T : List (Addr × Str)} {Wr : Wl} {TT : (XK → Hp → VK → Prop) → Hp → VK → Prop} {t : XK → TE} {σ : L2.St} {Q : VK} (w : Wd G (TabW T G0 ++ Wr) H) (e : Same G0 G) (nt : NoTbl G0) (nx : NoX Wr)
    (k : ∀ G1 H1, Same G0 G1 → Same (strip G) G1 → NoTbl G1 → Wd G1 (TabW T G1 ++ Wr) H1 → TT (fun E H' Q' => t E σ H' Q') H1 Q) : tLam T TT t σ H Q :=
  st_lam (w.strip.tabUp (same_strip nt e)) nx (strip_nt G) fun G1 H1 e1 n1 w1 => k G1 H1 ((same_strip nt e).trans e1) e1 n1 w1
theorem walk_L {l : PySem.W.OpenLaw} {n k : Nat} {q : Program} {loose : List Str} {XP : (Str → Option Value) → Heap → Prop} {YP : World → Heap → Prop} {d : DefRec} {K : Params → PySem.W.Frag} {x : Str} {names : List Str} (hn : l.most = some n) (hn2 : n ≤ sizeLine) (hdf : d.params.defaults = [])
    (hr : Room k callerA) (hrec : ∀ nm ∈ names, ((recsOf q).any fun e => e.name == nm) = true) (hY : ∀ (w : World) (h : Heap), YP w h → (K w.params).In h)
    (F : ∀ (w : World) (mg : Str → Option Value) (fa : Addr) (h : Heap), (K w.params).In h → h.Ns mainGlobals mg → mg d.name = some (.ref fa) →
      ∃ (fd : FuncData) (cs : List (Addr × Addr)) (sp : Sp), (∀ (s : Shared) (u : Value), BindsTo s fd ⟨[u], []⟩ [(x, u)]) ∧ (∀ p ∈ cs, (∃ nm ∈ names, PySem.W.tabIn (K w.params) nm = some p) ∧ (K w.params).lookup p.2 = none) ∧
        (∀ (H : Hp) (a : Addr) (ns : List Int), ns.length ≤ n → (∀ p ∈ cs, H p.2 = some (.tbl #[])) → SqL (K w.params) H a (ns.map V.int) → sp [.ref a] H (fun v _ => v = .bl true) fun _ _ _ => False) ∧
        ∀ base : Heap, (K w.params).In base → base.Ns mainGlobals mg → (∀ p ∈ cs, TabB base mg p.1 p.2) → FnG l.prog w (K w.params) mg base k fa fd [x] sp) :
    PySem.W.WalkO q loose XP YP l.row.toRowW d [] (fun f vs => PySem.call f vs) := by
  refine Att.attach_call hn hdf fun w s₀ s₁ mg mb fa o pm cd doc a vs ns G Y ho hd hcd hmg hobj hints hlen hg => ?_
  have KX := hY w _ Y
  obtain ⟨fd, cs, sp, hb, hc, hsp, hF⟩ := F w mg fa _ KX G.T.g hmg
  have hc2 : ∀ p ∈ cs, PySem.W.CodeHd s₁.heap p.1 p.2 ∧ s₁.heap.get? p.2 = some { cls := .none, data := .fields #[] } := fun p hp => by
    obtain ⟨⟨nm, hnm, ht⟩, _⟩ := hc p hp
    obtain ⟨d', hd'⟩ : ∃ d', (recsOf q).find? (fun e => e.name == nm) = some d' := by
      exact Option.isSome_iff_exists.mp (List.find?_isSome.mpr (List.any_eq_true.mp (hrec nm hnm)))
    exact PySem.W.tab_of G.T KX hd' ht
  exact law_callL KX G.T.g G.T.b G.T.builtins G.T.nolimit hg (fun p hp => (hc2 p hp).2) (fun p hp => (hc p hp).2) (fun p hp => (hc2 p hp).1) G.T.bmain hobj hints (Nat.le_trans hlen hn2) hr hF hb (fun H hH hS => hsp H a ns hlen hH hS)
end Z

/-! own classes: truth by __len__, == with anything, != of other signs -/
namespace PySem
theorem zBoolNew {prog : Program} {w : World} (x : Value) : MeetsIn prog w (Builtin.«bool.__new__» ⟨[.type "bool", x], []⟩)
    (fun A R s => wpAny (model prog w) A.in1 (truthy x) (fun b s' => R (.ok (.ret (.bool b))) s') (fun e s' => R (.error e) s') s) :=
  .of_wp fun A R s h => by
    obtain ⟨hp, g, d, tk, os⟩ := s
    have f1 := F.conv_sub_bool
    repeat (any_goals (first | assumption | (with_reducible refine wpAny_bind (wpAny_mono h (fun b s' hb => ?_) fun _ _ e => e)) | wp_step))
    all_goals exact ⟨_, rfl, hb⟩
namespace W
open PySem.Calls PyProof.Rows Builtin
section
variable {prog : Program} {w : World} {A : Around} {E : Value → Shared → Prop} {s : Shared} {K : Frag} {x C L f : Addr} {h0 : Heap} {m : Str → Option Value} {ox : Obj} {od : Option Obj}
theorem zTruthLen {Q : Bool → Shared → Prop} (X : K.In s.heap) (I : InstAt s.heap x ox C od) (hs : findIn K (.ref C) "__bool__" = some none) (hl : findIn K (.ref C) "__len__" = some (some (.ref f))) (hf : isFn K (.ref f) = true)
    (h : wpAny (model prog w) A.in1 (call (.ref f) [.ref x]) (LenBack fun v s' => ∃ n t, v = .int n t ∧ Q (n != 0) s') E s) : wpAny (model prog w) A (truthy (.ref x)) Q E s := by
  unfold truthy
  refine wpAny_bind (m := callSpecial? (.ref x) (Str.ofString "__bool__")) (wpAny_bind (wpAny_bind (I.type.here ((looks_findIn X hs).here (wpAny_pure ?_)))))
  refine wpAny_bind (wpAny_bind (I.type.here ((looks_findIn X hl).here ?_)))
  show wpAny _ _ (if (some (Value.ref f)).isNone = true then _ else _) _ _ _
  rw [if_neg (by simp)]
  refine wpAny_bind (runValue_entry entry_len ?_)
  rw [show A.under (.builtin "len" ⟨[.ref x], []⟩) = A.in1 from Around.under_plainId plain_len _]
  unfold Builtin.«len»
  refine wpAny_bind (m := oneArg "len" _) (wpAny_pure ?_)
  refine wpAny_bind (m := callSpecial? (.ref x) (Str.ofString "__len__")) (special_fn X I hl (beq_iff_eq.mp hf) (wpAny_mono h (fun r s' hr => ?_) fun _ _ y => y))
  cases r <;> first | exact hr.elim | skip
  rename_i n u
  obtain ⟨⟨h1, h2⟩, n', t', e, hq⟩ := hr
  cases e
  refine wpAny_bind (wpAny_holding (wpAny_pure ?_))
  refine wpAny_bind (wpAny_letGo ?_)
  show wpAny _ _ (if n < 0 then _ else _) _ _ _
  rw [if_neg (by omega)]
  show wpAny _ _ (if n ≥ 2 ^ 63 then _ else _) _ _ _
  rw [if_neg (by omega)]
  refine wpAny_bind (wpAny_mkInt (wpAny_pure ⟨_, rfl, ?_⟩))
  exact wpAny_pure hq
end
end W
end PySem

namespace Z
open PySem PySem.Spec PyProof.Rows L2
section
variable {X : Cx} {k : Nat} {f C : Addr} {fd : FuncData} {ps : List Str} {sp : Sp}
/-- the truth of an instance, by its __len__ -/
def rTruO (C : Addr) (sp : Sp) : V → Hp → (Bool → Hp → Prop) → Prop := fun x H Q => ∃ a dx fs, x = .ref a ∧ H a = some (.ins C dx fs) ∧ sp [.ref a] H (fun v H2 => ∃ n : Int, v = .int n ∧ (0 ≤ n ∧ n < 2 ^ 63) ∧ Q (n != 0) H2) E0
theorem run_len {A1 : Around} {E1 : Value → Shared → Prop} {pins : List (Addr × Obj)} {σ : L2.St} {H : Hp} {s : Shared} {a : Addr} {R : Bool → Hp → Prop} {R' : Bool → Shared → Prop} (F : FnOk X.prog X.w X.K X.mg X.base CX0 k f fd ps sp) (hr : Room k A1) (e0 : Env0 X.prog X.w X.K X.mg X.base A1 X.stack s H)
    (hb : Binds X.K fd ps []) (I : Inv X pins σ H s) (q : sp [.ref a] H (fun v H2 => ∃ n : Int, v = .int n ∧ (0 ≤ n ∧ n < 2 ^ 63) ∧ R (n != 0) H2) E0) (hR : ∀ b H2 s2, Inv X pins σ H2 s2 → R b H2 → R' b s2) :
    wpAny (model X.prog X.w) A1 (call (.ref f) [.ref a]) (PySem.W.LenBack fun v s' => ∃ n t, v = .int n t ∧ R' (n != 0) s') E1 s :=
  wpAny_mono (run_own F hr e0 hb I (vals_a a) q) (fun v s' hv => by
    obtain ⟨v', H2, I2, rv, n, rfl, hn, q2⟩ := hv
    obtain ⟨t, rfl⟩ := rv
    exact ⟨hn, n, _, rfl, hR _ _ _ (I2.tok _) q2⟩) fun _ _ y => y
theorem tru_own (hb0 : PySem.W.findIn X.K (.ref C) "__bool__" = some none) (hm : Meth X.K C "__len__" f) (F : FnOk X.prog X.w X.K X.mg X.base CX0 k f fd ps sp) (hr : Room (k + 1) X.A) (hb : Binds X.K fd ps []) : TruR X (rTruO C sp) := by
  intro pins s σ H x v Q I rx h
  obtain ⟨a, dx, fs, rfl, ha, q⟩ := h
  cases rx
  obtain ⟨ox, od, J, _⟩ := StX.insC_at (C := C) I (.inr ⟨dx, fs, ha⟩)
  exact PySem.W.zTruthLen I.kIn J hb0 hm.at_ hm.fn (run_len F hr.in1 I.env0.in1 hb I q fun b H2 s2 I2 q2 => ⟨H2, I2, q2⟩)
/-- bool of an instance -/
def rBoolO (C : Addr) (sp : Sp) : List V → Hp → VK → Prop := fun vs H Q => ∃ x, vs = [x] ∧ rTruO C sp x H fun b H2 => Q (.bl b) H2
theorem call_boolO (hb0 : PySem.W.findIn X.K (.ref C) "__bool__" = some none) (hm : Meth X.K C "__len__" f) (F : FnOk X.prog X.w X.K X.mg X.base CX0 k f fd ps sp) (hr : Room (k + 1 + 1 + 1) X.A) (hb : Binds X.K fd ps []) : CallR X (.type "bool") (rBoolO C sp) := by
  intro pins s σ H vs us Q I r h
  obtain ⟨x, rfl, a, dx, fs, rfl, ha, q⟩ := h
  rw [Vals.ref1 r]
  obtain ⟨ox, od, J, _⟩ := StX.insC_at (C := C) I (.inr ⟨dx, fs, ha⟩)
  refine callType_newIn PySem.F.called_bool PySem.F.newNe_bool (PySem.F.typeCall_bool_1 _) (PySem.F.newCall_bool_1 _) (fun obj => PySem.F.args_object_init_2 obj _) PySem.F.entry_bool_new (PySem.zBoolNew (.ref a)) ?_
  refine wpAny_mono (PySem.W.zTruthLen (Q := fun b s2 => ∃ H2, Inv X pins σ H2 s2 ∧ Q (.bl b) H2) I.kIn J hb0 hm.at_ hm.fn (run_len (a := a) (R' := fun b s2 => ∃ H2, Inv X pins σ H2 s2 ∧ Q (.bl b) H2) F hr.in1.in1.in1 I.env0.in1.in1.in1 hb I q fun b H2 s2 I2 q2 => ⟨H2, I2, q2⟩)) (fun b s2 hb => ?_) (fun e s2 he => he)
  obtain ⟨H2, I2, q2⟩ := hb
  exact ⟨PySem.typeIs_bool _ _, .bl b, H2, I2, rfl, q2⟩
theorem pe_notR {a : Expr} {ta : TE} {r : V → Hp → (Bool → Hp → Prop) → Prop} {pos : Pos} (ha : PE X a ta) (hr : TruR X r) : PE X (.UnaryOp .Not a pos) (fun σ H Q => ta σ H fun x H1 => r x H1 fun b H2 => Q (.bl (!b)) H2) := by
  refine ⟨fun pins s σ H Q I h => ?_⟩
  refine UnaryOp_ (thn (ha.run pins s σ H _ I h) fun v s1 ⟨x, H1, I1, r1, q1⟩ => ?_)
  refine not_of (wpAny_mono (hr pins s1 σ H1 x v _ I1 r1 q1) (fun b s2 hb => ?_) fun _ _ y => y)
  obtain ⟨H2, I2, q2⟩ := hb
  exact ⟨.bl (!b), H2, I2, rfl, q2⟩
/-- a == y, a an instance of C -/
inductive Oth (K : PySem.W.Frag) (H : Hp) : V → Prop
  | int (i : Int) : Oth K H (.int i)
  | bl (b : Bool) : Oth K H (.bl b)
  | non : Oth K H .non
  | str (x : Str) : Oth K H (.str x)
  | lst {a : Addr} {xs : List V} (h : SqL K H a xs) : Oth K H (.ref a)
  | tup {a : Addr} {xs : List V} (h : SqT K H a xs) : Oth K H (.ref a)
def rEqX (K : PySem.W.Frag) (C : Addr) (sp : Sp) : R2 := fun x y H Q => ∃ a dx fs, x = .ref a ∧ H a = some (.ins C dx fs) ∧ Oth K H y ∧ sp [.ref a, y] H (fun v H2 => ∃ c, v = .bl c ∧ Q (.bl c) H2) E0
theorem oth_looks {pins : List (Addr × Obj)} {σ : L2.St} {H : Hp} {s : Shared} {y : V} {u : Value} (I : Inv X pins σ H s) (ry : RelV y u) (h : Oth X.K H y) (C : Addr) : ∃ t, PySem.W.Looks (model X.prog X.w) s.heap (typeOf u) t ∧ PySem.W.notFirst X.K C t = true := by
  have nf : ∀ n : String, (n = "int" ∨ n = "bool" ∨ n = "NoneType" ∨ n = "str" ∨ n = "list" ∨ n = "tuple") → PySem.W.notFirst X.K C (.type n) = true := fun n hn => by
    have : PySem.W.subIn X.K (.type n) (.ref C) = some false := by
      rcases hn with rfl | rfl | rfl | rfl | rfl | rfl <;> rfl
    unfold PySem.W.notFirst
    rw [this]
    rfl
  have at_ : ∀ {a : Addr} {o : Obj} {n : String}, s.heap.get? a = some o → o.cls = .type n → PySem.W.Looks (model X.prog X.w) s.heap (typeOf (.ref a)) (.type n) := fun {a o n} ho hc A Q E s k q => wpAny_typeOf_ref (k _ _ ho) (by rw [hc]; exact q)
  cases h with
  | int i =>
    obtain ⟨t, rfl⟩ := ry
    exact ⟨_, PySem.W.Looks.of_pure rfl, nf "int" (by simp)⟩
  | bl b =>
    cases ry
    exact ⟨_, PySem.W.Looks.of_pure rfl, nf "bool" (by simp)⟩
  | non =>
    cases ry
    exact ⟨_, PySem.W.Looks.of_pure rfl, nf "NoneType" (by simp)⟩
  | str x =>
    obtain ⟨t, rfl⟩ := ry
    exact ⟨_, PySem.W.Looks.of_pure rfl, nf "str" (by simp)⟩
  | lst h =>
    cases ry
    obtain ⟨its, _, pl, _⟩ := I.list h
    obtain ⟨o, ho, hc, _⟩ := pl.isList
    exact ⟨_, at_ ho hc, nf "list" (by simp)⟩
  | tup h =>
    cases ry
    obtain ⟨its, _, ⟨o, ho, hc, _⟩, _⟩ := I.tuple h
    exact ⟨_, at_ ho hc, nf "tuple" (by simp)⟩
theorem op_eqX (hm : Meth X.K C "__eq__" f) (F : FnOk X.prog X.w X.K X.mg X.base CX0 k f fd ps sp) (hr : Room k X.A) (hb : Binds X.K fd ps []) : OpR X (compareOp .Eq) (rEqX X.K C sp) := by
  intro pins s σ H x y v u Q I rx ry h
  obtain ⟨a, dx, fs, rfl, ha, ho, q⟩ := h
  cases rx
  obtain ⟨m, hF⟩ := I.fr
  obtain ⟨ox, od, J, _⟩ := StX.insC_at (C := C) I (.inr ⟨dx, fs, ha⟩)
  obtain ⟨t, ht, hn⟩ := oth_looks I ry ho C
  refine show wpAny _ _ (richCompare .Eq _ _) _ _ _ from PySem.W.cmp_K (op := .Eq) (tb := t) hr.units0 hF I.ok.mod.kin J ht hn hm.at_ hm.fn (wpAny_mono (run_own F hr I.env0 hb I (show Vals [V.ref a, y] [Value.ref a, u] from .cons rfl (.cons ry .nil)) q) (fun v s' hv => ?_) fun _ _ y => y)
  obtain ⟨v', H2, I2, rv, c, rfl, q2⟩ := hv
  cases rv
  exact ⟨V.bl c, H2, I2, rfl, q2⟩
theorem kit_own {K : PySem.W.Frag} {C : Addr} : PySem.W.kitOne K (.ref C) (.ref C) = some true := by
  unfold PySem.W.kitOne
  rw [if_pos (beq_self_eq_true _)]
/-- an own class, by itself not a metaclass's -/
structure PlainC (K : PySem.W.Frag) (C : Addr) : Prop where
  cls : (PySem.W.clsIn K C).isSome = true
  typ : PySem.W.typeIn K (.ref C) = some (.type "type")
theorem PlainC.no {K : PySem.W.Frag} {C : Addr} (p : PlainC K C) {n : String} (h : PySem.W.subIn K (.type n) (.ref C) = some false) : PySem.W.kitOne K (.type n) (.ref C) = some false := by
  unfold PySem.W.kitOne
  rw [show ((Value.type n) == (Value.ref C)) = false from rfl]
  show PySem.W.kitCls K (.type n) (.ref C) = some false
  unfold PySem.W.kitCls
  show (if ((PySem.W.clsIn K C).isSome && PySem.W.typeIn K (.ref C) == some (.type "type")) = true then _ else none) = some false
  rw [if_pos (by rw [p.cls, p.typ]; rfl)]
  exact h
theorem oth_ty {K : PySem.W.Frag} {H : Hp} {y : V} (h : Oth K H y) (C : Addr) : ∃ n, TyX K H y (.type n) ∧ PySem.W.subIn K (.type n) (.ref C) = some false := by
  cases h with
  | int i => exact ⟨"int", .base (.int i), rfl⟩
  | bl b => exact ⟨"bool", .base (.bl b), rfl⟩
  | non => exact ⟨"NoneType", .base .non, rfl⟩
  | str s => exact ⟨"str", .base (.str s), rfl⟩
  | lst h => exact ⟨"list", tyL h, rfl⟩
  | tup h => exact ⟨"tuple", tyT h, rfl⟩
/-- what == != + of instances, their truth and isinstance ask of the class -/
structure EqC (K : PySem.W.Frag) (C : Addr) : Prop where
  ca : PySem.W.findIn K (.ref C) "__class__" = some (some (.builtin "object.__class__"))
  cn : PySem.W.specialIn K (.builtin "object.__class__") "__get__" = some (some (.builtin "getset_descriptor.__get__"))
  ct : PySem.W.takesIn K (.builtin "object.__class__") = some true
  mr : PySem.W.mroIn K C (.type "object") = some true
  ne : PySem.W.findIn K (.ref C) "__ne__" = some (some (.builtin "object.__ne__"))
  b0 : PySem.W.findIn K (.ref C) "__bool__" = some none
  sf : PySem.W.selfFirst K C = true
  pc : PlainC K C
theorem EqC.nec {K : PySem.W.Frag} {C : Addr} (h : EqC K C) : NeC K C := ⟨h.ne, h.mr⟩
theorem EqC.ty {K : PySem.W.Frag} {C : Addr} (h : EqC K C) (cl : Cls K C) {H : Hp} {a dx : Addr} {fs : List (Str × V)} (e : H a = some (.ins C dx fs)) : TyX K H (.ref a) (.ref C) := .base (.ins e cl h.ca h.cn h.ct h.mr)
end
end Z

/-! sorted(list of data) -/
namespace Z
open PySem PySem.Spec PyProof.Rows L2
open PySem.W (AllAlike Sortable dataLe EachIs)
section
variable {X : Cx} {k : Nat}
def zipD (xs : List V) (ds : List PyData) : List (V × PyData) := xs.zip ds
/-- sorted(xs), xs a list of data that are alike -/
def rSortD (K : PySem.W.Frag) : List V → Hp → VK → Prop := fun vs H Q => ∃ (a : Addr) (xs : List V) (ds : List PyData), vs = [.ref a] ∧ SqL K H a xs ∧ DpAll K H xs ds ∧ AllAlike ds ∧ Sortable ds ∧ (∀ d ∈ ds, d.depth ≤ 30) ∧ xs.length ≤ 1000000 ∧
  ∀ p, H p = none → Q (.ref p) (upd H p (.lst (((zipD xs ds).mergeSort (dataLe false (·.2))).map (·.1))))
theorem zipD_snd {H : Hp} {K : PySem.W.Frag} : ∀ {xs : List V} {ds : List PyData}, DpAll K H xs ds → (zipD xs ds).map (·.2) = ds
  | _, _, .nil => rfl
  | _, _, .cons _ t => by
    show _ :: (zipD _ _).map (·.2) = _
    rw [zipD_snd t]
theorem zipD_fst {H : Hp} {K : PySem.W.Frag} : ∀ {xs : List V} {ds : List PyData}, DpAll K H xs ds → (zipD xs ds).map (·.1) = xs
  | _, _, .nil => rfl
  | _, _, .cons _ t => by
    show _ :: (zipD _ _).map (·.1) = _
    rw [zipD_fst t]
theorem each_rel {H : Hp} {K : PySem.W.Frag} : ∀ {xs : List V} {ds : List PyData} {vs : List Value}, DpAll K H xs ds → Vals xs vs → EachIs (fun v (b : V × PyData) => RelV b.1 v) vs (zipD xs ds)
  | _, _, _, .nil, .nil => .nil
  | _, _, _, .cons _ t, .cons r rs => .cons r (each_rel t rs)
theorem each_reads {pins : List (Addr × Obj)} {σ : L2.St} {H : Hp} {s : Shared} (I : Inv X pins σ H s) : ∀ {xs : List V} {ds : List PyData} {vs : List Value}, DpAll X.K H xs ds → Vals xs vs → EachIs (fun v (b : V × PyData) => ∃ as, Reads s.heap v b.2 as) vs (zipD xs ds)
  | _, _, _, .nil, .nil => .nil
  | _, _, _, .cons h t, .cons r rs => .cons (Dp.reads I _ _ _ h r) (each_reads I t rs)
theorem vals_each : ∀ {vs : List Value} {bs : List (V × PyData)}, EachIs (fun v (b : V × PyData) => RelV b.1 v) vs bs → Vals (bs.map (·.1)) vs
  | _, _, .nil => .nil
  | _, _, .cons h t => .cons h (vals_each t)
theorem cr_sortedD (hr : Room k X.A) : CallR X (.builtin "sorted") (rSortD X.K) := by
  intro pins s σ H vs us Q I r h
  obtain ⟨a, xs, ds, rfl, hs, hd, hal, hk, hdp, hz, q⟩ := h
  obtain ⟨its, rv, hl, _⟩ := I.list hs
  obtain ⟨u, rfl, ru⟩ := vals1 r
  obtain rfl : u = Value.ref a := ru
  have hu := hr.units
  have hsn := zipD_snd hd
  refine PySem.W.sorted_data (bs := zipD xs ds) (enc := (·.2)) hl.isList (each_rel hd rv) (each_reads I hd rv) (by rw [hsn]; exact hal) (by rw [hsn]; exact hk) ?_ (fun b hb => ?_) fun out hlen he => ?_
  · have : (zipD xs ds).length = xs.length := by rw [← List.length_map (f := (·.1)), zipD_fst hd]
    rw [this]
    exact small hz
  · have := hdp b.2 (by rw [← hsn]; exact List.mem_map.mpr ⟨b, hb, rfl⟩)
    omega
  · have ho : (((zipD xs ds).mergeSort (dataLe false (·.2))).map (·.1)).length ≤ sizeLine := by
      rw [List.length_map, List.length_mergeSort]
      have : (zipD xs ds).length = xs.length := by rw [← List.length_map (f := (·.1)), zipD_fst hd]
      rw [this]
      exact small hz
    obtain ⟨n, hn⟩ := PyProof.Rows.sortedAll_at s.heap its out.toArray
    exact ⟨.ref (s.heap.objs.size + 1), _, I.laid (t' := s.toks) (o := .lst _) (fun b o e => PyProof.Rows.sortedAll_old e) (Nat.le_succ _) ⟨ho, out, n, vals_each he, hn⟩, rfl, q _ (I.hok.fresh (Nat.le_succ _))⟩
end
end Z

/-! xs[::2], xs[1::2]; xs[i] op= y; comprehensions over lists, enumerate and zip with nested targets; mergeSort, one list alone -/
namespace Z
open PySem PySem.Spec PyProof.Rows L2
/-! ### every second one -/
def evO {α : Type} (o : Nat) (d : α) (xs : List α) : List α := (List.range ((xs.length + 1 - o) / 2)).map fun k => xs.getD (o + 2 * k) d
theorem evO_len {α : Type} {o : Nat} {d : α} {xs : List α} : (evO o d xs).length = (xs.length + 1 - o) / 2 := by
  unfold evO
  rw [List.length_map, List.length_range]
theorem evO_at {α : Type} {o i : Nat} {d x : α} {xs : List α} (h : xs[o + 2 * i]? = some x) : (evO o d xs)[i]? = some x := by
  have hlt := (List.getElem?_eq_some_iff.mp h).1
  unfold evO
  rw [List.getElem?_map, List.getElem?_range (by omega)]
  show some (xs.getD (o + 2 * i) d) = some x
  rw [List.getD_eq_getElem?_getD, h]
  rfl
theorem evO_of {α : Type} {o i : Nat} {d x : α} {xs : List α} (h : (evO o d xs)[i]? = some x) : o + 2 * i < xs.length ∧ xs[o + 2 * i]? = some x := by
  have hlt := (List.getElem?_eq_some_iff.mp h).1
  rw [evO_len] at hlt
  have h2 : o + 2 * i < xs.length := by omega
  refine ⟨h2, ?_⟩
  have := evO_at (d := d) (List.getElem?_eq_getElem h2)
  rw [h] at this
  rw [List.getElem?_eq_getElem h2]
  exact this.symm
theorem filterMap_getD {α : Type} {xs : List α} {d : α} : ∀ {js : List Nat}, (∀ j ∈ js, j < xs.length) → js.filterMap (xs[·]?) = js.map fun j => xs.getD j d
  | [], _ => rfl
  | j :: js, h => by
    have hj := h j List.mem_cons_self
    rw [List.filterMap_cons, List.map_cons, filterMap_getD fun j hj => h j (List.mem_cons_of_mem _ hj)]
    rw [List.getD_eq_getElem?_getD, List.getElem?_eq_getElem hj]
    rfl
theorem range2 (o n : Nat) (ho : o ≤ n) : sliceRange (o : Int) (n : Int) 2 = (List.range ((n + 1 - o) / 2)).map fun k => o + 2 * k := by
  unfold sliceRange
  by_cases h : (o : Int) < n
  · have e : ((n : Int) - o + 2 - 1) / 2 = (((n + 1 - o) / 2 : Nat) : Int) := by omega
    simp only [show (2 : Int) > 0 by decide, if_true, h, e, Int.toNat_natCast]
    apply List.map_congr_left
    intro k _
    omega
  · have e : (n + 1 - o) / 2 = 0 := by omega
    simp [h, e]
theorem pick2 (items : Array Value) (o : Nat) (lo : Option Int) (ho : o ≤ items.size) (hb : sliceBounds lo none (some 2) items.size = ((o : Int), (items.size : Int), 2)) : slicePick items lo none (some 2) = (evO o Value.none items.toList).toArray := by
  unfold slicePick
  rw [hb]
  show ((sliceRange (o : Int) (items.size : Int) 2).filterMap (items[·]?)).toArray = _
  rw [range2 _ _ ho]
  have e : (fun j : Nat => items[j]?) = (items.toList[·]?) := by
    funext j
    rw [Array.getElem?_toList]
  rw [e, filterMap_getD (d := Value.none) fun j hj => by
    obtain ⟨k, hk, rfl⟩ := List.mem_map.mp hj
    have := List.mem_range.mp hk
    rw [Array.length_toList]
    omega]
  unfold evO
  rw [List.map_map, Array.length_toList]
  rfl
theorem vals_evO {xs : List V} {us : List Value} (r : Vals xs us) (o : Nat) : Vals (evO o V.non xs) (evO o Value.none us) := by
  have hl := r.length
  unfold evO
  rw [← hl]
  have go : ∀ js : List Nat, (∀ k ∈ js, o + 2 * k < xs.length) → Vals (js.map fun k => xs.getD (o + 2 * k) V.non) (js.map fun k => us.getD (o + 2 * k) Value.none) := by
    intro js
    induction js with
    | nil => exact fun _ => .nil
    | cons k js ih =>
      intro h
      have hk := h k List.mem_cons_self
      obtain ⟨u, hu, rv⟩ := r.get (List.getElem?_eq_getElem hk)
      rw [List.map_cons, List.map_cons]
      refine .cons ?_ (ih fun k hk => h k (List.mem_cons_of_mem _ hk))
      rw [List.getD_eq_getElem?_getD, List.getElem?_eq_getElem hk, List.getD_eq_getElem?_getD, hu]
      exact rv
  exact go _ fun k hk => by
    have := List.mem_range.mp hk
    omega
section
variable {X : Cx}
def tEv (K : PySem.W.Frag) (o : Nat) (te : TE) : TE := fun σ H Q => te σ H fun x H1 => ∃ a xs, x = .ref a ∧ SqL K H1 a xs ∧ o ≤ xs.length ∧ ∀ p, H1 p = none → Q (.ref p) (upd H1 p (.lst (evO o V.non xs)))
theorem pe_ev0 {e : Expr} {te : TE} {k : Nat} {p1 p3 pos : Pos} (he : PE X e te) : PE X (.Subscript e (.Slice none none (some (.Constant (.int 2) k p1)) p3) pos) (tEv X.K 0 te) := by
  refine ⟨fun pins s σ H Q I h => ?_⟩
  refine Subscript_ (thn (he.run pins s σ H _ I h) fun v s1 ⟨x, H1, I1, r1, q1⟩ => ?_)
  obtain ⟨a, xs, ex, hx, ho, q⟩ := q1
  subst ex
  cases r1
  have hst : PO X (some (.Constant (.int 2) k p1)) (tPart (tC (.int 2))) := po_some pe_int
  refine wpAny_Slice (thn (po_none.run pins s1 σ H1 (fun o H2 => o = none ∧ H2 = H1) I1 ⟨rfl, rfl⟩) fun vl s2 ⟨l, H2, I2, pl, el, e2⟩ => ?_)
  subst el e2
  refine thn (po_none.run pins s2 σ H2 (fun o H3 => o = none ∧ H3 = H2) I2 ⟨rfl, rfl⟩) fun vu s3 ⟨u, H3, I3, pu, eu, e3⟩ => ?_
  subst eu e3
  refine thn (hst.run pins s3 σ H3 (fun o H4 => o = some 2 ∧ H4 = H3) I3 ⟨2, rfl, rfl, rfl⟩) fun vs s4 ⟨o, H4, I4, ps, eo, e4⟩ => ?_
  subst eo e4
  have I5 : Inv X pins σ H4 { s4 with heap := s4.heap.push { cls := .type "slice", data := .fields #[vl, vu, vs] } } := I4.kept (t' := s4.toks) fun b ob q => Heap.get?_push_of_some _ q
  obtain ⟨its, r, ht, hz⟩ := I5.list hx
  have hlen := r.length
  show wpAny (model X.prog X.w) X.A (subscriptTail e (.Slice none none (some (.Constant (.int 2) k p1)) p3) (.ref a) (.ref s4.heap.objs.size)) (EP X pins σ Q) X.xe { s4 with heap := s4.heap.push { cls := .type "slice", data := .fields #[vl, vu, vs] } }
  refine tail_any (ops := [.ref a, .ref s4.heap.objs.size]) ht.isList.typeIs (PySem.slot_list_getitem.lookup) ?_ (by with_unfolding_all rfl)
  refine wpAny_getItem_list_slice ht.isList (Heap.IsSliceOf.new _ vl vu vs) pl pu ps (by decide) ?_ (by rw [List.size_toArray]; omega)
  rw [pick2 _ 0 none (Nat.zero_le _) (by rfl)]
  refine ⟨.ref _, _, I5.laid (t' := s4.toks) (o := .lst (evO 0 V.non xs)) (fun b ob q => Heap.get?_push_of_some _ q) (Nat.le_refl _) ?_, rfl, q _ (I5.hok.fresh (Nat.le_refl _))⟩
  exact ⟨by rw [evO_len]; omega, _, 0, vals_evO r 0, Heap.get?_push_size _ rfl⟩
theorem pe_ev1 {e : Expr} {te : TE} {k k2 : Nat} {p1 p2 p3 pos : Pos} (he : PE X e te) : PE X (.Subscript e (.Slice (some (.Constant (.int 1) k2 p2)) none (some (.Constant (.int 2) k p1)) p3) pos) (tEv X.K 1 te) := by
  refine ⟨fun pins s σ H Q I h => ?_⟩
  refine Subscript_ (thn (he.run pins s σ H _ I h) fun v s1 ⟨x, H1, I1, r1, q1⟩ => ?_)
  obtain ⟨a, xs, ex, hx, ho, q⟩ := q1
  subst ex
  cases r1
  have hst : PO X (some (.Constant (.int 2) k p1)) (tPart (tC (.int 2))) := po_some pe_int
  have hlo : PO X (some (.Constant (.int 1) k2 p2)) (tPart (tC (.int 1))) := po_some pe_int
  refine wpAny_Slice (thn (hlo.run pins s1 σ H1 (fun o H2 => o = some 1 ∧ H2 = H1) I1 ⟨1, rfl, rfl, rfl⟩) fun vl s2 ⟨l, H2, I2, pl, el, e2⟩ => ?_)
  subst el e2
  refine thn (po_none.run pins s2 σ H2 (fun o H3 => o = none ∧ H3 = H2) I2 ⟨rfl, rfl⟩) fun vu s3 ⟨u, H3, I3, pu, eu, e3⟩ => ?_
  subst eu e3
  refine thn (hst.run pins s3 σ H3 (fun o H4 => o = some 2 ∧ H4 = H3) I3 ⟨2, rfl, rfl, rfl⟩) fun vs s4 ⟨o, H4, I4, ps, eo, e4⟩ => ?_
  subst eo e4
  have I5 : Inv X pins σ H4 { s4 with heap := s4.heap.push { cls := .type "slice", data := .fields #[vl, vu, vs] } } := I4.kept (t' := s4.toks) fun b ob q => Heap.get?_push_of_some _ q
  obtain ⟨its, r, ht, hz⟩ := I5.list hx
  have hlen := r.length
  show wpAny (model X.prog X.w) X.A (subscriptTail e (.Slice (some (.Constant (.int 1) k2 p2)) none (some (.Constant (.int 2) k p1)) p3) (.ref a) (.ref s4.heap.objs.size)) (EP X pins σ Q) X.xe { s4 with heap := s4.heap.push { cls := .type "slice", data := .fields #[vl, vu, vs] } }
  refine tail_any (ops := [.ref a, .ref s4.heap.objs.size]) ht.isList.typeIs (PySem.slot_list_getitem.lookup) ?_ (by with_unfolding_all rfl)
  refine wpAny_getItem_list_slice ht.isList (Heap.IsSliceOf.new _ vl vu vs) pl pu ps (by decide) ?_ (by rw [List.size_toArray]; omega)
  have hsz : (1 : Int) ≤ its.toArray.size := by rw [List.size_toArray]; omega
  rw [pick2 _ 1 (some 1) (by omega) (by
    unfold sliceBounds
    simp only [Option.getD_some]
    have h1 : ¬ ((1 : Int) < 0) := by decide
    simp only [h1, if_false, show (2 : Int) > 0 by decide, if_true]
    congr 1
    omega)]
  refine ⟨.ref _, _, I5.laid (t' := s4.toks) (o := .lst (evO 1 V.non xs)) (fun b ob q => Heap.get?_push_of_some _ q) (Nat.le_refl _) ?_, rfl, q _ (I5.hok.fresh (Nat.le_refl _))⟩
  exact ⟨by rw [evO_len]; omega, _, 0, vals_evO r 1, Heap.get?_push_size _ rfl⟩
/-- xs[i], by values -/
theorem pget_list : PGet X (fun x y H Q => ∃ p xs i z, x = .ref p ∧ y = .int i ∧ 0 ≤ i ∧ SqL X.K H p xs ∧ atI xs i = some z ∧ Q z H) := by
  intro pins s σ H x y v u Q I rx ry h
  obtain ⟨p, xs, i, z, rfl, rfl, h0, hq, he, q⟩ := h
  cases rx
  obtain ⟨t, rfl⟩ := ry
  obtain ⟨its, r, pl, hz⟩ := I.list hq
  obtain ⟨j, h1, h2, h3, h4, h5⟩ := atI_get he
  obtain ⟨w, ew, rw'⟩ := r.get h2
  have hl := r.length
  have hn := line63
  have fin : EP X pins σ Q w s := ⟨z, H, I, rw', q⟩
  have hj : i.toNat = j := by
    rw [seqIndex_of h0 h5] at h1
    exact Option.some.inj h1
  exact wpAny_getItem_list (x := w) pl.isList h0 (by omega) (by rw [hj]; simpa using ew) fin
theorem ip_ext : PIp X .Add rExt2 := fun pins s σ H x y v u Q I rx ry h => iop_ext pins s σ H x y v u Q I rx ry h
end
/-! ### comprehensions, any target -/
section
variable {K : PySem.W.Frag} {σ : L2.St} {H G : Hp} {W : Wl} {g : TG} {tt : TT} {te : TE} {vs : List Nat} {Q : VK} {a b : Addr} {xs ys : List V}
/-- what one turn has to do -/
def LcT (I : Nat → List V → Hp → Prop) (G : Hp) (W : Wl) (g : TG) (tt : TT) (te : TE) (vs : List Nat) (σ : L2.St) (D : Addr) (i : Nat) (x : V) (H' : Hp) : Prop :=
  g x (wipe σ vs) H' fun σ2 H2 => wipe σ2 vs = wipe σ vs ∧ tt σ2 H2 fun b H3 => if b = true then te σ2 H3 fun y H4 => ∃ acc, H4 D = some (.lst acc) ∧ acc.length < sizeLine ∧ LcB I G W D (i + 1) (upd H4 D (.lst (acc ++ [y]))) else LcB I G W D (i + 1) H3
theorem lc_lG (hx : SqL K G a xs) (I : Nat → List V → Hp → Prop) (w : Wd G W H) (h0 : I 0 [] G)
    (hs : ∀ (i : Nat) x D G' H' acc, xs[i]? = some x → Same G G' → Wd G' ((D, Is (.lst acc)) :: W) H' → I i acc G' → LcT I G W g tt te vs σ D i x H')
    (hd : ∀ D G' H' acc, Same G G' → Wd G' ((D, Is (.lst acc)) :: W) H' → I xs.length acc G' → Q (.ref D) H') : ∃ a', V.ref a = .ref a' ∧ (∃ xs, SqL K H a' xs) ∧ LcQ (Itl K a') g tt te vs σ H Q :=
  ⟨a, rfl, ⟨xs, seq_up w hx⟩, lc_go walk_list I w (fun _ _ _ e w' => seq_up w' (e.seq hx)) h0 (fun i x D G' H' H'' acc _ e w' h y => by
    obtain ⟨rfl, y⟩ := y
    exact hs i x D G' H'' acc y e w' h) hd⟩
/-- over enumerate; the pair's tuple stands for good -/
theorem lc_enumG (hx : SqL K G a xs ∨ SqT K G a xs) (I : Nat → List V → Hp → Prop) (w : Wd G W H) (h0 : I 0 [] G)
    (hs : ∀ (i : Nat) x T D G' G'' H' acc, xs[i]? = some x → Same G G' → I i acc G' → Same G' G'' → Wd G'' ((D, Is (.lst acc)) :: W) H' → G'' T = some (.tup [.int (i : Int), x]) → LcT I G W g tt te vs σ D i (.ref T) H')
    (hd : ∀ D G' H' acc, Same G G' → Wd G' ((D, Is (.lst acc)) :: W) H' → I xs.length acc G' → Q (.ref D) H') :
    ∃ a' ys, [V.ref a] = [.ref a'] ∧ ((SqL K H a' ys ∧ LcQ (Ite K a') g tt te vs σ H Q) ∨ (SqT K H a' ys ∧ LcQ (IteT K a') g tt te vs σ H Q)) := by
  have step : ∀ (i : Nat) (x : V) (D : Addr) (G' H' H'' : Hp) (acc : List V), i < xs.length → Same G G' → Wd G' ((D, Is (.lst acc)) :: W) H' → I i acc G' → YPair (fun i => some (.int (i : Nat))) (fun i => xs[i]?) i H' x H'' → LcT I G W g tt te vs σ D i x H'' := fun i x D G' H' H'' acc _ e w' h y => by
    obtain ⟨T, x1, x2, rfl, hn, rfl, e1, e2⟩ := y
    cases e1
    exact hs i x2 T D G' _ _ acc e2 e h (same_upd (w'.free hn)) (w'.new hn) upd_same
  rcases hx with hx | hx
  · exact ⟨a, xs, rfl, .inl ⟨seq_up w hx, lc_go walk_enum I w (fun _ _ _ e w' => seq_up w' (e.seq hx)) h0 step hd⟩⟩
  · exact ⟨a, xs, rfl, .inr ⟨tup_up w hx, lc_go walk_enumT I w (fun _ _ _ e w' => tup_up w' (seqT e hx)) h0 step hd⟩⟩
theorem lc_zipG (hx : SqL K G a xs) (hy : SqL K G b ys) (I : Nat → List V → Hp → Prop) (w : Wd G W H) (h0 : I 0 [] G)
    (hs : ∀ (i : Nat) x y T D G' G'' H' acc, xs[i]? = some x → ys[i]? = some y → Same G G' → I i acc G' → Same G' G'' → Wd G'' ((D, Is (.lst acc)) :: W) H' → G'' T = some (.tup [x, y]) → LcT I G W g tt te vs σ D i (.ref T) H')
    (hd : ∀ D G' H' acc, Same G G' → Wd G' ((D, Is (.lst acc)) :: W) H' → I (min xs.length ys.length) acc G' → Q (.ref D) H') :
    ∃ a' b' xs ys, [V.ref a, V.ref b] = [.ref a', .ref b'] ∧ SqL K H a' xs ∧ SqL K H b' ys ∧ LcQ (Itz K a' b') g tt te vs σ H Q :=
  ⟨a, b, xs, ys, rfl, seq_up w hx, seq_up w hy, lc_go (walk_zip (xs := xs) (ys := ys) rfl) I w (fun _ _ _ e w' => ⟨seq_up w' (e.seq hx), seq_up w' (e.seq hy)⟩) h0 (fun i x D G' H' H'' acc _ e w' h y => by
    obtain ⟨T, x1, x2, rfl, hn, rfl, e1, e2⟩ := y
    exact hs i x1 x2 T D G' _ _ acc e1 e2 e h (same_upd (w'.free hn)) (w'.new hn) upd_same) hd⟩
end
/-! ### sorted lists, one alone -/
theorem sorted_one {α : Type} {le : α → α → Prop} : ∀ {l m : List α}, l.Perm m → (∀ x ∈ l, ∀ y ∈ l, le x y → le y x → x = y) → l.Pairwise le → m.Pairwise le → l = m
  | [], m, h, _, _, _ => (List.Perm.eq_nil h.symm).symm
  | x :: l, [], h, _, _, _ => absurd h.length_eq (by simp)
  | x :: l, y :: m, h, ha, hl, hm => by
    have hx : x ∈ y :: m := h.mem_iff.mp List.mem_cons_self
    have hy : y ∈ x :: l := h.mem_iff.mpr List.mem_cons_self
    have e : x = y := by
      rcases List.mem_cons.mp hx with e | hx
      · exact e
      · rcases List.mem_cons.mp hy with e | hy
        · exact e.symm
        · exact ha x List.mem_cons_self y (List.mem_cons_of_mem _ hy) ((List.pairwise_cons.mp hl).1 y hy) ((List.pairwise_cons.mp hm).1 x hx)
    subst e
    rw [sorted_one h.cons_inv (fun a ha1 b hb1 => ha a (List.mem_cons_of_mem _ ha1) b (List.mem_cons_of_mem _ hb1)) (List.pairwise_cons.mp hl).2 (List.pairwise_cons.mp hm).2]
end Z

/-! a dict with tuple keys while a loop walks it; get with two; sorted from above -/
namespace Z
open PySem PySem.Spec PyProof.Rows L2
section
variable {K : PySem.W.Frag} {σ : L2.St} {H G : Hp} {W : Wl} {g : TG} {tb : TS} {nx : L2.St → Hp → Prop} {rt : VK} {Q : VK} {n : Nat}
/-- a loop whose walked thing may be among what changes -/
theorem loop_goI {J : It} {Gp : Hp → Prop} {Y : Nat → Hp → V → Hp → Prop} (wk : Walk J n Gp Y) (I : Nat → L2.St → Hp → Wl → Prop) (w : Wd G W H) (hG : ∀ i σ' G' W' H', Same G G' → Wd G' W' H' → I i σ' G' W' → Gp H') (h0 : I 0 σ G W)
    (hs : ∀ i x σ' G' W' H' H'', i < n → Same G G' → Wd G' W' H' → I i σ' G' W' → Y i H' x H'' → g x σ' H'' fun σ2 H2 => tb ⟨Btw I G (i + 1), rt, nx, Btw I G (i + 1)⟩ σ2 H2)
    (hd : ∀ σ' G' W' H', Same G G' → Wd G' W' H' → I n σ' G' W' → nx σ' H') : LoopQ J g tb nx rt σ H :=
  for_it (D := ⟨nx, rt, nx, nx⟩) wk (Btw I G) ⟨G, W, Same.refl _, w, h0⟩ (fun _ _ _ _ ⟨_, _, e, w', h⟩ => hG _ _ _ _ _ e w' h) (fun i x σ' H' H'' hi ⟨G', W', e, w', h⟩ y => hs i x σ' G' W' H' H'' hi e w' h y) fun σ' H' ⟨G', W', e, w', h⟩ => hd σ' G' W' H' e w' h
/-- for k in a dict with tuple keys -/
theorem for_keysT {kvs : List (List Key × V)} {d : Addr} {od : Obj} (I : Nat → L2.St → Hp → Wl → Prop) (w : Wd G W H) (hI : ∀ i σ' G' W', I i σ' G' W' → (d, Is (.frz od (.dT kvs))) ∈ W') (h0 : I 0 σ G W)
    (hs : ∀ i k v q σ' G' W' H', kvs[i]? = some (k, v) → H' q = some (.tup (k.map kV)) → Same G G' → Wd G' W' H' → I i σ' G' W' → g (.ref q) σ' H' fun σ2 H2 => tb ⟨Btw I G (i + 1), rt, nx, Btw I G (i + 1)⟩ σ2 H2)
    (hd : ∀ σ' G' W' H', Same G G' → Wd G' W' H' → I kvs.length σ' G' W' → nx σ' H') :
    ∃ d' o, V.ref d = .ref d' ∧ ((∃ kvs, H d' = some (.frz o (.dK kvs)) ∧ LoopQ (Itk d' o kvs) g tb nx rt σ H) ∨ ∃ kvs, H d' = some (.frz o (.dT kvs)) ∧ LoopQ (Itkt d' o kvs) g tb nx rt σ H) := by
  have hat : ∀ {i σ' G' W' H'}, Wd G' W' H' → I i σ' G' W' → H' d = some (.frz od (.dT kvs)) := fun {i σ' G' W' H'} w' h => by
    obtain ⟨o, ho, rfl⟩ := w'.get (hI i σ' G' W' h)
    exact ho
  refine ⟨d, od, rfl, .inr ⟨kvs, hat w h0, loop_goI walk_keysT I w (fun i σ' G' W' H' _ w' h => hat w' h) h0 (fun i x σ' G' W' H' H'' _ e w' h y => ?_) hd⟩⟩
  obtain ⟨rfl, k, v, q, h1, rfl, h3⟩ := y
  exact hs i k v q σ' G' W' H'' h1 h3 e w' h
theorem st_keys {td : TE} {R : It → Hp → Prop} (h : td σ H fun x H1 => ∃ d o, x = .ref d ∧ ((∃ kvs, H1 d = some (.frz o (.dK kvs)) ∧ R (Itk d o kvs) H1) ∨ ∃ kvs, H1 d = some (.frz o (.dT kvs)) ∧ R (Itkt d o kvs) H1)) : iKeys td σ H R := h
/-- the loop's dict is locked -/
theorem st_lockT {t : TS} {D : Ends} {d : Addr} {kvs : List (List Key × V)} (w : Wd G ((d, Is (.dT kvs)) :: W) H)
    (h : ∀ od H', Wd G ((d, Is (.frz od (.dT kvs))) :: W) H' → t ⟨fun σ' H' => H' d = some (.frz od (.dT kvs)) ∧ D.nx σ' (upd H' d (.dT kvs)), fun v H' => H' d = some (.frz od (.dT kvs)) ∧ D.rt v (upd H' d (.dT kvs)),
      fun σ' H' => H' d = some (.frz od (.dT kvs)) ∧ D.bk σ' (upd H' d (.dT kvs)), fun σ' H' => H' d = some (.frz od (.dT kvs)) ∧ D.ct σ' (upd H' d (.dT kvs))⟩ σ H') : tLock t D σ H := by
  refine ⟨d, _, Wd.is1 w, trivial, fun od => h od _ (Wd.put1 w)⟩
theorem Wd.unlock {d : Addr} {u : HO} {od : Obj} (w : Wd G ((d, Is (.frz od u)) :: W) H) : H d = some (.frz od u) ∧ Wd G ((d, Is u) :: W) (upd H d u) := ⟨Wd.is1 w, Wd.put1 w⟩
theorem st_dget2 {td ty tx : TE} (h : td σ H fun x H1 => ∃ a, x = .ref a ∧ IsD H1 a ∧ ty σ H1 fun y H2 => tx σ H2 fun z H3 => ∃ o, DGet H3 a y o ∧ Q (o.getD z) H3) : tDGet2 td ty tx σ H Q := h
theorem st_cKw {r : List V → List V → Hp → VK → Prop} {t tk : TA} (h : t σ H fun vs H1 => tk σ H1 fun zs H2 => r vs zs H2 Q) : tCKw r t tk σ H Q := h
/-- the rows of a dict -/
abbrev Row := (Nat × Nat) × Int
def kyP (k : Nat × Nat) : List Key := [Sum.inl (k.1 : Int), Sum.inl (k.2 : Int)]
def encR (p : Row) : List Key × V := (kyP p.1, .int p.2)
theorem kyP_inj {a b : Nat × Nat} : kyP a = kyP b ↔ a = b := by
  constructor
  · intro h
    unfold kyP at h
    injection h with h1 h2
    injection h2 with h2 _
    injection h1 with h1
    injection h2 with h2
    exact Prod.ext (by omega) (by omega)
  · rintro rfl
    rfl
theorem kyP_map (k : Nat × Nat) : (kyP k).map kV = [V.int (k.1 : Int), .int (k.2 : Int)] := rfl
end
end Z

/-! d.setdefault(k, x) of a dict with tuple keys; a local name that holds a def, called with keywords; o.f += e -/
namespace Z
open PySem PySem.Spec PyProof.Rows L2
section
variable {X : Cx} {pins : List (Addr × Obj)} {σ : L2.St} {H : Hp} {s : Shared} {a : Addr} {u r : Value} {A : Around} {E : Value → Shared → Prop}
theorem d_setdT {kvs : List (List Key × V)} {k : List Key} {b : Addr} {d : V} {Q : Value → Shared → Prop} (hu : A.units + 1 < cLine) (I : Inv X pins σ H s) (e : H a = some (.dT kvs)) (eb : H b = some (.tup (k.map kV))) (rd : RelV d r) (hl : kvs.length < sizeLine)
    (h1 : ∀ v, valV kvs k = some v → ∀ (w' : Value) (s' : Shared), Inv X pins σ H s' → RelV v w' → Q w' s') (h2 : valV kvs k = none → ∀ (w' : Value) (s' : Shared), Inv X pins σ (upd H a (.dT (putK kvs k d))) s' → RelV d w' → Q w' s') :
    wpAny (model X.prog X.w) A (call (.builtin "dict.setdefault") [.ref a, .ref b, r]) Q E s := by
  obtain ⟨z, hd, xs, rel, dd⟩ := dt_of I.hok e
  have hz : xs.length ≤ sizeLine := by rw [← Paired.length rel]; exact z
  refine call_setdefault_heap (hsz := hz) (tupleKind_room_in1 hu) (key_of I.hok eb) hd dd (fun p hp => ?_) fun hn h' dd' hs => ?_
  · have q := rel.val k
    rw [hp] at q
    cases q0 : valV kvs k with
    | none =>
      rw [q0] at q
      exact (show False from q).elim
    | some v0 =>
      rw [q0] at q
      exact h1 v0 q0 _ _ (I.tok _) q
  · have q := rel.val k
    rw [hn] at q
    cases q0 : valV kvs k with
    | some v0 =>
      rw [q0] at q
      exact (show False from q).elim
    | none =>
      have hl2 : (putK kvs k d).length ≤ sizeLine := by
        have := length_putK kvs k d
        omega
      refine h2 q0 _ _ ?_ rd
      obtain ⟨q, es, ep, hq, h2, h3, h4, _, h5⟩ := dd'
      refine d_write I (by rw [e]; exact True.intro) hs ⟨q, hq⟩ ⟨hl2, hd, _, (rel.put k eb rd).keeps fun c ys ec => ?_, q, es, ep, hq, h2, h3, h4, h5⟩
      rw [upd_ne (ne_of ec e (fun z => nomatch z))]
      exact ec
end
/-- d.setdefault(y, z), the keys tuples -/
def tDSetdT (td ty tx : TE) : TE := fun σ H Q => td σ H fun x H1 => ∃ a, x = .ref a ∧ IsD H1 a ∧ ty σ H1 fun y H2 => tx σ H2 fun z H3 => ∃ (kvs : List (List Key × V)) (k : List Key) (b : Addr), H3 a = some (.dT kvs) ∧ y = .ref b ∧ H3 b = some (.tup (k.map kV)) ∧ kvs.length < sizeLine ∧
  (∀ v, valV kvs k = some v → Q v H3) ∧ (valV kvs k = none → Q z (upd H3 a (.dT (putK kvs k z))))
section
variable {X : Cx} {o e f : Expr} {td ty tx : TE} {apos cpos : Pos}
theorem pe_dsetdT (hu : X.A.units + 1 < cLine) (ho : PE X o td) (he : PE X e ty) (hf : PE X f tx) (m : M2 X o "setdefault" apos e f cpos) : PE X (.Call (.Attribute o "setdefault" apos) [e, f] [] cpos) (tDSetdT td ty tx) := by
  refine ⟨fun pins s σ H Q I h => ?_⟩
  refine wpAny_Call_method m.base m.few m.line PySem.F.plainAttrs_dict PySem.F.slot_dict_setdefault PySem.F.type_dict_setdefault (thn (ho.run pins s σ H _ I h) fun u s1 ⟨x, H1, I1, rx, a, ex, d, q1⟩ => ?_)
  subst ex
  obtain rfl : u = Value.ref a := rx
  obtain ⟨t1, t2, _⟩ := isD_at I1 d
  refine ⟨t1, t2, ?_⟩
  rw [m.trees]
  refine Calls.callWith_builtin rfl (Calls.evalArgs_plain (Calls.spliced_cons (thn (he.run pins s1 σ H1 _ I1 q1) fun iv s2 ⟨y, H2, I2, ry, q2⟩ =>
    Calls.spliced_cons (thn (hf.run pins s2 σ H2 _ I2 q2) fun fv s3 ⟨z, H3, I3, rz, kvs, k, b, ea, ey, eb, hl, q3, q4⟩ => Calls.spliced_nil ?_))))
  subst ey
  cases (show iv = Value.ref b from ry)
  exact d_setdT hu I3 ea eb rz hl (fun v hv w' s4 I4 rw' => ⟨v, _, I4, rw', q3 v hv⟩) fun hn w' s4 I4 rw' => ⟨z, _, I4, rw', q4 hn⟩
end
section
variable {K : PySem.W.Frag} {x qual : Str} {params : Arguments} {body : List Stmt} {scope : Scope} {kws : List (Str × V)} {f : Addr} {fd : FuncData} {ps ks : List Str} {n : Nat}
/-- some keyword-only parameters are given, the others (ms) have their defaults -/
theorem kbnKM (F : FunD K x qual params body scope [] kws f fd) (ms : List (Str × V)) (hk : kws ≠ []) (hms : ∀ q ∈ ms, q ∈ kws) (gg : List Value → List Value → List Value → List Value) {gV : List V → List V → List V}
    (rel : ∀ {vs zs : List V} {us mv ws : List Value}, Vals vs us → Vals (ms.map (·.2)) mv → Vals zs ws → Vals (gV vs zs) (gg us mv ws))
    (h : ∀ (D : Addr) (doc pm : Value) (an : Option Addr) (cdv ct : Value) (us mv ws : List Value), us.length = n → mv.length = ms.length → ws.length = ks.length →
      KwChain D ((ms.map (·.1)).zip mv) (bindArgs (PySem.W.fnOf x qual params body scope .none (.ref D) doc pm an cdv ct) ⟨us, ks.zip ws⟩) (ps.zip (gg us mv ws))) : ∃ g', KBn K fd ps n ks g' gV := by
  obtain ⟨oc, od, dV, kV, doc, pm, an, cdv, ct, osl, rfl, lk, hcd, hD, hK⟩ := F.ex
  rcases hD with ⟨_, rfl⟩ | ⟨e, _⟩
  · rcases hK with e | ⟨D, rfl, hq⟩
    · exact absurd e hk
    · obtain ⟨mv, hl, rk, hks⟩ := kwd_vals (ms := ms) fun q hm => hq q (hms q hm)
      exact ⟨fun us ws => gg us mv ws, fun s us ws X l1 l2 => BindsTo.of_looks fun M => KwChain.looks X hks (h D doc pm an cdv ct us mv ws l1 hl l2), fun r1 r2 => rel r1 rk r2⟩
  · exact absurd rfl e
end
/-- the i-th slot holds the def at f; keywords behind the given ones -/
def tCallNL (i : Nat) (f : Addr) (n m : Nat) (sp : Sp) (gV : List V → List V → List V) (E : XK) (t tk : TA) : TE := fun σ H Q => σ[i]? = some (some (.ref f)) ∧ tCallN n m sp gV E t tk σ H Q
section
variable {X : Cx} {CX : CXT} {k i n : Nat} {f : Addr} {fd : FuncData} {ps ks : List Str} {sp : Sp} {E : XK} {x : Str} {p pos : Pos} {e : Expr} {es : List Expr} {t tk : TA} {kws : List Keyword} {g : List Value → List Value → List Value} {gV : List V → List V → List V}
theorem pe_callNL (F : FnOk X.prog X.w X.K X.mg X.base CX k f fd ps sp) (hr : Room k X.A) (hN : X.N[i]? = some x) (hv : Vis X.env.scope x) (hk : PySem.W.keepIn X.K (.ref f) = true) (hb : KBn X.K fd ps n ks g gV) (hx : Passes CX X E)
    (ha : PA X (e :: es) t) (hkw : PK X kws tk) (hall : (backToKw pos (keywordEach kws X.env)).all (·.1.isSome) = true := by rfl) (hks : (backToKw pos (keywordEach kws X.env)).filterMap (·.1) = ks := by rfl)
    (hdb : (x == ("__debug__" : Str)) = false := by decide) (hcd : (x == ("__classdict__" : Str)) = false := by decide)
    (he : starEach (e :: es) X.env = (false, eval e X.env) :: starEach es X.env := by rfl)
    (hpl : ((backTo pos (starEach (e :: es) X.env)).any (·.1) || (backToKw pos (keywordEach kws X.env)).any (·.1.isNone)) = false := by rfl) :
    PE X (.Call (.Name x p) (e :: es) kws pos) (tCallNL i f n ks.length sp gV E t tk) := by
  refine ⟨fun pins s σ H Q I h => ?_⟩
  obtain ⟨hs, h⟩ := h
  refine wpAny_Call_Name_kw (thn ((pe_var (pos := p) hN hv hdb hcd).run pins s σ H (fun v H1 => v = .ref f ∧ H1 = H) I ⟨.ref f, hs, rfl, rfl⟩) fun u s0 ⟨v, H0, I0, r0, q0⟩ => ?_)
  obtain ⟨rfl, rfl⟩ := q0
  cases r0
  refine PySem.W.callWith_KW (h₀ := X.base) I0.ok.mod.kin hk hall (thn (ha.run pos pins s0 σ _ _ I0 h) fun us s1 ⟨vs, H1, I1, r, q⟩ => ?_) hpl he
  refine thn (hkw.run pos pins s1 σ H1 _ I1 q) fun ws s2 ⟨zs, H2, I2, rz, l1, l2, q2⟩ => ⟨I2.kIn, ?_⟩
  rw [hks]
  exact run_fnN F hr hb hx I2 r rz l1 l2 q2
end
section
variable {K : PySem.W.Frag} {σ : L2.St} {H : Hp} {Q : VK}
theorem st_dsetdT {td ty tx : TE} (h : td σ H fun x H1 => ∃ a, x = .ref a ∧ IsD H1 a ∧ ty σ H1 fun y H2 => tx σ H2 fun z H3 => ∃ (kvs : List (List Key × V)) (k : List Key) (b : Addr), H3 a = some (.dT kvs) ∧ y = .ref b ∧ H3 b = some (.tup (k.map kV)) ∧ kvs.length < sizeLine ∧
  (∀ v, valV kvs k = some v → Q v H3) ∧ (valV kvs k = none → Q z (upd H3 a (.dT (putK kvs k z))))) : tDSetdT td ty tx σ H Q := h
theorem st_aug {i : Nat} {te : TE} {ti : TIp} {nx bk ct : L2.St → Hp → Prop} {rt : VK} {x : V} (hx : σ[i]? = some (some x)) (h : te σ H fun y H1 => ti x y H1 fun z H2 => nx (σ.set i (some z)) H2) : tAug i te ti ⟨nx, rt, bk, ct⟩ σ H := ⟨x, hx, h⟩
theorem st_revL {te : TE} (h : te σ H fun x H1 => ∃ a xs, x = .ref a ∧ SqL K H1 a xs ∧ ∀ p, H1 p = none → Q (.ref p) (upd H1 p (.lst xs.reverse))) : tRevL K te σ H Q := h
theorem st_ipI {f : Int → Int → Int} {i j : Int} (q : Q (.int (f i j)) H) : ipI f (.int i) (.int j) H Q := ⟨i, j, rfl, rfl, q⟩
theorem st_callNL {i : Nat} {f : Addr} {n m : Nat} {sp : Sp} {gV : List V → List V → List V} {E : XK} {t tk : TA} (h : σ[i]? = some (some (.ref f))) (q : tCallN n m sp gV E t tk σ H Q) : tCallNL i f n m sp gV E t tk σ H Q := ⟨h, q⟩
theorem st_fldaug {ta tv : TE} {rd : V → V → Hp → VK → Prop} {f : Str} {nx bk ct : L2.St → Hp → Prop} {rt : VK} (h : ta σ H fun x H1 => ∃ a C dx fs v, x = .ref a ∧ H1 a = some (.ins C dx fs) ∧ Cls K C ∧ NoAttr K C f ∧ fs.lookup f = some v ∧
  tv σ H1 fun y H2 => rd v y H2 fun z H3 => ∃ dx' fs', H3 a = some (.ins C dx' fs') ∧ fs'.length < 1000 ∧ nx σ (upd H3 a (.ins C dx' (putF f z fs')))) : sFldAug K ta tv rd f ⟨nx, rt, bk, ct⟩ σ H := h
end
end Z

/-! isinstance(e, (C1, C2, ..)) of the caught exception -/
namespace Z
open PySem PySem.Spec PyProof.Rows L2
/-- isinstance(e, t), e the exception that the suite holds, t a tuple of classes on the heap -/
def rIsEdT (K : PySem.W.Frag) (D a : Addr) (cls : Value) (d : Option Addr) : List V → Hp → VK → Prop := fun xs H Q => ∃ (tp : Addr) (cs : List V) (us : List Value) (b : Bool) (dd : Addr) (fs : List (Str × V)), xs = [.ref a, .ref tp] ∧ cls = .ref D ∧ d = some dd ∧ H dd = some (.xd fs) ∧ H tp = some (.tup cs) ∧ Paired ClsV cs us ∧ PySem.W.kitAny K (.ref D) us = some b ∧ Q (.bl b) H
theorem call_isEdT {X : Cx} {a D : Addr} {oe : Obj} {cls : Value} {d : Option Addr} {pn : List (Addr × Obj)} (C : ExcC X.K D) (hz : Zc cls d oe) (hf : ∃ vs, oe.data = .fields vs) : CallR (X.suite a ((a, oe) :: pn)) (.builtin "isinstance") (rIsEdT X.K D a cls d) := by
  intro pins s σ H xs us Q I r h
  obtain ⟨tp, cs, ks, b, dd, fs, rfl, rfl, rfl, ea, hT, hk, e, q⟩ := h
  obtain ⟨u1, u2, rfl, r1, r2⟩ := vals2 r
  cases r1
  cases (show u2 = Value.ref tp from r2)
  have hget := (I.pin (a, oe) (List.mem_append.mpr (.inl List.mem_cons_self))).1
  obtain ⟨vs, hv⟩ := hf
  obtain ⟨mA, hns, _⟩ : ObjOk _ _ _ _ dd (.xd fs) := I.hok dd _ ea
  obtain ⟨od, ho, _⟩ := lookIn_ns hns
  have J : PySem.W.InstAt s.heap a oe D (some od) := ⟨hget, hz.1, by unfold PySem.W.notCls; rw [hv] <;> rfl, by rw [hz.2]; exact ho⟩
  obtain ⟨_, its, rv, t, g1, g2, n, g3⟩ : ObjOk _ _ _ _ tp (.tup cs) := I.hok tp _ hT
  have es := ClsV.all hk rv
  subst es
  rcases t with ⟨tc, td, tdata, tsl⟩
  dsimp only at g2 g3
  cases g2
  cases g3
  exact PySem.W.kia_tup (PySem.W.z_kit C) I.kIn ⟨_, J⟩ g1 e (fun z => nomatch z) fun tk => ⟨.bl b, H, I.kept (t' := tk) fun _ _ z => z, rfl, q⟩
theorem kitAny_no {K : PySem.W.Frag} {t u v : Value} (h1 : PySem.W.kitOne K t u = some false) (h2 : PySem.W.kitOne K t v = some false) : PySem.W.kitAny K t [u, v] = some false := by
  unfold PySem.W.kitAny
  rw [h1]
  show PySem.W.kitAny K t [v] = _
  unfold PySem.W.kitAny
  rw [h2]
  rfl
end Z

/-! len(set(xs)) of a list of tuples of ints that differ, up to 300 of them: the tables up to 512 slots -/
namespace Z
open PySem PySem.Spec PyProof.Rows L2
/-! ### the masks: each slot is met -/
def Msk (m : Nat) : Prop := m = 7 ∨ m = 31 ∨ m = 127 ∨ m = 511
/-- the n numbers that come from x on -/
def orb (m : Nat) : Nat → Nat → List Nat
  | 0, _ => []
  | n + 1, x => x :: orb m n ((x * 5 + 1) % (m + 1))
def ite5 (m : Nat) : Nat → Nat → Nat
  | 0, x => x
  | k + 1, x => ite5 m k ((x * 5 + 1) % (m + 1))
theorem orb_at (m : Nat) : ∀ (n x k : Nat), k < n → (orb m n x)[k]? = some (ite5 m k x)
  | 0, _, _, h => absurd h (Nat.not_lt_zero _)
  | n + 1, x, 0, _ => rfl
  | n + 1, x, k + 1, h => orb_at m n _ k (Nat.lt_of_succ_lt_succ h)
theorem ite5_add (m : Nat) : ∀ (a b x : Nat), ite5 m (a + b) x = ite5 m b (ite5 m a x)
  | 0, b, x => by rw [Nat.zero_add]; rfl
  | a + 1, b, x => by
    rw [Nat.succ_add]
    exact ite5_add m a b _
theorem ite5_lcg (m : Nat) : ∀ (k x : Nat), lcgI m x k = ite5 m k x
  | 0, _ => rfl
  | k + 1, x => by
    show (lcgI m x k * 5 + 1) % (m + 1) = _
    rw [ite5_lcg m k x, ite5_add m k 1 x]
    rfl
def meets (m : Nat) : Bool := (List.range (m + 1)).all fun j => (orb m (m + 1) 0).contains j
theorem meets7 : meets 7 = true := by decide +kernel
theorem meets31 : meets 31 = true := by decide +kernel
theorem meets127 : meets 127 = true := by decide +kernel
theorem meets511 : meets 511 = true := by decide +kernel
theorem back511 : ite5 511 512 0 = 0 := by decide +kernel
theorem Msk.all {m : Nat} (h : Msk m) : meets m = true ∧ ite5 m (m + 1) 0 = 0 := by
  rcases h with rfl | rfl | rfl | rfl
  · exact ⟨meets7, by decide +kernel⟩
  · exact ⟨meets31, by decide +kernel⟩
  · exact ⟨meets127, by decide +kernel⟩
  · exact ⟨meets511, back511⟩
theorem Msk.from0 {m j : Nat} (h : Msk m) (hj : j ≤ m) : ∃ b, b ≤ m ∧ ite5 m b 0 = j := by
  have h1 := List.all_eq_true.mp h.all.1 j (List.mem_range.mpr (Nat.lt_succ_of_le hj))
  obtain ⟨b, hb, e⟩ := List.getElem_of_mem (List.contains_iff_mem.mp h1)
  have hl : ∀ n x, (orb m n x).length = n := by
    intro n
    induction n with
    | zero => intro x; rfl
    | succ n ih => intro x; exact congrArg Nat.succ (ih _)
  rw [hl] at hb
  refine ⟨b, Nat.le_of_lt_succ hb, ?_⟩
  have := orb_at m (m + 1) 0 b hb
  rw [List.getElem?_eq_getElem (by rw [hl]; exact hb), e] at this
  exact (Option.some.inj this).symm
theorem Msk.any {m i j : Nat} (h : Msk m) (hi : i ≤ m) (hj : j ≤ m) : ∃ k, k ≤ m ∧ lcgI m i k = j := by
  obtain ⟨a, ha, ea⟩ := h.from0 hi
  obtain ⟨b, hb, eb⟩ := h.from0 hj
  rcases Nat.lt_or_ge b a with c | c
  · refine ⟨m + 1 - a + b, by omega, ?_⟩
    rw [ite5_lcg, ← ea, ← ite5_add, show a + (m + 1 - a + b) = m + 1 + b by omega, ite5_add, h.all.2, eb]
  · refine ⟨b - a, by omega, ?_⟩
    rw [ite5_lcg, ← ea, ← ite5_add, show a + (b - a) = b by omega, eb]
theorem Msk.run {m : Nat} (hm : Msk m) (h : Int) {j : Nat} (hj : j ≤ m) : ∃ n, n ≤ m + 12 ∧ runI m (SetTable.bits h) n = j := by
  obtain ⟨k, hk, e⟩ := hm.any (runI_le m (SetTable.bits h) 12) hj
  exact ⟨12 + k, by omega, by rw [runI_tail (bits_lt h), e]⟩
theorem Msk.way {m : Nat} (hm : Msk m) (h : Int) {j : Nat} (hj : j ≤ m) : ∃ k, k < 10 * SetTable.turns m ∧ way m h k = j := by
  obtain ⟨n, hn, e⟩ := hm.run h hj
  obtain ⟨k, hk, e2⟩ := run_nth m (SetTable.bits h) n
  refine ⟨k, by unfold SetTable.turns; omega, ?_⟩
  show (nth m (runAt m (SetTable.bits h % (m + 1)) (SetTable.bits h)) k).j = j
  rw [e2]
  exact e
theorem way_in (m : Nat) (h : Int) (k : Nat) : way m h k ≤ m := by
  have hi : SetTable.bits h % (m + 1) ≤ m := Nat.le_of_lt_succ (Nat.mod_lt _ (Nat.succ_pos _))
  have r := runEnd_bd hi
  have q := nth_in (m := m) k (runAt m (SetTable.bits h % (m + 1)) (SetTable.bits h)) (by unfold runAt; dsimp only; omega)
  exact Nat.le_trans (Nat.le_add_right _ _) q
/-! ### a table of n slots taken -/
structure Tb (t : SetTable) (n : Nat) : Prop where
  ris : Ris t.place.toList
  dm : t.dummies = #[]
  sz : t.place.size = n
  msk : Msk t.mask
theorem Tb.first {t : SetTable} {n : Nat} (T : Tb t n) (hl : n ≤ t.mask) (h : Int) : ∃ K, K < 10 * SetTable.turns t.mask ∧ way t.mask h K ∉ t.place.toList ∧ ∀ k, k < K → way t.mask h k ∈ t.place.toList := by
  obtain ⟨j, hj, hn⟩ := st_missing t.place.toList (t.mask + 1) (by rw [Array.length_toList, T.sz]; omega)
  obtain ⟨k, hk, e⟩ := T.msk.way h (Nat.le_of_lt_succ hj)
  obtain ⟨K, h1, h2, h3⟩ := st_least (p := fun k => way t.mask h k ∉ t.place.toList) k (by show way t.mask h k ∉ _; rw [e]; exact hn)
  exact ⟨K, Nat.lt_of_le_of_lt h1 hk, h2, fun k' hk' => Classical.not_not.mp (h3 k' hk')⟩
theorem Tb.put {t : SetTable} {n : Nat} (T : Tb t n) {j : Nat} (hj : j ∉ t.place.toList) : SetTable.below t.place j ≤ n ∧ Tb (t.put j).1 (n + 1) := by
  obtain ⟨c1, _, _⟩ := below_cut T.ris j
  have hp : SetTable.below t.place j ≤ t.place.toList.length := by
    rw [Array.length_toList]
    exact c1
  refine ⟨by rw [← T.sz]; exact c1, ris_insert T.ris (fun e => hj (List.mem_of_getElem? (by rw [Array.getElem?_toList]; exact e))), put_dm T.dm j, ?_, T.msk⟩
  rw [← Array.length_toList, put_place, len_ins _ hp, Array.length_toList, T.sz]
theorem Tb.fill {t : SetTable} {n : Nat} (T : Tb t n) : t.fill = n := by
  unfold SetTable.fill
  rw [T.sz, T.dm]
  rfl
/-! ### the table laid anew -/
/-- n owners sit, each at one slot -/
structure Sit (m n : Nat) (owner : Array (Option Nat)) : Prop where
  sz : owner.size = m + 1
  all : ∀ k, k < n → ∃ j, j ≤ m ∧ oAt owner j = some k
  ps : ∃ ps : List Nat, ps.length = n ∧ ∀ j, j ≤ m → oAt owner j ≠ none → j ∈ ps
theorem free_at {m : Nat} (hm : Msk m) (owner : Array (Option Nat)) (h : Int) {j : Nat} (hj : j ≤ m) (hf : oAt owner j = none) :
    ∃ i, i ≤ m ∧ oAt owner i = none ∧ SetTable.layClean.free m owner (SetTable.turns m) (SetTable.bits h % (m + 1)) (SetTable.bits h) = some i := by
  obtain ⟨n, hn, e⟩ := hm.run h hj
  have hw : way m h (off m (SetTable.bits h % (m + 1)) (SetTable.bits h) n) = j := by
    show (nth m (runAt m (SetTable.bits h % (m + 1)) (SetTable.bits h)) _).j = j
    rw [nth_off, itL_run]
    exact e
  obtain ⟨K, k1, k2, k3⟩ := st_least (p := fun k => oAt owner (way m h k) = none) (off m (SetTable.bits h % (m + 1)) (SetTable.bits h) n) (by show oAt owner (way m h _) = none; rw [hw]; exact hf)
  refine ⟨way m h K, way_in m h K, k2, ?_⟩
  refine free_spec m owner (SetTable.turns m) n _ _ K (by unfold SetTable.turns; omega) k1 (fun k hk => ?_) (by rw [show oAt owner (nth m (runAt m (SetTable.bits h % (m + 1)) (SetTable.bits h)) K).j = none from k2]; rfl)
  have q := k3 k hk
  cases z : oAt owner (nth m (runAt m (SetTable.bits h % (m + 1)) (SetTable.bits h)) k).j with
  | none => exact absurd z q
  | some _ => rfl
theorem Sit.step {m n : Nat} (hm : Msk m) {owner : Array (Option Nat)} (W : Sit m n owner) (hl : n ≤ m) (h : Int) :
    ∃ owner', stepF m (some (owner, n)) h = some (owner', n + 1) ∧ Sit m (n + 1) owner' := by
  obtain ⟨ps, hps, hin⟩ := W.ps
  obtain ⟨j0, h0, hn0⟩ := st_missing ps (m + 1) (by omega)
  have hj0 : oAt owner j0 = none := Classical.not_not.mp fun z => hn0 (hin j0 (Nat.le_of_lt_succ h0) z)
  obtain ⟨i, hi, hn, e⟩ := free_at hm owner h (Nat.le_of_lt_succ h0) hj0
  have his : i < owner.size := by
    rw [W.sz]
    exact Nat.lt_succ_of_le hi
  refine ⟨_, stepF_some e, by rw [Array.size_setIfInBounds]; exact W.sz, fun k hk => ?_, i :: ps, by rw [List.length_cons, hps], fun j hj z => ?_⟩
  · rcases Nat.lt_or_ge k n with c | c
    · obtain ⟨j, hj, ej⟩ := W.all k c
      refine ⟨j, hj, ?_⟩
      rw [oAt_set_ne _ (fun z => by rw [z, hn] at ej; exact nomatch ej)]
      exact ej
    · obtain rfl : k = n := by omega
      exact ⟨i, hi, oAt_set_self _ his⟩
  · by_cases c : j = i
    · rw [c]
      exact List.mem_cons_self
    · rw [oAt_set_ne _ c] at z
      exact List.mem_cons_of_mem _ (hin j hj z)
theorem Sit.fold {m : Nat} (hm : Msk m) : ∀ (hs : List Int) (n : Nat) (owner : Array (Option Nat)), Sit m n owner → n + hs.length ≤ m → ∃ owner', hs.foldl (stepF m) (some (owner, n)) = some (owner', n + hs.length) ∧ Sit m (n + hs.length) owner'
  | [], n, owner, W, _ => ⟨owner, rfl, W⟩
  | h :: hs, n, owner, W, hl => by
    rw [List.length_cons] at hl ⊢
    obtain ⟨o1, e1, W1⟩ := W.step hm (by omega) h
    obtain ⟨o2, e2, W2⟩ := Sit.fold hm hs (n + 1) o1 W1 (by omega)
    rw [show n + (hs.length + 1) = n + 1 + hs.length by omega, List.foldl_cons, e1]
    exact ⟨o2, e2, W2⟩
theorem laid_anew (t : SetTable) {hs : Array Int} {wanted M : Nat} (hw : SetTable.sizeAbove wanted - 1 = M) (hM : Msk M) (hn : hs.size ≤ M) :
    ∃ t' order, t.relaid hs wanted = some (t', order) ∧ order.toList.Perm (List.range hs.size) ∧ Tb t' hs.size ∧ t'.mask = M ∧ t'.led = t.led ∧ t'.plain = t.plain := by
  have W0 : Sit M 0 (Array.replicate (M + 1) none) := ⟨by simp, fun k hk => absurd hk (Nat.not_lt_zero _), [], rfl, fun j hj z => absurd (oAt_init hj) z⟩
  obtain ⟨owner, e, W⟩ := Sit.fold hM hs.toList 0 _ W0 (by rw [Array.length_toList]; omega)
  rw [Array.length_toList, Nat.zero_add] at e W
  have ec : SetTable.layClean M hs = some owner := by
    rw [layClean_eq, e]
    rfl
  have hr : t.relaid hs wanted = some (tabOf t M owner, ((liveOf M owner).map (·.2)).toArray) := by
    rw [relaid_eq, hw, ec]
    rfl
  have ris := ris_live (fun j => owner.getD j none) (List.range (M + 1)) (show Ris _ from List.pairwise_lt_range)
  have r1 : Ris ((liveOf M owner).map (·.1)) := ris.1
  have nd : ((liveOf M owner).map (·.1)).Nodup := r1.imp fun h => Nat.ne_of_lt h
  obtain ⟨ps, p1, p2⟩ := W.ps
  have le1 := nat_nodup_len ((liveOf M owner).map (·.1)) ps nd fun x hx => by
    obtain ⟨⟨y, k⟩, hq, rfl⟩ := List.mem_map.mp hx
    obtain ⟨b1, b2⟩ := (mem_live W.sz).1 hq
    exact p2 y b1 (by rw [b2]; exact fun z => nomatch z)
  have hall : ∀ k, k < hs.size → k ∈ (liveOf M owner).map (·.2) := fun k hk => by
    obtain ⟨j, b1, b2⟩ := W.all k hk
    exact List.mem_map.mpr ⟨(j, k), (mem_live W.sz).2 ⟨b1, b2⟩, rfl⟩
  have le2 := nat_nodup_len (List.range hs.size) ((liveOf M owner).map (·.2)) List.nodup_range fun k hk => hall k (List.mem_range.mp hk)
  rw [List.length_map] at le1 le2
  rw [List.length_range] at le2
  have hlen : (liveOf M owner).length = hs.size := by omega
  refine ⟨_, _, hr, perm_range hs.size _ (by rw [List.length_map]; exact hlen) hall, ⟨r1, rfl, ?_, hM⟩, rfl, rfl, rfl⟩
  show ((liveOf M owner).map (·.1)).toArray.size = hs.size
  rw [List.size_toArray, List.length_map, hlen]
/-! ### the set of n tuples that differ -/
structure SetU (P : Program) (w : World) (h : Heap) (a : Addr) (L : List (Addr × List Int)) (es : Array (Int × Value)) (ep : Nat) (t : SetTable) : Prop where
  ob : ∃ o, h.get? a = some o ∧ o.ExactSet ∧ o.data = .set es ep t
  rows : es.toList = rowsOf P w L
  tab : Tb t L.length
  tup : ∀ p ∈ L, IsT P w h p.2 p.1
  plain : t.plain = true
  led : w.params.followText "set-order" = true ∨ t.led = true
  room : L.length * 5 < t.mask * 3
section
variable {P : Program} {w : World} {A : Around} {E : Value → Shared → Prop} {s : Shared} {a : Addr} {L : List (Addr × List Int)} {es : Array (Int × Value)} {ep : Nat} {t : SetTable}
theorem rows_size (h : es.toList = rowsOf P w L) : es.size = L.length := by
  have e := congrArg List.length h
  unfold rowsOf at e
  rw [List.length_map] at e
  exact e
theorem rows_get (h : es.toList = rowsOf P w L) {i : Nat} {p : Addr × List Int} (hp : L[i]? = some p) : es[i]? = some (thash P w p.2, Value.ref p.1) := by
  rw [← Array.getElem?_toList, h]
  unfold rowsOf
  rw [List.getElem?_map, hp]
  rfl
theorem Tb.fits {n : Nat} (T : Tb t n) (h : n * 5 < t.mask * 3) : t.fits n = true := by
  unfold SetTable.fits
  rw [T.fill, T.sz, Bool.and_eq_true]
  exact ⟨beq_self_eq_true _, decide_eq_true (by omega)⟩
theorem Tb.odd {n : Nat} (T : Tb t n) : ¬ t.gaveWay = true := by
  have : t.mask % 2 = 1 := by rcases T.msk with e | e | e | e <;> rw [e]
  unfold SetTable.gaveWay
  rw [this]
  decide
theorem Tb.turns {n : Nat} (T : Tb t n) : 10 * SetTable.turns t.mask ≤ 6000 := by
  unfold SetTable.turns
  rcases T.msk with e | e | e | e <;> omega
/-- the state of a search behind c steps -/
abbrev stp (m : Nat) (h : Int) (c : Nat) : SetTable.Probe := nth m (runAt m (SetTable.bits h % (m + 1)) (SetTable.bits h)) c
theorem adv_dummy {m : Nat} {p : SetTable.Probe} (h : p.dummy = none) : (adv m p).dummy = none := by
  unfold adv
  split <;> exact h
theorem nth_dummy {m : Nat} : ∀ (n : Nat) {p : SetTable.Probe}, p.dummy = none → (nth m p n).dummy = none
  | 0, _, h => h
  | n + 1, _, h => nth_dummy n (adv_dummy h)
theorem stp_add (m : Nat) (h : Int) (c q : Nat) : nth m (stp m h c) q = stp m h (c + q) := (nth_add m c _ q).symm
/-- a tuple that isn't in the set: the search comes to the free slot K -/
theorem search_new (R : SetU P w s.heap a L es ep t) {x : Addr} {k : List Int} (hx : IsT P w s.heap k x) (hk : k ∉ L.map (·.2)) (hu : A.units < cLine) {K : Nat} (hKf : K < 10 * SetTable.turns t.mask)
    (hK : way t.mask (thash P w k) K ∉ t.place.toList) (hKb : ∀ c, c < K → way t.mask (thash P w k) c ∈ t.place.toList) {Q : SetFound → Shared → Prop} (q : Q (.free (way t.mask (thash P w k) K) false) s) :
    ∀ (f c : Nat) (stand : Option SetTable.Probe), stand.getD (t.probeStart (thash P w k)) = stp t.mask (thash P w k) c → c ≤ K → K - c < f →
      wpAny (model P w) A (setSearchFrom a (.ref x) (thash P w k) true f stand) Q E s
  | 0, _, _, _, _, hf => absurd hf (Nat.not_lt_zero _)
  | f + 1, c, stand, hst, hc, hf => by
    obtain ⟨o, ho, hex, hd⟩ := R.ob
    have hsz := rows_size R.rows
    have hfit : t.fits es.size = true := by
      rw [hsz]
      exact R.tab.fits R.room
    rw [setSearchFrom_succ]
    refine wpAny_bind (wpAny_setState_of ho hd hfit ?_)
    dsimp only
    refine wp_if_neg R.tab.odd ?_
    try refine wpAny_bind (wpAny_pure ?_)
    have hj : ∀ i, (nth t.mask (stp t.mask (thash P w k) c) i).j = way t.mask (thash P w k) (c + i) := fun i => congrArg SetTable.Probe.j (stp_add _ _ _ _)
    have spec := go_spec t R.tab.ris R.tab.dm (fun i => (es[i]?.map (·.1)).getD 0) (thash P w k) (10 * SetTable.turns t.mask) (K - c) (stp t.mask (thash P w k) c) (nth_dummy c rfl) (by omega)
      (fun i hi => by rw [hj]; exact hKb _ (by omega)) (by rw [hj, show c + (K - c) = K by omega]; exact hK)
    rcases spec with ⟨i, e, hi, hie, _, _, hpr⟩ | ⟨_, hpr⟩
    · rw [hj] at hpr hie
      rw [stp_add] at hpr
      have hpr' : t.probe (fun i => (es[i]?.map (·.1)).getD 0) (thash P w k) (stand.getD (t.probeStart (thash P w k))) = some (.candidate (way t.mask (thash P w k) (c + i)) e (stp t.mask (thash P w k) (c + (i + 1)))) := by
        rw [hst]
        exact hpr
      rw [hpr']
      dsimp only
      have hel : e < L.length := by
        have h1 := (List.getElem?_eq_some_iff.mp hie).1
        rw [Array.length_toList, R.tab.sz] at h1
        exact h1
      have hp : L[e]? = some L[e] := List.getElem?_eq_getElem hel
      generalize L[e] = p at hp
      have hmem : p ∈ L := List.mem_of_getElem? hp
      have hne : ¬ p.2 = k := fun z => hk (List.mem_map.mpr ⟨p, hmem, z⟩)
      have hen := rows_get R.rows hp
      have rest : wpAny (model P w) A (searchRest a (.ref x) (thash P w k) true f es t (way t.mask (thash P w k) (c + i)) e (stp t.mask (thash P w k) (c + (i + 1)))) Q E s := by
        unfold searchRest
        rw [hen]
        dsimp only
        refine wpAny_bind (wpAny_holding (wpAny_eqBool_tuple hu (R.tup p hmem) hx ?_))
        refine wpAny_bind (wpAny_setState_of ho hd hfit ?_)
        dsimp only
        refine wp_if_neg (by simp [hne]) ?_
        try refine wpAny_bind (wpAny_pure ?_)
        rw [sameMem]
        dsimp only
        simp only [if_true, slot_live R.tab.ris hie, hen]
        refine wpAny_bind (wpAny_isSame_ref_self (wpAny_bind (wpAny_pure ?_)))
        simp only [if_true]
        refine wp_if_neg (by simp [hne]) ?_
        exact search_new R hx hk hu hKf hK hKb q f (c + (i + 1)) _ rfl (by omega) (by omega)
      by_cases hl : t.led = true
      · refine wp_if_neg (by simp [hl]) ?_
        try refine wpAny_bind (wpAny_pure ?_)
        exact rest
      · refine wp_if_pos (by simp [hl]) ?_
        refine wpAny_bind (seen_tup hx (fun y hy => ?_) ?_)
        · obtain ⟨en, he, rfl⟩ := List.mem_map.mp hy
          have he2 : en ∈ es.toList := by
            have : en ∈ es ∧ en.1 = thash P w k := by simpa using he
            exact Array.mem_def.mp this.1
          rw [R.rows] at he2
          obtain ⟨p2, hp2, rfl⟩ := List.mem_map.mp he2
          exact ⟨p2.2, p2.1, rfl, R.tup p2 hp2⟩
        · refine wp_if_neg (by decide) ?_
          try refine wpAny_bind (wpAny_pure ?_)
          exact rest
    · rw [hj, show c + (K - c) = K by omega] at hpr
      have hpr' : t.probe (fun i => (es[i]?.map (·.1)).getD 0) (thash P w k) (stand.getD (t.probeStart (thash P w k))) = some (.empty (way t.mask (thash P w k) K) none) := by
        rw [hst]
        exact hpr
      rw [hpr']
      exact wpAny_pure q
/-- the table is laid anew, larger -/
theorem relay_new {o : Obj} (ho : s.heap.get? a = some o) (hex : o.ExactSet) (hd : o.data = .set es ep t) (hrows : es.toList = rowsOf P w L) (T : Tb t L.length) (hfl : L.length ≤ t.mask)
    (tup : ∀ p ∈ L, IsT P w s.heap p.2 p.1) (pl : t.plain = true) (ld : w.params.followText "set-order" = true ∨ t.led = true) {wanted M : Nat} (hw : SetTable.sizeAbove wanted - 1 = M) (hM : Msk M) (hn : L.length * 5 < M * 3) {Q : Unit → Shared → Prop}
    (hQ : ∀ h' L' es' ep' t', Heap.SameBut a s.heap h' → SetU P w h' a L' es' ep' t' → L'.Perm L → Q () { s with heap := h' }) : wpAny (model P w) A (setRelay a wanted) Q E s := by
  have hsl := rows_size hrows
  have hM5 : M ≤ 511 := by rcases hM with e | e | e | e <;> omega
  have hfits : t.fits es.size = true := by
    unfold SetTable.fits
    rw [T.fill, T.sz, hsl, Bool.and_eq_true]
    exact ⟨beq_self_eq_true _, decide_eq_true hfl⟩
  obtain ⟨t', order, e, hp, T', em, el, epl⟩ := laid_anew t (hs := es.map (·.1)) hw hM (by rw [Array.size_map, hsl]; omega)
  rw [Array.size_map, hsl] at hp T'
  obtain ⟨L2, r1, r2, _⟩ := order_rows L es order hrows hp
  have hs2 : (order.filterMap (es[·]?)).size = L.length := by rw [rows_size r1, r2.length_eq]
  rw [setRelay_eq]
  refine wpAny_bind (wpAny_setState_of ho hd hfits ?_)
  dsimp only
  refine wp_if_neg (by rw [sizeLine_eq]; omega) ?_
  try refine wpAny_bind (wpAny_pure ?_)
  rw [e]
  dsimp only
  refine wpAny_bind ?_
  refine wp_if_neg (by rw [hs2, hsl]; simp) ?_
  try refine wpAny_bind (wpAny_pure ?_)
  refine wpAny_pure ?_
  dsimp only
  refine wpAny_storeSet_of ho hd ?_ (by rw [hs2, sizeLine_eq]; omega)
  have sb : Heap.SameBut a s.heap (s.heap.update a (Obj.putSet (order.filterMap (es[·]?)) t')) := Heap.SameBut.update ..
  refine hQ _ L2 _ (ep + 1) t' sb ⟨⟨_, store_at ho hd, ⟨hex.1, hex.2.1, hex.2.2⟩, rfl⟩, r1, by rw [r2.length_eq]; exact T', fun p hpm => isT_same (tup p (r2.mem_iff.mp hpm)) ho hd sb, by rw [epl]; exact pl, by rw [el]; exact ld, by rw [r2.length_eq, em]; exact hn⟩ r2
theorem grown5 : SetTable.sizeAbove (SetTable.grown 5) - 1 = 31 := by decide +kernel
theorem grown19 : SetTable.sizeAbove (SetTable.grown 19) - 1 = 127 := by decide +kernel
theorem grown77 : SetTable.sizeAbove (SetTable.grown 77) - 1 = 511 := by decide +kernel
/-- one more -/
theorem add_new (R : SetU P w s.heap a L es ep t) {x : Addr} {k : List Int} (hx : IsT P w s.heap k x) (hk : k ∉ L.map (·.2)) (hu : A.units < cLine) (hfew : L.length + 1 ≤ 300) {Q : Bool → Shared → Prop}
    (hQ : ∀ h' L' es' ep' t', Heap.SameBut a s.heap h' → SetU P w h' a L' es' ep' t' → L'.Perm ((x, k) :: L) → Q true { s with heap := h' }) :
    wpAny (model P w) A (setAddHashed a (.ref x) (thash P w k)) Q E s := by
  obtain ⟨o, ho, hex, hd⟩ := R.ob
  have hsl := rows_size R.rows
  have hroom := R.room
  have hfit : t.fits es.size = true := by
    rw [hsl]
    exact R.tab.fits hroom
  obtain ⟨K, hKf, hK, hKb⟩ := R.tab.first (by omega) (thash P w k)
  have hturn := R.tab.turns
  unfold setAddHashed
  refine wpAny_holding ?_
  rw [show (100000 : Nat) = 99999 + 1 from rfl, setAddHashedIn_succ]
  refine wpAny_bind (wpAny_setState_of ho hd hfit ?_)
  dsimp only
  refine wp_if_neg (by simp [byScan, Value.scannable]) ?_
  try refine wpAny_bind (wpAny_pure ?_)
  refine wpAny_bind (m := setSearch a (.ref x) (thash P w k) true) ?_
  unfold setSearch
  refine search_new R hx hk hu hKf hK hKb ?_ 100000 0 none rfl (Nat.zero_le _) (by omega)
  dsimp only
  refine wpAny_bind (wpAny_setState_of ho hd hfit ?_)
  dsimp only
  obtain ⟨q2, q3⟩ := R.tab.put hK
  have q1 : (t.put (way t.mask (thash P w k) K)).2 = SetTable.below t.place (way t.mask (thash P w k) K) := rfl
  have q4 : (t.put (way t.mask (thash P w k) K)).1.mask = t.mask := rfl
  have q5 : (t.put (way t.mask (thash P w k) K)).1.led = t.led := rfl
  have hp1 : (t.put (way t.mask (thash P w k) K)).1.plain = true := R.plain
  generalize t.put (way t.mask (thash P w k) K) = pt at q1 q3 q4 q5 hp1 ⊢
  obtain ⟨t1, p⟩ := pt
  dsimp only at q1 q3 q4 q5 hp1 ⊢
  subst q1
  first
    | (refine wpAny_bind ?_; refine wp_if_pos hp1 ?_; refine hashBy_tup hx ?_)
    | refine wp_if_pos hp1 (wpAny_bind (hashBy_tup hx ?_))
  simp only [if_true]
  have hin : (SetTable.insertAt es (SetTable.below t.place (way t.mask (thash P w k) K)) (thash P w k, Value.ref x)).toList = rowsOf P w (L.take (SetTable.below t.place (way t.mask (thash P w k) K)) ++ (x, k) :: L.drop (SetTable.below t.place (way t.mask (thash P w k) K))) := by
    rw [SetTable.toList_insertAt, rows_put, R.rows]
  generalize SetTable.below t.place (way t.mask (thash P w k) K) = p at hin ⊢
  have pm := put_perm L p (x, k)
  have hlen : (L.take p ++ (x, k) :: L.drop p).length = L.length + 1 := pm.length_eq
  generalize L.take p ++ (x, k) :: L.drop p = L1 at pm hlen hin
  have hes := rows_size hin
  generalize SetTable.insertAt es p (thash P w k, Value.ref x) = es1 at hin hes ⊢
  refine wpAny_bind (wpAny_storeSet_of ho hd ?_ (by rw [hes, hlen, sizeLine_eq]; omega))
  have sb : Heap.SameBut a s.heap (s.heap.update a (Obj.putSet es1 t1)) := Heap.SameBut.update ..
  have ho1 := store_at (es' := es1) (t' := t1) ho hd
  generalize s.heap.update a (Obj.putSet es1 t1) = h1 at sb ho1 ⊢
  have tup1 : ∀ p ∈ L1, IsT P w h1 p.2 p.1 := fun p hp => by
    rcases List.mem_cons.mp (pm.mem_iff.mp hp) with rfl | hp
    · exact isT_same hx ho hd sb
    · exact isT_same (R.tup p hp) ho hd sb
  have ld1 : w.params.followText "set-order" = true ∨ t1.led = true := by
    rw [q5]
    exact R.led
  rw [← hlen] at q3
  by_cases hf : t1.tooFull = true
  · first
      | (refine wpAny_bind ?_; refine wp_if_pos (by simp [hf]) ?_)
      | (refine wp_if_pos (by simp [hf]) ?_; refine wpAny_bind ?_)
    have hfull : (L.length + 1) * 5 ≥ t.mask * 3 := by
      have h := hf
      unfold SetTable.tooFull at h
      rw [decide_eq_true_eq, q3.fill, hlen, q4] at h
      exact h
    obtain ⟨M, hM, hw, hn⟩ : ∃ M, Msk M ∧ SetTable.sizeAbove (SetTable.grown (L.length + 1)) - 1 = M ∧ (L.length + 1) * 5 < M * 3 := by
      rcases R.tab.msk with e | e | e | e
      · rw [e] at hfull hroom
        rw [show L.length = 4 by omega]
        exact ⟨31, .inr (.inl rfl), grown5, by decide⟩
      · rw [e] at hfull hroom
        rw [show L.length = 18 by omega]
        exact ⟨127, .inr (.inr (.inl rfl)), grown19, by decide⟩
      · rw [e] at hfull hroom
        rw [show L.length = 76 by omega]
        exact ⟨511, .inr (.inr (.inr rfl)), grown77, by decide⟩
      · exfalso
        rw [e] at hfull
        omega
    rw [hsl]
    refine relay_new (s := { s with heap := h1 }) ho1 ⟨hex.1, hex.2.1, hex.2.2⟩ rfl hin q3 (by rw [hlen, q4]; omega) tup1 hp1 ld1 hw hM (by rw [hlen]; exact hn) ?_
    intro h2 L2 es2 ep2 t2 sb2 R2 pm2
    exact wpAny_pure (hQ h2 L2 es2 ep2 t2 (sb.trans sb2) R2 (pm2.trans pm))
  · first
      | refine wp_if_neg (by simp [hf]) ?_
      | (refine wpAny_bind ?_; refine wp_if_neg (by simp [hf]) ?_; refine wpAny_pure ?_)
    refine wpAny_pure (hQ h1 L1 es1 (ep + 1) t1 sb ⟨⟨_, ho1, ⟨hex.1, hex.2.1, hex.2.2⟩, rfl⟩, hin, q3, tup1, hp1, ld1, ?_⟩ pm)
    have h := hf
    unfold SetTable.tooFull at h
    rw [decide_eq_true_eq, q3.fill] at h
    omega
end
section
variable {P : Program} {w : World} {A : Around} {E : Value → Shared → Prop} {s : Shared}
theorem SetU.at {h h' : Heap} {a : Addr} {L : List (Addr × List Int)} {es : Array (Int × Value)} {ep : Nat} {t : SetTable} (R : SetU P w h a L es ep t) (ha : ∀ o, h.get? a = some o → h'.get? a = some o) (ht : ∀ p ∈ L, IsT P w h' p.2 p.1) : SetU P w h' a L es ep t :=
  let ⟨o, ho, r⟩ := R.ob
  ⟨⟨o, ha o ho, r⟩, R.rows, R.tab, ht, R.plain, R.led, R.room⟩
theorem setU_empty {h : Heap} {a : Addr} (ho : h.get? a = some { cls := .type "set", dict := none, data := .set #[] 0 (.fresh 0 0 (!w.params.followText "set-order")) }) : SetU P w h a [] #[] 0 (.fresh 0 0 (!w.params.followText "set-order")) where
  ob := ⟨_, ho, ⟨rfl, rfl, rfl⟩, rfl⟩
  rows := rfl
  tab := ⟨List.Pairwise.nil, rfl, rfl, .inl rfl⟩
  tup := fun p hp => nomatch hp
  plain := rfl
  led := by
    show _ ∨ (!w.params.followText "set-order") = true
    cases w.params.followText "set-order"
    · exact .inr rfl
    · exact .inl rfl
  room := show 0 * 5 < 7 * 3 by decide
theorem new_key {ks L : List (Addr × List Int)} (nd : (ks.map (·.2)).Nodup) {i : Nat} {p : Addr × List Int} (hp : ks[i]? = some p) (pm : L.Perm (ks.take i)) : p.2 ∉ L.map (·.2) := fun hm => by
  have hm2 := (pm.map (·.2)).mem_iff.mp hm
  rw [List.map_take] at hm2
  obtain ⟨j, hj⟩ := List.mem_iff_getElem?.mp hm2
  rw [List.getElem?_take] at hj
  split at hj
  · rename_i hji
    have h1 : (ks.map (·.2))[i]? = some p.2 := by rw [List.getElem?_map, hp]; rfl
    obtain ⟨a1, b1⟩ := List.getElem?_eq_some_iff.mp hj
    obtain ⟨a2, b2⟩ := List.getElem?_eq_some_iff.mp h1
    exact List.pairwise_iff_getElem.mp nd j i a1 a2 hji (b1.trans b2.symm)
  · exact nomatch hj
/-- the loop of set.update -/
theorem update_new {I : Addr} {fp wr : List Addr} {G : Array GenState → Array GenState → Prop} {n : Nat} {Pv : Nat → Value → Prop} {St : Nat → Shared → Prop} {R : Result → Shared → Prop}
    (W : WalksS P w A.in1 I fp wr G n Pv St) (S : Addr) (hS : S ∉ fp) (ks : List (Addr × List Int)) (hn : n = ks.length) (hfew : ks.length ≤ 300) (nd : (ks.map (·.2)).Nodup) (hval : ∀ i v, Pv i v → ∃ p, ks[i]? = some p ∧ v = .ref p.1)
    (h0 : Heap) (hk : ∀ p ∈ ks, IsT P w h0 p.2 p.1) (hS0 : h0.get? S = none) (hw0 : ∀ b ∈ wr, h0.get? b = none) (hu : A.in1.units < cLine) (m : Nat) :
    ∀ (i : Nat) (s : Shared) (L : List (Addr × List Int)) (es : Array (Int × Value)) (ep : Nat) (t : SetTable), i + m = n → St i s → (∀ b o, h0.get? b = some o → s.heap.get? b = some o) → SetU P w s.heap S L es ep t → L.Perm (ks.take i) →
      (∀ s' L es ep t, Moved (S :: wr) G s s' → SetU P w s'.heap S L es ep t → L.Perm ks → (∀ b o, h0.get? b = some o → s'.heap.get? b = some o) → R (.ok (.ret .none)) s') →
      codeAny (model P w) A (.builtin "set.update.loop" ⟨[.ref S, .ref I], []⟩) R s := by
  have hSw : S ∉ wr := fun h => hS (W.sub _ h)
  have wide : ∀ {s s' : Shared}, Moved wr G s s' → Moved (S :: wr) G s s' := fun hm => hm.mono fun b hb => List.mem_cons_of_mem _ hb
  have kept : ∀ {s s' : Shared}, Moved wr G s s' → (∀ b o, h0.get? b = some o → s.heap.get? b = some o) → ∀ b o, h0.get? b = some o → s'.heap.get? b = some o := fun hm hkp b o e =>
    hm.heap b o (fun hb => by rw [hw0 b hb] at e; exact nomatch e) (hkp b o e)
  have inks : ∀ {i : Nat} {L : List (Addr × List Int)}, L.Perm (ks.take i) → ∀ p ∈ L, p ∈ ks := fun pm p hp => List.mem_of_mem_take (pm.mem_iff.mp hp)
  induction m with
  | zero =>
    intro i s L es ep t hi hst hkp hU pm hR
    obtain rfl : i = n := by omega
    refine codeAny_builtin F.entry_set_update_loop ?_
    rw [Around.under_plainId F.plain_set_update_loop _]
    show wpAny _ A.in1 (pyNext (.ref I) >>= _) _ _ s
    refine wpAny_bind (W.done s _ _ hst fun s' hm => ?_)
    show wpAny _ A.in1 (ret Value.none) _ _ s'
    have hkp' := kept hm hkp
    refine wpAny_pure (hR s' L es ep t (wide hm) (hU.at (fun o e => hm.heap S o hSw e) fun p hp => isT_keep (hk p (inks pm p hp)) hkp') ?_ hkp')
    rw [hn, List.take_length] at pm
    exact pm
  | succ m ih =>
    intro i s L es ep t hi hst hkp hU pm hR
    refine codeAny_builtin F.entry_set_update_loop ?_
    rw [Around.under_plainId F.plain_set_update_loop _]
    show wpAny _ A.in1 (pyNext (.ref I) >>= _) _ _ s
    refine wpAny_bind (W.item i s _ _ (by omega) hst fun v s' hP hst' hm => ?_)
    obtain ⟨p, hp, rfl⟩ := hval i v hP
    have hkp' := kept hm hkp
    have hU' : SetU P w s'.heap S L es ep t := hU.at (fun o e => hm.heap S o hSw e) fun q hq => isT_keep (hk q (inks pm q hq)) hkp'
    have hx : IsT P w s'.heap p.2 p.1 := isT_keep (hk p (List.mem_of_getElem? hp)) hkp'
    show wpAny _ A.in1 (holding [Value.ref p.1] (setAdd S (.ref p.1)) >>= _) _ _ s'
    refine wpAny_bind (wpAny_holding ?_)
    unfold setAdd
    refine wpAny_holding ?_
    refine wpAny_bind (wpAny_pyHash_tuple hu hx ?_)
    have hil : i < ks.length := (List.getElem?_eq_some_iff.mp hp).1
    refine add_new (s := { s' with toks := s'.toks + (p.2.length + 1) }) hU' hx (new_key nd hp pm) hu (by rw [pm.length_eq, List.length_take]; omega) fun h' L' es' ep' t' hsb hU2 pm2 => ?_
    have hkp2 : ∀ b o, h0.get? b = some o → h'.get? b = some o := fun b o e => (hsb.2 b (fun z => by rw [z, hS0] at e; exact nomatch e)).trans (hkp' b o e)
    refine wpAny_pure ⟨plainId_quiet F.plain_set_update_loop _, ih (i + 1) _ L' es' ep' t' (by omega) (W.frame _ s' _ _ hst' (Nat.le_add_right _ _) fun b hb o e => ?_) hkp2 hU2 ?_ fun s'' L2 es2 ep2 t2 hm'' hU'' pm'' hkp'' => ?_⟩
    · rw [hsb.2 b (fun h : b = S => hS (by rw [← h]; exact hb))]
      exact e
    · rw [take_next hp]
      exact pm2.trans ((pm.cons _).trans (List.perm_append_singleton _ _).symm)
    · refine hR s'' L2 es2 ep2 t2 (Moved.trans W.gtrans ((wide hm).then_heap (Nat.le_add_right _ _) fun b o hb e => ?_) hm'') hU'' pm'' hkp''
      rw [hsb.2 b (fun h : b = S => hb (by rw [h]; exact List.mem_cons_self))]
      exact e
/-- the set that is made first -/
abbrev newS (w : World) : Obj := { cls := .type "set", dict := none, data := .set #[] 0 (.fresh 0 0 (!w.params.followText "set-order")) }
/-- set(xs) -/
theorem call_set_new {l : Addr} {items : Array Value} (ks : List (Addr × List Int)) {Q : Value → Shared → Prop} (hh : A.handled = none) (hl : s.heap.IsList l items) (hit : items.toList = ks.map fun p => Value.ref p.1)
    (hk : ∀ p ∈ ks, IsT P w s.heap p.2 p.1) (nd : (ks.map (·.2)).Nodup) (hfew : ks.length ≤ 300) (hu : A.units + 3 < cLine)
    (h : ∀ (h' : Heap) (tk : Nat) L es ep t, SetU P w h' s.heap.objs.size L es ep t → L.Perm ks → (∀ b o, s.heap.get? b = some o → h'.get? b = some o) → Q (.ref s.heap.objs.size) { s with heap := h', toks := tk }) :
    wpAny (model P w) A (call (.type "set") [.ref l]) Q E s := by
  have hisz : items.size = ks.length := by
    have q := congrArg List.length hit
    rw [Array.length_toList, List.length_map] at q
    exact q
  have hval : ∀ (i : Nat) (v : Value), items[i]? = some v → ∃ p, ks[i]? = some p ∧ v = .ref p.1 := fun i v hv => by
    rw [← Array.getElem?_toList, hit, List.getElem?_map] at hv
    obtain ⟨p, hp, e⟩ := Option.map_eq_some_iff.mp hv
    exact ⟨p, hp, e.symm⟩
  obtain ⟨c, tl, hmro⟩ := F.called_set.mro
  have hmade := F.called_set.made
  have hsub := F.called_set.sub
  refine wpAny_call (codeAny_of_tree ?_)
  show wpAny _ _ (callAny (.type "set") _) _ _ _
  refine wpAny_pure ⟨Code.quiet_builtin _ (by decide +kernel), codeAny_builtin F.entry_type_call ?_⟩
  rw [Around.under_plain (weight_type_call_type "set" [.ref l] []) rfl]
  have h1 := F.called_set.notType
  have h2 := F.called_set.canCreate
  have hct := F.typeCall_set_1 (.ref l)
  repeat (any_goals (first | assumption | wp_step))
  have hS : (s.heap.push (newS w)).get? s.heap.objs.size = some (newS w) := Heap.get?_push_size _ rfl
  refine codeAny_mono (code_set_led1 (.ref l) (E := E) (Q₁ := fun obj s₁ => obj = .ref s.heap.objs.size ∧ s₁ = { s with heap := s.heap.push (newS w) }) ⟨rfl, rfl⟩) fun r s₁ hr => ?_
  have hro : ∃ obj, r = .ok (.ret obj) ∨ ∃ e, r = .error e := by
    cases r with
    | error e => exact ⟨.none, .inr ⟨e, rfl⟩⟩
    | ok fl =>
      cases fl with
      | ret obj => exact ⟨obj, .inl rfl⟩
      | _ => exact hr.elim
  obtain ⟨obj, rfl | ⟨e, rfl⟩⟩ := hro
  · obtain ⟨rfl, rfl⟩ := hr
    have hT : Shared.TypeIs { s with heap := s.heap.push (newS w) } (.ref s.heap.objs.size) "set" := ⟨_, hS, rfl⟩
    have hli := F.called_set.init.lookup
    have hbi := F.called_set.init.bind (.ref s.heap.objs.size)
    repeat (any_goals (first | assumption | wp_step))
    refine codeAny_mono (codeAny_call_builtin (R := wants (fun r s₂ => r = .none ∧ ∃ h' tk L es ep t, s₂ = { s with heap := h', toks := tk } ∧ SetU P w h' s.heap.objs.size L es ep t ∧ L.Perm ks ∧ (∀ b o, s.heap.get? b = some o → h'.get? b = some o)) E)
      F.called_set.init.plain F.entry_set_init (check_set_init_1 hT ?_)) fun r₂ s₂ hr₂ => ?_
    · obtain ⟨⟨ocls, odict, odata, oslots⟩, hol, hcl, nl, hdl⟩ := hl
      dsimp only at hcl hdl
      subst hcl
      subst hdl
      have hol' : (s.heap.push (newS w)).get? l = some { cls := .type "list", dict := odict, data := .seq items nl, slots := oslots } := Heap.get?_push_of_some _ hol
      have hl1 : (s.heap.push (newS w)).IsList l items := ⟨_, hol', rfl, nl, rfl⟩
      have hsls := F.sub_list_set
      have hslf := F.sub_list_frozenset
      have hne : (Value.type "list" == Value.type "dict") = false := by decide
      unfold Builtin.«set.__init__» noKeywords Builtin.Frozenset.updateFrom
      generalize hPI : pyIter = PI
      wp_walk
      subst hPI
      refine wpAny_pyIter_list hl1 ?_
      refine wpAny_bind (wpAny_runValue ?_)
      have hlS : l < s.heap.objs.size := Heap.lt_size hol
      have hz1 : (s.heap.push (newS w)).objs.size = s.heap.objs.size + 1 := Heap.size_push ..
      have free : ∀ b, s.heap.objs.size ≤ b → s.heap.get? b = none := fun b hb => by
        cases q : s.heap.get? b with
        | none => rfl
        | some o => exact absurd (Nat.lt_of_lt_of_le (Heap.lt_size q) hb) (Nat.lt_irrefl _)
      refine update_new ((Walks.list (show A.in1.in1.in1.handled = none by simp [hh]) _ l (by rw [hz1]; exact Nat.ne_of_lt (Nat.lt_succ_of_lt hlS)) items).toS) s.heap.objs.size
        (by rw [hz1]; simp only [List.mem_cons, List.not_mem_nil, or_false, not_or]; exact ⟨Nat.ne_of_lt (Nat.lt_succ_self _), Nat.ne_of_gt hlS⟩) ks hisz hfew nd hval s.heap hk (free _ (Nat.le_refl _)) (fun b hb => free b (by rw [List.mem_singleton.mp hb, hz1]; exact Nat.le_succ _)) hu items.size 0 _ [] #[] 0 _ (Nat.zero_add _)
        ⟨⟨_, Heap.get?_push_size _ rfl, rfl, rfl⟩, hl1.push _⟩ (fun b o e => Heap.get?_push_of_some _ (Heap.get?_push_of_some _ e)) (setU_empty (Heap.get?_push_of_some _ hS)) (List.Perm.refl _) ?_
      intro s' L es ep t hm hU pm hkp
      obtain ⟨h', g2, d', tk', os'⟩ := s'
      have eg : g2 = s.gens := hm.gens
      have ed : d' = s.drawn := hm.drawn
      have eo : os' = s.os := hm.os
      subst eg
      subst ed
      subst eo
      show wpAny _ _ _ _ _ _
      refine wpAny_pure ?_
      show wpAny _ _ (ret Value.none) _ _ _
      exact wpAny_pure ⟨rfl, h', tk', L, es, ep, t, rfl, hU, pm, hkp⟩
    · cases r₂ with
      | error e => exact hr₂
      | ok fl₂ =>
        cases fl₂ with
        | ret r =>
          obtain ⟨rfl, h', tk, L, es, ep, t, rfl, hU, pm, hk'⟩ := hr₂
          repeat (any_goals (first | assumption | wp_step))
          exact h _ _ _ _ _ _ hU pm hk'
        | _ => exact hr₂.elim
  · exact hr
end
/-! ### len(set(xs)) -/
section
variable {X : Cx}
/-- the items of xs are tuples of these ints, all different -/
def tLenSetT (K : PySem.W.Frag) (ta : TE) : TE := fun σ H Q => ta σ H fun x H1 => ∃ (l : Addr) (ks : List (Addr × List Int)), x = V.ref l ∧ SqL K H1 l (ks.map fun p => V.ref p.1) ∧ (∀ p ∈ ks, SqT K H1 p.1 (p.2.map V.int)) ∧ (ks.map (·.2)).Nodup ∧ ks.length ≤ 300 ∧ Q (.int ks.length) H1
theorem pe_lenSetT {a : Expr} {ta : TE} {p p2 q pos : Pos} (hc : X.calm = true) (hu : X.A.units + 64 < cLine) (hg : Gl X "len") (hm : X.mg "len" = none) (hg2 : Gl X "set") (hm2 : X.mg "set" = none) (ha : PE X a ta)
    (na : starEach [a] X.env = (false, eval a X.env) :: starEach [] X.env := by rfl) : PE X (.Call (.Name "len" p) [.Call (.Name "set" p2) [a] [] q] [] pos) (tLenSetT X.K ta) := by
  refine ⟨fun pins s σ H Q I h => ?_⟩
  refine Call_ (ld_blt I hg hm PySem.boot_len ?_)
  refine PyProof.Rows.callWith_builtin1 (PyProof.Rows.args_cons ?_ rfl) rfl rfl
  refine Call_ (ld_blt I hg2 hm2 PyProof.Rows.boot_set ?_)
  refine PyProof.Rows.callWith_type1 (PyProof.Rows.args_cons (thn (ha.run pins s σ H _ I h) fun v s1 ⟨x, H1, I1, r1, q1⟩ => PyProof.Rows.args_nil ?_) na) na rfl
  obtain ⟨l, ks, rfl, hl, hk, nd, hf, q1⟩ := q1
  rw [show v = Value.ref l from r1]
  obtain ⟨its, rv, pl, hz⟩ := I1.list hl
  refine call_set_new (P := X.prog) (w := X.w) ks (I1.ok.hd hc) pl.isList (by simpa using refs_of_vals rv) (fun p hp => I1.isT (hk p hp)) nd hf (by omega) fun h' tk L es ep t U pm k => ?_
  refine PyProof.Rows.args_nil ?_
  obtain ⟨o, ho, hex, hd⟩ := U.ob
  have hsz := rows_size U.rows
  have hlen := pm.length_eq
  have I2 : Inv X pins σ H1 { s1 with heap := h', toks := tk } := I1.kept fun b o e => k b o e
  refine call_len_set ho hex hd (by rw [hsz]; exact U.tab.fits U.room) (by rw [hsz]; omega) ⟨.int ks.length, H1, I2.tok _, ⟨_, by rw [hsz, hlen]⟩, q1⟩
end
theorem st_lenSetT {K : PySem.W.Frag} {ta : TE} {σ : L2.St} {H : Hp} {Q : VK} (h : ta σ H fun x H1 => ∃ (l : Addr) (ks : List (Addr × List Int)), x = V.ref l ∧ SqL K H1 l (ks.map fun p => V.ref p.1) ∧ (∀ p ∈ ks, SqT K H1 p.1 (p.2.map V.int)) ∧ (ks.map (·.2)).Nodup ∧ ks.length ≤ 300 ∧ Q (.int ks.length) H1) : tLenSetT K ta σ H Q := h
end Z
namespace Z
open PySem PySem.Spec PyProof.Rows L2
section
variable {G H : Hp} {W : Wl} {Q : VK} {σ : L2.St} {vs : List Nat} {tt : TT} {te : TE}
/-- [.. for i in range(lo, z)], the variable at slot j -/
theorem lc_r2 {lo z : Int} {j : Nat} (hz : -(2 ^ 62) ≤ lo ∧ lo < 2 ^ 62 ∧ -(2 ^ 62) ≤ z ∧ z < 2 ^ 62) (I : Nat → List V → Hp → Prop) (w : Wd G W H) (h0 : I 0 [] G) (hw : ∀ x, wipe ((wipe σ vs).set j x) vs = wipe σ vs)
    (hs : ∀ (i : Nat) D G' H' acc, lo + (i : Int) < z → Same G G' → Wd G' ((D, Is (.lst acc)) :: W) H' → I i acc G' → tt ((wipe σ vs).set j (some (.int (lo + (i : Int))))) H' fun b H3 =>
      if b = true then te ((wipe σ vs).set j (some (.int (lo + (i : Int))))) H3 fun y H4 => ∃ acc, H4 D = some (.lst acc) ∧ acc.length < sizeLine ∧ LcB I G W D (i + 1) (upd H4 D (.lst (acc ++ [y]))) else LcB I G W D (i + 1) H3)
    (hd : ∀ D G' H' acc, Same G G' → Wd G' ((D, Is (.lst acc)) :: W) H' → I (z - lo).toNat acc G' → Q (.ref D) H') :
    ∃ i j' : Int, [V.int lo, V.int z] = [.int i, .int j'] ∧ (-(2 ^ 62) ≤ i ∧ i < 2 ^ 62 ∧ -(2 ^ 62) ≤ j' ∧ j' < 2 ^ 62) ∧ LcQ (Itr i (j' - i).toNat) (gName j) tt te vs σ H Q :=
  ⟨lo, z, rfl, hz, lc_go walk_range I w (fun _ _ _ _ _ => trivial) h0 (fun i x D G' H' H'' acc hi e w' h y => by
    obtain ⟨rfl, rfl⟩ := y
    exact ⟨hw _, hs i D G' H'' acc (by omega) e w' h⟩) hd⟩
end
end Z

/-! min(x, y, key=f), f a def -/
namespace Z
open PySem PySem.Spec PyProof.Rows L2
theorem args_min2_key (a b v : Value) : argsOk "min" ⟨[a, b], [(Str.ofString "key", v)]⟩ := by unfold argsOk; kernel_rfl
def rMinK2 (f : Addr) (sp : Sp) (dvs : List V) : List V → List V → Hp → VK → Prop := fun xs zs H Q => ∃ (a b : Addr) (c1 c2 : Int), xs = [.ref a, .ref b] ∧ zs = [.ref f] ∧
  (∀ Q' : VK, Q' (.int c1) H → sp ([.ref a] ++ dvs) H Q' E0) ∧ (∀ Q' : VK, Q' (.int c2) H → sp ([.ref b] ++ dvs) H Q' E0) ∧ Q (.ref (if c2 < c1 then b else a)) H
theorem cr_min2K {X : Cx} {k : Nat} {f : Addr} {fd : FuncData} {ps : List Str} {sp : Sp} {dvs : List V} {ds : List Value} (Fn : FnOk X.prog X.w X.K X.mg X.base CX0 k f fd ps sp) (hr : Room (k + 1) X.A) (hb : Binds X.K fd ps ds) (hd : Vals dvs ds) :
    CallRK X (.builtin "min") [Str.ofString "key"] (rMinK2 f sp dvs) := by
  intro pins s σ H xs zs us ws Q I r rz h
  obtain ⟨a, b, c1, c2, rfl, rfl, h1, h2, q⟩ := h
  obtain ⟨u1, u2, rfl, r1, r2⟩ := vals2 r
  obtain rfl : u1 = Value.ref a := r1
  obtain rfl : u2 = Value.ref b := r2
  obtain ⟨u3, rfl, r3⟩ := vals1 rz
  obtain rfl : u3 = Value.ref f := r3
  show wpAny _ _ (call (.builtin "min") [.ref a, .ref b] [(Str.ofString "key", .ref f)]) _ _ s
  refine PyProof.Rows.kmk_tree F.kind_min F.plain_min F.entry_min (args_min2_key _ _ _) ?_
  have hH0 : ∀ n, s.heap.objs.size ≤ n → H n = none := fun n hn => I.hok.fresh hn
  show wpAny _ X.A.in1 (Builtin.Builtins.bindParams "min" ["key", "default"] 0 ⟨[], [(Str.ofString "key", .ref f)]⟩ >>= _) _ _ s
  refine wpAny_bind (wpAny_of_eq (show Builtin.Builtins.bindParams "min" ["key", "default"] 0 ⟨[], [(Str.ofString "key", .ref f)]⟩ = pure [some (.ref f), none] from rfl) ?_)
  show wpAny _ X.A.in1 (newTuple [.ref a, .ref b] >>= _) _ _ s
  refine wpAny_bind (wpAny_newObj_type ?_)
  have hT : (s.heap.push { cls := .type "tuple", data := .seq #[Value.ref a, .ref b] }).IsTuple s.heap.objs.size #[Value.ref a, .ref b] := ⟨_, Heap.get?_push_size _ rfl, rfl, 0, rfl⟩
  refine wpAny_bind (wpAny_pyIter_tuple (s := { s with heap := s.heap.push { cls := .type "tuple", data := .seq #[Value.ref a, .ref b] } }) hT ?_)
  refine wpAny_bind (wpAny_newObj_type ?_)
  have z1 : (s.heap.push { cls := .type "tuple", data := .seq #[Value.ref a, .ref b] }).objs.size = s.heap.objs.size + 1 := Heap.size_push ..
  dsimp only
  have hIt : ((s.heap.push { cls := .type "tuple", data := .seq #[Value.ref a, .ref b] }).push { cls := .type "tuple_iterator", data := .fields #[.ref s.heap.objs.size, .int 0 0] }).IsTupleIter (s.heap.objs.size + 1) s.heap.objs.size 0 := by
    rw [← z1]
    exact ⟨_, Heap.get?_push_size _ rfl, rfl, rfl⟩
  have z2 : ((s.heap.push { cls := .type "tuple", data := .seq #[Value.ref a, .ref b] }).push { cls := .type "tuple_iterator", data := .fields #[.ref s.heap.objs.size, .int 0 0] }).objs.size = s.heap.objs.size + 2 := by
    rw [Heap.size_push, z1]
  rw [z1]
  have hT2 := hT.push { cls := .type "tuple_iterator", data := .fields #[.ref s.heap.objs.size, .int 0 0] }
  have kp2 : ∀ c o, s.heap.get? c = some o → ((s.heap.push { cls := .type "tuple", data := .seq #[Value.ref a, .ref b] }).push { cls := .type "tuple_iterator", data := .fields #[.ref s.heap.objs.size, .int 0 0] }).get? c = some o := fun c o e => Heap.get?_push_of_some _ (Heap.get?_push_of_some _ e)
  generalize (s.heap.push { cls := .type "tuple", data := .seq #[Value.ref a, .ref b] }).push { cls := .type "tuple_iterator", data := .fields #[.ref s.heap.objs.size, .int 0 0] } = h2' at hIt z2 hT2 kp2 ⊢
  have hS3 : (h2'.push { cls := .type "list", data := .seq ([] : List Value).toArray }).get? (s.heap.objs.size + 2) = some { cls := .type "list", dict := none, data := .seq #[] 0, slots := #[] } := by
    rw [← z2]
    exact Heap.get?_push_size _ rfl
  have hname : (toString "min" ++ toString ".loop" : String) = "min.loop" := by decide
  rw [hname, z2]
  have kp3 : ∀ c o, s.heap.get? c = some o → (h2'.push { cls := .type "list", data := .seq ([] : List Value).toArray }).get? c = some o := fun c o e => Heap.get?_push_of_some _ (kp2 c o e)
  have hIt3 := hIt.at (h' := h2'.push { cls := .type "list", data := .seq ([] : List Value).toArray }) fun o e => Heap.get?_push_of_some _ e
  have hT3 := hT2.push { cls := .type "list", data := .seq ([] : List Value).toArray }
  generalize h2'.push { cls := .type "list", data := .seq ([] : List Value).toArray } = h3 at hS3 kp3 hIt3 hT3 ⊢
  obtain ⟨tp, htp⟩ : ∃ tp, tp = s.heap.objs.size := ⟨_, rfl⟩
  have fpT := I.fpOk (H' := H) (b := tp) (by omega) (hH0 _ (by omega))
  have fpI := I.fpOk (H' := H) (b := tp + 1) (by omega) (hH0 _ (by omega))
  have fpS := I.fpOk (H' := H) (b := tp + 2) (by omega) (hH0 _ (by omega))
  rw [← htp] at hIt3 hT3 hS3 ⊢
  have I3 : Inv X pins σ H { s with heap := h3 } := I.kept (t' := s.toks) kp3
  clear hIt hT hT2 kp2 hH0 htp
  have W := (Walks.tuple (prog := X.prog) (w := X.w) (A := X.A.in1) hr.hd (tp + 1) tp (Nat.ne_of_lt (Nat.lt_succ_self _)) #[Value.ref a, Value.ref b]).toS
  have stays : ∀ {s1 s2 : Shared} {Q' : VK} {u : Value}, Inv X pins σ H s1 → CE X.stack X.prog X.w H s1 Q' u s2 → ∀ c o, FpOk X pins H c → s1.heap.get? c = some o → s2.heap.get? c = some o := fun {s1 s2 Q' u} J hq c o fc e => by
    obtain ⟨_, _, _, _, un, _⟩ := hq
    refine un.keep c o e fc.1 (fun hm => ?_) (by simp)
    rcases List.mem_cons.mp (J.stkSub c hm) with z | z
    · exact fc.2.1 z
    · exact fc.2.2.1 z
  have KR : KeyRun X.prog X.w X.A.in1 (.ref f) .Lt (tp + 2) [tp + 1] (fun a b => b = a) 2 (fun i v => (#[Value.ref a, Value.ref b])[i]? = some v) (fun i s => s.heap.IsTupleIter (tp + 1) tp i ∧ s.heap.IsTuple tp #[Value.ref a, Value.ref b])
      (fun s => Inv X pins σ H s) (fun i v _ => ∃ t, v = Value.int (if i = 0 then c1 else c2) t) (fun i j => decide ((if i = 0 then c1 else c2) < (if j = 0 then c1 else c2))) := by
    refine ⟨fun s1 s2 J hm => ?_, fun _ _ _ _ h _ => h, fun i v s1 o Q' E' hi hP J hst hS hk => ?_, fun i j ki kj s1 Q' E' J h1 h2 hq => ?_⟩
    · obtain ⟨h', g', d', tk', os'⟩ := s2
      have eg : g' = s1.gens := hm.gens
      have ed : d' = s1.drawn := hm.drawn
      have eo : os' = s1.os := hm.os
      subst eg
      subst ed
      subst eo
      refine J.turnedL (t' := tk') (ch := [tp + 2, tp + 1]) (fun b o hb e => hm.heap b o hb e) fun b hb => ?_
      rcases List.mem_cons.mp hb with rfl | hb
      · exact fpS
      · rw [List.mem_singleton.mp hb]
        exact fpI
    · obtain ⟨x, cx, rfl, hsp, hcx⟩ : ∃ (x : Addr) (cx : Int), v = .ref x ∧ (∀ Q' : VK, Q' (.int cx) H → sp ([.ref x] ++ dvs) H Q' E0) ∧ (if i = 0 then c1 else c2) = cx := by
        match i, hi, hP with
        | 0, _, hP =>
          cases hP
          exact ⟨a, c1, rfl, h1, rfl⟩
        | 1, _, hP =>
          cases hP
          exact ⟨b, c2, rfl, h2, rfl⟩
      have hs := hsp (fun u _ => u = .int cx) rfl
      have r2 : Vals ([.ref x] ++ dvs) ([.ref x] ++ ds) := (show Vals [V.ref x] [Value.ref x] from .cons rfl .nil).append hd
      have hl : ([Value.ref x] ++ ds).length = ps.length := by rw [← r2.length]; exact Fn.len _ _ _ _ hs
      refine wpAny_call (codeAny_mono (Fn.run X.A.in1 X.stack s1 H ⟨[.ref x], []⟩ ([.ref x] ++ ds) ([.ref x] ++ dvs) (fun u H' => u = .int cx ∧ H' = H) E0 hr.in1 J.env0.in1 (hb s1 [.ref x] J.kIn hl) r2 (hsp _ ⟨rfl, rfl⟩)) fun r s2 hq => ?_)
      cases r with
      | error e => exact False.elim hq
      | ok fl =>
        cases fl with
        | ret u =>
          have hq : CE X.stack X.prog X.w H s1 (fun u H' => u = .int cx ∧ H' = H) u s2 := hq
          obtain ⟨vu, H', J2, ru, rfl, rfl⟩ := J.after hq
          obtain ⟨tu, rfl⟩ := (show ∃ t, u = Value.int cx t from ru)
          refine hk _ s2 J2 ⟨hst.1.at fun o e => stays J hq _ o fpI e, hst.2.at fun o e => stays J hq _ o fpT e⟩ (stays J hq _ o fpS hS) ⟨tu, by rw [hcx]⟩ fun _ _ h => h
        | next => exact False.elim hq
        | brk => exact False.elim hq
        | cont => exact False.elim hq
    · obtain ⟨t1, rfl⟩ := h1
      obtain ⟨t2, rfl⟩ := h2
      exact (show wpAny _ _ (compareOp .Lt (.int _ t1) (.int _ t2)) _ _ _ from PyProof.Rows.lt_int hq)
  refine wpAny_pure ⟨plainId_quiet F.plain_min_loop _, codeAny_min_loop_firstK W (tp + 2) (by simp) KR _ (show 0 < 2 by decide) I3 ⟨hIt3, hT3⟩ hS3 fun v s' hP J => ?_⟩
  have hv : v = .ref (if c2 < c1 then b else a) := by
    by_cases hc : c2 < c1
    · rw [if_pos hc]
      have e : argBest (fun i j => decide ((if i = 0 then c1 else c2) < (if j = 0 then c1 else c2))) ((#[Value.ref a, Value.ref b] : Array Value).size - 1) = 1 := by simp [argBest, hc]
      rw [e] at hP
      cases hP
      rfl
    · rw [if_neg hc]
      have e : argBest (fun i j => decide ((if i = 0 then c1 else c2) < (if j = 0 then c1 else c2))) ((#[Value.ref a, Value.ref b] : Array Value).size - 1) = 0 := by simp [argBest, hc]
      rw [e] at hP
      cases hP
      rfl
  rw [hv]
  exact ⟨.ref (if c2 < c1 then b else a), H, J, rfl, q⟩
end Z
/-! enumerate(xs, 1) of a list -/
namespace PySem
open AutoSeq1 (wpAny_loadPart')
theorem typeCall_enum2 (a b : Value) : checkTypeCall "enumerate" ⟨[a, b], []⟩ = pure () := by kernel_rfl
theorem newCall_enum2 (a b : Value) : checkBuiltinCall "enumerate.__new__" ⟨[.type "enumerate", a, b], []⟩ = pure () := by kernel_rfl
theorem args_object_init_3 (a b c : Value) : argsOk "object.__init__" ⟨[a, b, c], []⟩ := by
  unfold argsOk; rw [signature?_of (id := "object.__init__") (n := ['_', '_', 't', 'i', 'n', 'i', '_', '_']) (o := ['t', 'c', 'e', 'j', 'b', 'o']) (by kernel_rfl) PySem.F.owner_object]; kernel_rfl
theorem oneEnumNew (l : Addr) (its : Array Value) (n : Nat) (dd : Option Addr) (sl : Array (Option Value)) (t1 : Tok) :
    Meets (Builtin.«enumerate.__new__» ⟨[.type "enumerate", .ref l, .int 1 t1], []⟩) (fun _ R s => s.heap.get? l = some { cls := .type "list", dict := dd, data := .seq its n, slots := sl } ∧
      R (.ok (.ret (.ref (s.heap.push { cls := .type "list_iterator", data := .fields #[.ref l, .int 0 0] }).objs.size)))
        { s with heap := (s.heap.push { cls := .type "list_iterator", data := .fields #[.ref l, .int 0 0] }).push { cls := .type "enumerate", data := .fields #[.none, .bool false, .ref s.heap.objs.size, rawInt 1, .none, .none] } }) :=
  .of_wp fun prog w A R s q => by
    obtain ⟨hp, g, d, tk, os⟩ := s
    obtain ⟨hl, hR⟩ := q
    have hsub := sub_enumerate
    have hT : Heap.IsList (Shared.heap ⟨hp, g, d, tk, os⟩) l its := ⟨_, hl, rfl, n, rfl⟩
    wp_walk using wpAny_loadPart' hl
    refine wpAny_stack_any fun st => wpAny_pure ?_
    split
    · rename_i c _ _ _ _ _
      cases (c == Value.type "enumerate") <;> (wp_walk using wpAny_loadPart' hl, wpAny_pyIter_list hT; exact ⟨_, rfl, hR⟩)
    · wp_walk using wpAny_loadPart' hl, wpAny_pyIter_list hT
      exact ⟨_, rfl, hR⟩
end PySem
namespace PySem
theorem oneEnumCall {prog : Program} {w : World} {A : Around} {E : Value → Shared → Prop} {s : Shared} {l : Addr} {its : Array Value} {t1 : Tok} {Q : Value → Shared → Prop} (hL : s.heap.IsList l its)
    (k : ∀ h', IsEnum h' (s.heap.objs.size + 1) s.heap.objs.size 1 .none → h'.IsListIter s.heap.objs.size l 0 → h'.IsList l its → (∀ b o, s.heap.get? b = some o → h'.get? b = some o) →
      Q (.ref (s.heap.objs.size + 1)) { s with heap := h' }) : wpAny (model prog w) A (call (.type "enumerate") [.ref l, .int 1 t1]) Q E s := by
  have hL0 := hL
  obtain ⟨⟨c, dd, dt, sl⟩, hl, hc, n, hd⟩ := hL
  obtain rfl : c = .type "list" := hc
  obtain rfl : dt = .seq its n := hd
  refine callType_new F.called_enumerate (by decide) (typeCall_enum2 _ _) (newCall_enum2 _ _) (fun obj => args_object_init_3 obj _ _) F.entry_enumerate_new (oneEnumNew l its n dd sl t1) ⟨hl, ?_⟩
  have hz : (s.heap.push { cls := .type "list_iterator", data := .fields #[.ref l, .int 0 0] }).objs.size = s.heap.objs.size + 1 := Heap.size_push ..
  show _ ∧ _
  rw [hz]
  have he : IsEnum ((s.heap.push { cls := .type "list_iterator", data := .fields #[.ref l, .int 0 0] }).push { cls := .type "enumerate", data := .fields #[.none, .bool false, .ref s.heap.objs.size, rawInt 1, .none, .none] })
      (s.heap.objs.size + 1) s.heap.objs.size 1 .none := hz ▸ Heap.get?_push_size _ rfl
  exact ⟨⟨_, he, rfl⟩, k _ he ⟨_, Heap.get?_push_of_some _ (Heap.get?_push_size _ rfl), rfl, rfl⟩ ((hL0.push _).push _) fun b o x => Heap.get?_push_of_some _ (Heap.get?_push_of_some _ x)⟩
/-- a list's iterator, told one number higher -/
theorem Draws.later {prog : Program} {w : World} {A : Around} (hh : A.handled = none) (it l : Addr) (hne : l ≠ it) (items : Array Value) :
    Draws prog w A it [it, l] (items.size + 1) (fun i v => ∃ j, i = j + 1 ∧ items[j]? = some v) (fun i h => ∃ j, i = j + 1 ∧ h.IsListIter it l j ∧ h.IsList l items) where
  live := fun _ _ ⟨_, _, st, _⟩ => let ⟨o, ho, _⟩ := st; ⟨o, ho⟩
  frame := fun _ _ _ ⟨j, e, st⟩ hk => ⟨j, e, st.1.at fun o e => hk it (by simp) o e, st.2.at fun o e => hk l (by simp) o e⟩
  item := fun i s Q E hi ⟨j, e, st⟩ hQ => by
    subst e
    refine (Draws.list (prog := prog) (w := w) hh it l hne items).item j s Q E (by omega) st fun x h' tk hP hst hs => hQ x h' tk ⟨j, rfl, hP⟩ ⟨j + 1, rfl, hst⟩ hs
  done := fun s Q E ⟨j, e, st⟩ hE => by
    obtain rfl : j = items.size := by omega
    exact (Draws.list (prog := prog) (w := w) hh it l hne items).done s Q E st hE
end PySem
namespace Z
open PySem PySem.Spec PyProof.Rows L2
def Ite1 (K : PySem.W.Frag) (a : Addr) : It :=
  ⟨fun i H => ∃ (xs : List V) (x : V), SqL K H a xs ∧ xs[i]? = some x, fun i H v H' => ∃ T x, v = .ref T ∧ H T = none ∧ H' = upd H T (.tup [.int ((i + 1 : Nat) : Int), x]) ∧ ∀ xs, SqL K H a xs → xs[i]? = some x,
    fun i H => ∃ xs : List V, SqL K H a xs ∧ xs.length ≤ i⟩
theorem lst_ne {h : Heap} {a b : Addr} {its : Array Value} {o : Obj} {n : String} (p : h.IsList a its) (ho : h.get? b = some o) (hc : o.cls = .type n) (hn : n ≠ "list") : a ≠ b := fun z => by
  obtain ⟨o', e, c, _⟩ := p
  rw [z, ho] at e
  cases e
  have c : o.cls = .type "list" := c
  rw [hc] at c
  exact hn (by injection c)
theorem turn_enum1 {P : Program} {w : World} {K : PySem.W.Frag} {elts : List Expr} {kk : Nat} {tpos : Pos} (a e it : Addr) :
    Turn P w K (.Tuple elts kk tpos) (Ite1 K a) [e, it] e (fun i h => (∃ old, IsEnum h e it ((i + 1 : Nat) : Int) old) ∧ h.IsListIter it a i ∧ e ≠ it) where
  mem := List.mem_cons_self
  obj := fun i h st b hb => by
    obtain ⟨⟨old, he⟩, ⟨o, ho, hc, hd⟩, _⟩ := st
    rcases (show b = e ∨ b = it by simpa using hb) with z | z
    · exact z ▸ ⟨_, he, fun v q => nomatch q⟩
    · exact z ▸ ⟨o, ho, fun v q => by rw [hd] at q; cases q⟩
  keep := fun i h h' st k => let ⟨⟨old, he⟩, hi, hne⟩ := st; ⟨⟨old, k e List.mem_cons_self _ he⟩, hi.at fun o q => k it (by simp) o q, hne⟩
  item := by
    intro X hP hw hK hc i pins s σ H E I hf st hg
    cases hP; cases hw; cases hK
    obtain ⟨⟨old, he⟩, hit, hne⟩ := st
    obtain ⟨xs, x, hq, hx⟩ := hg
    obtain ⟨its, rv, p, hz⟩ := I.list hq
    obtain ⟨u, hu, ru⟩ := rv.get hx
    obtain ⟨oi, hoi, hci, _⟩ := id hit
    have pl : s.heap.IsList a its.toArray := p.isList
    have nai : a ≠ it := lst_ne pl hoi hci (by decide)
    have nae : a ≠ e := lst_ne pl he rfl (by decide)
    have hel := Heap.lt_size he
    have hil := Heap.lt_size hoi
    have hlt : i < its.length := (List.getElem?_eq_some_iff.mp hu).1
    refine wpAny_pyNext_enum_itemD (Draws.later (A := X.A.in1) (I.ok.hd hc) it a nai its.toArray) he ⟨i, rfl, hit, pl⟩ (by simpa using hlt) hne (by simp [hne, nae.symm]) fun v h' tk hv ho hst hT hsz hk => ?_
    obtain ⟨j, hj, hv⟩ := hv
    obtain rfl : j = i := by omega
    obtain rfl : u = v := by
      have hv' : its[j]? = some v := by simpa using hv
      rw [hu] at hv'
      exact Option.some.inj hv'
    refine ⟨_, rfl, wpAny_letOwnedTupleGo_enum (s := { s with heap := h', toks := tk + 1 }) ho fun h'' he' sb => ?_⟩
    have hT2 := (sb.2 _ (Nat.ne_of_gt hel)).trans hT
    have new : ObjOk X.prog X.w (upd H s.heap.objs.size (.tup [.int ((j + 1 : Nat) : Int), x])) h'' s.heap.objs.size (.tup [.int ((j + 1 : Nat) : Int), x]) :=
      ⟨by show 2 ≤ sizeLine; decide, [.int ((j + 1 : Nat) : Int) tk, u], .cons ⟨_, rfl⟩ (.cons ru .nil), ⟨_, hT2, rfl, _, rfl⟩⟩
    have I1 := I.turnedNew (t' := tk + 1) (ch := [e, it]) (fun b ob hb q => (sb.2 b (fun z => hb (by simp [z]))).trans (hk b ob (fun z => hb (by simp [z])) (fun z => hb (by simp [z])) q)) hf (Nat.le_refl _) new
    obtain ⟨j2, hj2, hst2, _⟩ := hst
    obtain rfl : j2 = j + 1 := by omega
    refine ⟨.ref s.heap.objs.size, _, I1, rfl, ⟨_, x, rfl, I.hok.fresh (Nat.le_refl _), rfl, fun ys hy => by rw [I.list_inj hy hq]; exact hx⟩, ⟨⟨u, ?_⟩, hst2.at fun o q => (sb.2 it (Ne.symm hne)).trans q, hne⟩, fun b hb => ?_⟩
    · rw [show ((j + 1 + 1 : Nat) : Int) = ((j + 1 : Nat) : Int) + 1 by omega]
      exact he'
    · have hb' : b < s.heap.objs.size := by
        rcases (show b = e ∨ b = it by simpa using hb) with z | z
        · exact z ▸ hel
        · exact z ▸ hil
      rw [upd_ne (Nat.ne_of_lt hb')]
      exact (hf b hb).1
  done := by
    intro X hP hw hK hc i pins s σ H E I hf st hg
    cases hP; cases hw; cases hK
    obtain ⟨⟨old, he⟩, hit, hne⟩ := st
    obtain ⟨xs, hq, hx⟩ := hg
    obtain ⟨its, rv, p, hz⟩ := I.list hq
    obtain ⟨oi, hoi, hci, hdi⟩ := id hit
    obtain ⟨f0, f1, f2, f3, f4, f5⟩ := hf it (by simp)
    have hl := rv.length
    have nai : a ≠ it := lst_ne p.isList hoi hci (by decide)
    have ty : s.TypeIs (.ref e) "enumerate" := ⟨_, he, rfl⟩
    unfold pyNext
    refine wpAny_bind (wpAny_attempt (wpAny_callSpecial?_slot (name := Str.ofString "__next__") ty F.slot_enumerate_next (wpAny_call_entry F.slot_enumerate_next ty F.entry_enumerate_next ?_ (F.args_enumerate_next_1 _))))
    show wpAny _ _ (field (.ref e) 2 >>= _) _ _ _
    refine wpAny_bind (wpAny_field he rfl (x := .ref it) rfl (wpAny_bind (wpAny_nextOf_list_end (I.ok.hd hc) hit p.isList (by simp; omega) fun h' x he' ⟨o, ho, hc⟩ => ?_)))
    exact wpAny_bind (wpAny_isInstance (T := "StopIteration") (b := true) ⟨o, ho, hc⟩ isSubtype_stop (wpAny_pure ⟨rfl, I.turned (t' := s.toks) (fun b o hb q => he' b o hb q) f0 f1 f3 f4 f5⟩))
  self := fun A i s Q E st h => let ⟨⟨_, he⟩, _⟩ := st; wpAny_pyIter_enum he h
def iEnum1 (K : PySem.W.Frag) (ta : TA) : TI := fun σ H R => ta σ H fun vs H1 => ∃ a xs, vs = [.ref a, .int 1] ∧ SqL K H1 a xs ∧ R (Ite1 K a) H1
theorem pi_enum1 {X : Cx} {e1 e2 : Expr} {ta : TA} {p pos tpos : Pos} {elts : List Expr} {kk : Nat} (hg : Gl X "enumerate") (hm : X.mg "enumerate" = none) (ha : PA X [e1, e2] ta)
    (hs : starEach [e1, e2] X.env = (false, eval e1 X.env) :: starEach [e2] X.env := by rfl) (hpl : (backTo pos (starEach [e2] X.env)).any (·.1) = false := by rfl) :
    PI X (.Tuple elts kk tpos) (.Call (.Name "enumerate" p) [e1, e2] [] pos) (iEnum1 X.K ta) := by
  refine ⟨fun pins s σ H R I h => Call_ (ld_blt I hg hm boot_enumerate (PyProof.Rows.callWith_type1 (thn (ha.run pos pins s σ H _ I h) fun us s1 ⟨vs, H1, I1, r1, a, xs, ex, hq, q⟩ => ?_) hs hpl))⟩
  subst ex
  obtain ⟨u1, u2, rfl, ra, rb⟩ := vals2 r1
  obtain rfl : u1 = Value.ref a := ra
  obtain ⟨t1, rfl⟩ := (show ∃ t, u2 = Value.int 1 t from rb)
  have fp : ∀ b ∈ [s1.heap.objs.size + 1, s1.heap.objs.size], FpOk X pins H1 b := fun b hb => by
    have hle : s1.heap.objs.size ≤ b := by
      rcases (show b = s1.heap.objs.size + 1 ∨ b = s1.heap.objs.size by simpa using hb) with z | z
      · exact z ▸ Nat.le_add_right _ _
      · exact z ▸ Nat.le_refl _
    exact I1.fpOk hle (I1.hok.fresh hle)
  obtain ⟨its, rv, p', hz⟩ := I1.list hq
  refine oneEnumCall p'.isList fun h' he hit hl hk => wpAny_pyIter_enum he ?_
  exact ⟨s1.heap.objs.size + 1, _, _, _, H1, rfl, I1.kept (t' := s1.toks) hk, turn_enum1 a (s1.heap.objs.size + 1) s1.heap.objs.size, ⟨⟨.none, he⟩, hit, Nat.succ_ne_self _⟩, fp, q⟩
theorem walk_enum1 {K : PySem.W.Frag} {a : Addr} {xs : List V} : Walk (Ite1 K a) xs.length (fun H => SqL K H a xs) (YPair (fun i => some (.int ((i + 1 : Nat) : Int))) (fun i => xs[i]?)) :=
  ⟨fun i H hi g => ⟨xs, xs[i], g, by simp [hi]⟩, fun H g => ⟨xs, g, Nat.le_refl _⟩, fun i H x H' hi g y => by
    obtain ⟨T, z, e1, e2, e3, e4⟩ := y
    exact ⟨T, _, z, e1, e2, e3, rfl, e4 xs g⟩⟩
end Z

/-! enumerate(xs, 1) in a loop; dict comprehensions; a dict for good that is locked for a comprehension over its keys -/
namespace Z
open PySem PySem.Spec PyProof.Rows L2
section
variable {K : PySem.W.Frag} {σ : L2.St} {H G : Hp} {W : Wl} {g : TG} {tb : TS} {nx : L2.St → Hp → Prop} {rt : VK} {Q : VK} {a b : Addr} {xs ys : List V} {n : Nat} {vs : List Nat} {tt : TT} {te : TE}
theorem st_iEnum1 {ta : TA} {R : It → Hp → Prop} (h : ta σ H fun vs H1 => ∃ a xs, vs = [.ref a, .int 1] ∧ SqL K H1 a xs ∧ R (Ite1 K a) H1) : iEnum1 K ta σ H R := h
/-- for i, x in enumerate(a list, 1) -/
theorem for_enum1 (hx : SqL K G a xs) {i1 i2 : Nat} (I : Nat → L2.St → Hp → Wl → Prop) (w : Wd G W H) (h0 : I 0 σ G W)
    (hs : ∀ (i : Nat) x σ' G' G'' W' H', xs[i]? = some x → Same G G' → I i σ' G' W' → Same G' G'' → Wd G'' W' H' → tb ⟨Btw I G (i + 1), rt, nx, Btw I G (i + 1)⟩ ((σ'.set i1 (some (.int ((i + 1 : Nat) : Int)))).set i2 (some x)) H')
    (hd : ∀ σ' G' W' H', Same G G' → Wd G' W' H' → I xs.length σ' G' W' → nx σ' H') :
    ∃ a' ys, [V.ref a, .int 1] = [.ref a', .int 1] ∧ SqL K H a' ys ∧ LoopQ (Ite1 K a') (gTup K 2 (gCons (gName i1) (gCons (gName i2) gNil))) tb nx rt σ H :=
  ⟨a, xs, rfl, seq_up w hx, loop_go walk_enum1 I w (fun _ _ _ e w' => seq_up w' (e.seq hx)) h0 (fun i x σ' G' W' H' H'' _ e w' h y => by
    obtain ⟨T, x1, x2, rfl, hn, rfl, e1, e2⟩ := y
    cases e1
    refine ⟨T, _, rfl, SqT.of upd_same, rfl, _, _, rfl, ?_⟩
    refine ⟨_, _, rfl, ?_⟩
    exact ⟨rfl, hs i x2 σ' G' _ W' _ e2 e h (same_upd (w'.free hn)) (w'.new hn)⟩) hd⟩
theorem st_lstRg {te : L2.St → Hp → (Int → Int → Hp → Prop) → Prop} (h : te σ H fun a b H1 => RgOk a b ∧ NewO (.lst (rgV a b)) H1 Q) : tLstRg te σ H Q := h
theorem st_orT {ta tb : TE} (h : ta σ H fun x H1 => ∃ k, TruV K x H1 k ∧ if k = true then Q x H1 else tb σ H1 Q) : tOrT K ta tb σ H Q := h
theorem st_rg2 {ta tb : TE} {R : Int → Int → Hp → Prop} (h : ta σ H fun x H1 => tb σ H1 fun y H2 => ∃ i j, x = .int i ∧ y = .int j ∧ R i j H2) : tRg2 ta tb σ H R := h
theorem st_min2K {f : Addr} {sp : Sp} {dvs : List V} {c1 c2 : Int} (h1 : ∀ Q' : VK, Q' (.int c1) H → sp ([.ref a] ++ dvs) H Q' E0) (h2 : ∀ Q' : VK, Q' (.int c2) H → sp ([.ref b] ++ dvs) H Q' E0) (q : Q (.ref (if c2 < c1 then b else a)) H) :
    rMinK2 f sp dvs [.ref a, .ref b] [.ref f] H Q := ⟨a, b, c1, c2, rfl, rfl, h1, h2, q⟩
/-! ### a dict for good, locked -/
theorem st_lockG {t : TS} {D : Ends} {d : Addr} {kvs : List (Key × V)} (w : Wd G W H) (hd : G d = some (.dK kvs))
    (h : ∀ od H', Wd (del G d) ((d, Is (.frz od (.dK kvs))) :: W) H' → t ⟨fun σ' H' => H' d = some (.frz od (.dK kvs)) ∧ D.nx σ' (upd H' d (.dK kvs)), fun v H' => H' d = some (.frz od (.dK kvs)) ∧ D.rt v (upd H' d (.dK kvs)),
      fun σ' H' => H' d = some (.frz od (.dK kvs)) ∧ D.bk σ' (upd H' d (.dK kvs)), fun σ' H' => H' d = some (.frz od (.dK kvs)) ∧ D.ct σ' (upd H' d (.dK kvs))⟩ σ H') : tLock t D σ H :=
  have w1 := w.thaw hd
  ⟨d, _, Wd.is1 w1, trivial, fun od => h od _ (Wd.put1 w1)⟩
theorem Wd.unlockG {G2 : Hp} {d : Addr} {u : HO} {od : Obj} (hd : G d = some u) (e : Same (del G d) G2) (w : Wd G2 ((d, Is (.frz od u)) :: W) H) :
    H d = some (.frz od u) ∧ ∃ G3, Same G G3 ∧ Same G2 G3 ∧ G3 d = some u ∧ Wd G3 W (upd H d u) := by
  have w2 := (Wd.unlock w).2
  obtain ⟨o, h1, h2, e2, w3⟩ := w2.freeze1
  obtain rfl := h1
  refine ⟨Wd.is1 w, _, fun b o hb => ?_, e2, upd_same, w3⟩
  by_cases hbd : b = d
  · subst hbd
    rw [upd_same, ← hd, hb]
  · exact e2 _ _ (e _ _ (del_at hb hbd))
theorem del_rd {d : Addr} {o : HO} {kvs : List (Key × V)} (hd : G d = some (.dK kvs)) (h : Rd G a o) (hn : ∀ kvs, o ≠ .dK kvs) : Rd (del G d) a o := by
  have hne : a ≠ d := by
    rintro rfl
    rcases h with h | ⟨od, h⟩
    · rw [hd] at h
      cases h
      exact hn _ rfl
    · rw [hd] at h
      cases h
  exact h.imp (fun h => del_at h hne) fun ⟨od, h⟩ => ⟨od, del_at h hne⟩
theorem del_seq {d : Addr} {kvs : List (Key × V)} (hd : G d = some (.dK kvs)) (h : SqL K G a xs) : SqL K (del G d) a xs := h.imp (fun h => del_rd hd h fun _ e => nomatch e) id
/-! ### a comprehension over the keys of a locked dict -/
theorem lc_keys {kvs : List (Key × V)} {d : Addr} {od : Obj} {j : Nat} (I : Nat → List V → Hp → Prop) (w : Wd G W H) (hm : (d, Is (.frz od (.dK kvs))) ∈ W) (h0 : I 0 [] G) (hw : ∀ x, wipe ((wipe σ vs).set j x) vs = wipe σ vs)
    (hs : ∀ (i : Nat) k v D G' H' acc, kvs[i]? = some (k, v) → Same G G' → Wd G' ((D, Is (.lst acc)) :: W) H' → I i acc G' → tt ((wipe σ vs).set j (some (kV k))) H' fun b H3 =>
      if b = true then te ((wipe σ vs).set j (some (kV k))) H3 fun y H4 => ∃ acc, H4 D = some (.lst acc) ∧ acc.length < sizeLine ∧ LcB I G W D (i + 1) (upd H4 D (.lst (acc ++ [y]))) else LcB I G W D (i + 1) H3)
    (hd : ∀ D G' H' acc, Same G G' → Wd G' ((D, Is (.lst acc)) :: W) H' → I kvs.length acc G' → Q (.ref D) H') :
    ∃ d' o, V.ref d = .ref d' ∧ ((∃ kvs, H d' = some (.frz o (.dK kvs)) ∧ LcQ (Itk d' o kvs) (gName j) tt te vs σ H Q) ∨ ∃ kvs, H d' = some (.frz o (.dT kvs)) ∧ LcQ (Itkt d' o kvs) (gName j) tt te vs σ H Q) := by
  have hat : ∀ {W' G' H'}, (d, Is (.frz od (.dK kvs))) ∈ W' → Wd G' W' H' → H' d = some (.frz od (.dK kvs)) := fun hm w' => by
    obtain ⟨o, ho, rfl⟩ := w'.get hm
    exact ho
  refine ⟨d, od, rfl, .inl ⟨kvs, hat hm w, fun D hD => lc_it walk_keys (LcB I G W D) ⟨G, [], Same.refl _, w.newM hD rfl, h0⟩ (fun _ _ _ ⟨_, _, e, w', _⟩ => hat (List.mem_cons_of_mem _ hm) w') (fun i x H' H'' hi ⟨G', acc, e, w', h⟩ y => ?_) fun H' ⟨G', acc, e, w', h⟩ => hd D G' H' acc e w' h⟩⟩
  obtain ⟨rfl, k, v, h1, rfl⟩ := y
  exact ⟨hw _, hs i k v D G' H'' acc h1 e w' h⟩
/-! ### dict comprehensions -/
def DcQ (J : It) (g : TG) (tt : TT) (tk tv : TE) (vs : List Nat) (σ : L2.St) (H1 : Hp) (Q : VK) : Prop := ∀ D, H1 D = none → ∃ W : Nat → Nat → Hp → Prop, (∃ m, W 0 m (upd H1 D (.dK []))) ∧ ∀ i m H, W i m H →
  (J.stop i H ∧ Q (.ref D) H) ∨ (J.go i H ∧ ∃ Nx : Hp → Prop, (∀ H', Nx H' → ∃ m', m' < m ∧ W (i + 1) m' H') ∧ ∀ x H', J.yld i H x H' → g x (wipe σ vs) H' fun σ2 H2 => wipe σ2 vs = wipe σ vs ∧ tt σ2 H2 fun b H3 =>
    if b = true then tk σ2 H3 fun y H4 => tv σ2 H4 fun z H5 => ∃ kvs k, y = kV k ∧ H5 D = some (.dK kvs) ∧ kvs.length < sizeLine ∧ Nx (upd H5 D (.dK (putK kvs k z))) else Nx H3)
theorem st_dc {wi : TI} {tk tv : TE} (h : wi σ H fun J H1 => DcQ J g tt tk tv vs σ H1 Q) : tDc wi g tt tk tv vs σ H Q := h
def DcB (I : Nat → List (Key × V) → Hp → Prop) (G : Hp) (W : Wl) (D : Addr) (i : Nat) : Hp → Prop := fun H => ∃ G' kvs, Same G G' ∧ Wd G' ((D, Is (.dK kvs)) :: W) H ∧ I i kvs G'
theorem dc_go {J : It} {Gp : Hp → Prop} {Y : Nat → Hp → V → Hp → Prop} {tk tv : TE} (wk : Walk J n Gp Y) (I : Nat → List (Key × V) → Hp → Prop) (w : Wd G W H) (hG : ∀ G' W' H', Same G G' → Wd G' W' H' → Gp H') (h0 : I 0 [] G)
    (hs : ∀ i x D G' H' H'' kvs, i < n → Same G G' → Wd G' ((D, Is (.dK kvs)) :: W) H' → I i kvs G' → Y i H' x H'' → g x (wipe σ vs) H'' fun σ2 H2 => wipe σ2 vs = wipe σ vs ∧ tt σ2 H2 fun b H3 =>
      if b = true then tk σ2 H3 fun y H4 => tv σ2 H4 fun z H5 => ∃ kvs k, y = kV k ∧ H5 D = some (.dK kvs) ∧ kvs.length < sizeLine ∧ DcB I G W D (i + 1) (upd H5 D (.dK (putK kvs k z))) else DcB I G W D (i + 1) H3)
    (hd : ∀ D G' H' kvs, Same G G' → Wd G' ((D, Is (.dK kvs)) :: W) H' → I n kvs G' → Q (.ref D) H') : DcQ J g tt tk tv vs σ H Q := fun D hD => by
  refine ⟨fun i m H => m = n - i ∧ i ≤ n ∧ DcB I G W D i H, ⟨n, by simp, Nat.zero_le _, ⟨G, [], Same.refl _, w.newM hD rfl, h0⟩⟩, ?_⟩
  rintro i m H ⟨rfl, hi, p⟩
  obtain ⟨G', kvs, e, w', h⟩ := id p
  have q : Gp H := hG _ _ _ e w'
  by_cases hlt : i < n
  · refine .inr ⟨wk.goes i H hlt q, DcB I G W D (i + 1), fun H' p' => ⟨n - (i + 1), by omega, rfl, hlt, p'⟩, fun x H' y => hs i x D G' H H' kvs hlt e w' h (wk.yields i H x H' hlt q y)⟩
  · have ei : i = n := by omega
    subst ei
    exact .inl ⟨wk.stops H q, hd D G' H kvs e w' h⟩
theorem dc_put {I : Nat → List (Key × V) → Hp → Prop} {G' : Hp} {i : Nat} {kvs : List (Key × V)} {k : Key} {y z : V} {D : Addr} (w : Wd G' ((D, Is (.dK kvs)) :: W) H) (e : Same G G') (hk : y = kV k) (hl : kvs.length < 1000000) (h : I i (putK kvs k z) G') :
    ∃ kvs k, y = kV k ∧ H D = some (.dK kvs) ∧ kvs.length < sizeLine ∧ DcB I G W D i (upd H D (.dK (putK kvs k z))) := by
  obtain ⟨o, ho, rfl⟩ := w.get List.mem_cons_self
  exact ⟨kvs, k, hk, ho, small' (Nat.le_of_lt hl), G', putK kvs k z, e, Wd.put (W1 := []) w rfl, h⟩
/-- {.. for i in range(lo, z)}, the variable at slot j -/
theorem dc_r2 {lo z : Int} {j : Nat} {tk tv : TE} (hz : -(2 ^ 62) ≤ lo ∧ lo < 2 ^ 62 ∧ -(2 ^ 62) ≤ z ∧ z < 2 ^ 62) (I : Nat → List (Key × V) → Hp → Prop) (w : Wd G W H) (h0 : I 0 [] G) (hw : ∀ x, wipe ((wipe σ vs).set j x) vs = wipe σ vs)
    (hs : ∀ (i : Nat) D G' H' kvs, lo + (i : Int) < z → Same G G' → Wd G' ((D, Is (.dK kvs)) :: W) H' → I i kvs G' → tt ((wipe σ vs).set j (some (.int (lo + (i : Int))))) H' fun b H3 =>
      if b = true then tk ((wipe σ vs).set j (some (.int (lo + (i : Int))))) H3 fun y H4 => tv ((wipe σ vs).set j (some (.int (lo + (i : Int))))) H4 fun u H5 => ∃ kvs k, y = kV k ∧ H5 D = some (.dK kvs) ∧ kvs.length < sizeLine ∧ DcB I G W D (i + 1) (upd H5 D (.dK (putK kvs k u))) else DcB I G W D (i + 1) H3)
    (hd : ∀ D G' H' kvs, Same G G' → Wd G' ((D, Is (.dK kvs)) :: W) H' → I (z - lo).toNat kvs G' → Q (.ref D) H') :
    ∃ i j' : Int, [V.int lo, V.int z] = [.int i, .int j'] ∧ (-(2 ^ 62) ≤ i ∧ i < 2 ^ 62 ∧ -(2 ^ 62) ≤ j' ∧ j' < 2 ^ 62) ∧ DcQ (Itr i (j' - i).toNat) (gName j) tt tk tv vs σ H Q :=
  ⟨lo, z, rfl, hz, dc_go walk_range I w (fun _ _ _ _ _ => trivial) h0 (fun i x D G' H' H'' kvs hi e w' h y => by
    obtain ⟨rfl, rfl⟩ := y
    exact ⟨hw _, hs i D G' H'' kvs (by omega) e w' h⟩) hd⟩
/-- {.. for x in a list} -/
theorem dc_l {j : Nat} {tk tv : TE} (hx : SqL K G a xs) (I : Nat → List (Key × V) → Hp → Prop) (w : Wd G W H) (h0 : I 0 [] G) (hw : ∀ x, wipe ((wipe σ vs).set j x) vs = wipe σ vs)
    (hs : ∀ (i : Nat) x D G' H' kvs, xs[i]? = some x → Same G G' → Wd G' ((D, Is (.dK kvs)) :: W) H' → I i kvs G' → tt ((wipe σ vs).set j (some x)) H' fun b H3 =>
      if b = true then tk ((wipe σ vs).set j (some x)) H3 fun y H4 => tv ((wipe σ vs).set j (some x)) H4 fun u H5 => ∃ kvs k, y = kV k ∧ H5 D = some (.dK kvs) ∧ kvs.length < sizeLine ∧ DcB I G W D (i + 1) (upd H5 D (.dK (putK kvs k u))) else DcB I G W D (i + 1) H3)
    (hd : ∀ D G' H' kvs, Same G G' → Wd G' ((D, Is (.dK kvs)) :: W) H' → I xs.length kvs G' → Q (.ref D) H') : ∃ a', V.ref a = .ref a' ∧ (∃ xs, SqL K H a' xs) ∧ DcQ (Itl K a') (gName j) tt tk tv vs σ H Q :=
  ⟨a, rfl, ⟨xs, seq_up w hx⟩, dc_go walk_list I w (fun _ _ _ e w' => seq_up w' (e.seq hx)) h0 (fun i x D G' H' H'' kvs _ e w' h y => by
    obtain ⟨rfl, y⟩ := y
    exact ⟨hw _, hs i x D G' H'' kvs y e w' h⟩) hd⟩
/-- keys put one after another: a row behind -/
theorem putK_new {v : V} {k : Key} {kvs : List (Key × V)} (h : ∀ p ∈ kvs, p.1 ≠ k) : putK kvs k v = kvs ++ [(k, v)] := by
  unfold putK
  rw [if_neg]
  intro he
  obtain ⟨p, hp, e⟩ := List.any_eq_true.mp he
  exact h p hp (of_decide_eq_true e)
end
end Z

/-! a comprehension over a generator that hands out a tuple's items -/
namespace Z
open PySem PySem.Spec PyProof.Rows L2 GenW
/-- all but the iterator at it is kept -/
def Kp (it : Addr) (s s' : Shared) : Prop := ∃ h tk, s' = { s with heap := h, toks := tk } ∧ ∀ b o, b ≠ it → s.heap.get? b = some o → h.get? b = some o
theorem Kp.more {it : Addr} {s s' : Shared} {h : Heap} {tk : Nat} (k : Kp it s s') (hk : ∀ b o, b ≠ it → s'.heap.get? b = some o → h.get? b = some o) : Kp it s { s' with heap := h, toks := tk } := by
  obtain ⟨h0, t0, rfl, k0⟩ := k
  exact ⟨h, tk, rfl, fun b o hb e => hk b o hb (k0 b o hb e)⟩
theorem Kp.refl {it : Addr} {s : Shared} : Kp it s s := ⟨s.heap, s.toks, rfl, fun _ _ _ e => e⟩
def TupV (h : Heap) (t : Addr) (xs : List V) : Prop := ∃ its : List Value, Vals xs its ∧ IsTup h t its.toArray
/-- n items are left behind the one that is handed out -/
def YTup (lo : Nat) (t : Addr) (xs : List V) : Protocol := fun n s₀ v s kap =>
  ∃ it x, lo ≤ it ∧ n < xs.length ∧ xs[xs.length - 1 - n]? = some x ∧ RelV x v ∧ Kp it s₀ s ∧ IsTupIter s.heap it t (xs.length - n) ∧ TupV s.heap t xs ∧ ∀ s', IsTupIter s'.heap it t (xs.length - n) → TupV s'.heap t xs → kap (.send .none) s'
def RTup (lo : Nat) : GenEnd := fun n s₀ r s => ((r = .ok (.ret .none) ∨ r = .ok .next) ∧ n = 0 ∧ ∃ it, lo ≤ it ∧ Kp it s₀ s) ∨ ∃ e, r = .error e ∧ False
abbrev yfC (it : Addr) : Code := .builtin "proto.yield_from" ⟨[.ref it, .bool false, .none], []⟩
section
variable {X : Cx} {A : Around} {fs : List Frame} {it t : Addr} {xs : List V} {lo : Nat}
theorem seg_turns (ho : (A.over (yfC it) fs).handled = none) (hsp : splitAtGen fs = none) (hgd : fs.any Frame.guarded = false) (hlo : lo ≤ it) (hne : t ≠ it)
    (hend : ∀ s₀ s, Kp it s₀ s → Seg (model X.prog X.w) A (RTup lo) (YTup lo t xs) 0 s₀ (yfC it) (.pure (.done (.ret .none))) fs s) :
    ∀ (n : Nat) (s₀ s : Shared), n ≤ xs.length → Kp it s₀ s → IsTupIter s.heap it t (xs.length - n) → TupV s.heap t xs → Seg (model X.prog X.w) A (RTup lo) (YTup lo t xs) n s₀ (yfC it) ((model X.prog X.w).den (yfC it)) fs s := by
  have one : ∀ {h : Heap} {j : Nat}, IsTupIter h it t j → ∃ o, h.get? it = some o ∧ o.cls = .type "tuple_iterator" := fun hi => by
    obtain ⟨o, h1, h2, _⟩ := hi
    exact ⟨o, h1, h2⟩
  have nog : (Value.type "tuple_iterator" != Value.type "generator") = true := by decide
  intro n
  induction n with
  | zero =>
    intro s₀ s _ hk hi ht
    rw [Nat.sub_zero] at hi
    obtain ⟨its, hv, ht⟩ := ht
    rw [den_yf (X := X)]
    unfold Builtin.«proto.yield_from»
    dsimp only
    refine seg_bind (wpAny_pure ?_)
    refine seg_bind (wpAny_attempt (wpAny_holding ?_)); rw [if_neg Bool.false_ne_true, if_pos (show (Value.none == Value.none) = true from rfl)]
    refine wpAny_bind (wpAny_rule (wpAny_bind (special_tup_end ho hi ht (Array.getElem?_eq_none (by have := hv.length; simp; omega)) fun e h' hS hb => ?_)))
    obtain ⟨a, o, vs, rfl, h1, h2, h3, h4⟩ := hS
    dsimp only
    refine seg_bind (wpAny_endsTurn h1 h2 ?_); rw [if_pos rfl]
    refine seg_bind (wpAny_rule ?_)
    refine seg_bind (wpAny_field h1 h3 h4 ?_)
    exact hend s₀ _ (hk.more hb)
  | succ n ih =>
    intro s₀ s hn hk hi ht
    obtain ⟨its, hv, ht⟩ := ht
    have hy : xs[xs.length - (n + 1)]? = some xs[xs.length - (n + 1)] := List.getElem?_eq_getElem (by omega)
    generalize xs[xs.length - (n + 1)] = y at hy
    obtain ⟨x, hx, rx⟩ := hv.get hy
    have hx : its.toArray[xs.length - (n + 1)]? = some x := by simpa using hx
    rw [den_yf (X := X)]
    unfold Builtin.«proto.yield_from»
    dsimp only
    refine seg_bind (wpAny_pure ?_)
    refine seg_bind (wpAny_attempt (wpAny_holding ?_)); rw [if_neg Bool.false_ne_true, if_pos (show (Value.none == Value.none) = true from rfl)]
    refine wpAny_bind (wpAny_rule (wpAny_bind (special_tup_item hi ht hx fun h' hi' hs => ?_)))
    have hk' := hk.more (tk := s.toks) (fun b o hb e => hs.extBut b o hb e)
    have ht' : IsTup h' t its.toArray := ht.extBut hs.extBut hne
    obtain ⟨o1, ho1, hc1⟩ := one hi'
    refine wpAny_pure (seg_bind (wpAny_typeOf (T := "tuple_iterator") ⟨o1, ho1, hc1⟩ ?_))
    refine seg_bind (wpAny_of_eq close_tup ?_)
    refine seg_bind (wpAny_pure (seg_bind (wpAny_sleptOver ho1 hc1 nog ?_)))
    refine seg_yield hsp rfl hgd ⟨it, y, hlo, by omega, ?_, rx, hk', ?_, ⟨its, hv, ht'⟩, fun s2 hi2 ht2 => ?_⟩
    · rw [show xs.length - 1 - n = xs.length - (n + 1) by omega]
      exact hy
    · rw [show xs.length - n = xs.length - (n + 1) + 1 by omega]
      exact hi'
    · obtain ⟨o2, ho2, hc2⟩ := one hi2
      have h3 := ih s2 s2 (by omega) Kp.refl hi2 ht2
      show Seg _ _ _ _ n s2 _ (Builtin.Generator.sleptOver (.ref it) false >>= _) fs s2
      refine seg_bind (wpAny_sleptOver ho2 hc2 nog ?_)
      exact seg_bind (wpAny_pure (seg_again (plainId_quiet plain_yf _) h3))
/-- a body that is `yield from e`, e a tuple: it is woken for the first time -/
theorem seg_body {env : Env} {e : Expr} {yp pos : Pos} {s : Shared} (hh : A.handled = none) (hi : interactive env = false) (ht : TupV s.heap t xs)
    (he : wpAny (model X.prog X.w) (A.over (.func [.Expr (.YieldFrom e yp) pos] env) []) (eval e env) (fun v s1 => v = .ref t ∧ ∃ tk, s1 = { s with toks := tk }) (fun _ _ => False) s) :
    Seg (model X.prog X.w) A (RTup s.heap.objs.size) (YTup s.heap.objs.size t xs) xs.length s (.func [.Expr (.YieldFrom e yp) pos] env) ((model X.prog X.w).den (.func [.Expr (.YieldFrom e yp) pos] env)) [] s := by
  obtain ⟨its, hv, ht⟩ := ht
  refine seg_func (seg_execs_cons ?_)
  rw [exec_Expr env _ pos hi rfl]
  refine seg_at (segw_bind2 ?_)
  refine wpAny_mono he (fun v s1 ⟨hv, tk, hs⟩ => ?_) fun _ _ z => z.elim
  subst hv hs
  unfold yieldFrom
  refine seg_at (seg_bind_wrap (wpAny_pure ?_))
  refine seg_bind_wrap (wpAny_typeOf (T := "tuple") (IsTup.typeIs (s := { s with toks := tk }) ht) ?_)
  rw [if_neg (by decide)]
  refine seg_bind_wrap (wpAny_holding (iter_tuple (s := { s with toks := tk }) ht ?_))
  refine seg_call fun p => ?_
  have hk : Kp s.heap.objs.size s { s with heap := s.heap.push { cls := .type "tuple_iterator", data := .fields #[.ref t, .int 0 0] }, toks := tk } := ⟨_, _, rfl, fun b o _ q => Heap.get?_push_of_some _ q⟩
  refine seg_turns (it := s.heap.objs.size) ?_ ?_ ?_ (Nat.le_refl _) (Nat.ne_of_lt ht.lt) (fun s₀ s' hk' => ?_) xs.length s _ (Nat.le_refl _) hk ?_ ⟨its, hv, ht.push _⟩
  · exact hh
  · rfl
  · rfl
  · exact seg_leaf (.ok (.ret .none)) (seg_end (.ok (.ret .none)) (.inl ⟨.inl rfl, rfl, _, Nat.le_refl _, hk'⟩))
  · rw [Nat.sub_self]
    exact ⟨_, Heap.get?_push_size _ rfl, rfl, rfl⟩
end
/-- a generator that has not begun: its object a, its number g, the frame's names -/
structure Made (s s' : Shared) (a : Addr) (g : Nat) (env : Env) (body : List Stmt) (p0 : Str) (u : Value) : Prop where
  young : s.heap.objs.size ≤ a
  lt : a < s'.heap.objs.size
  gen : s'.heap.IsGen a g
  at_ : s'.gens[g]? = some (.fresh (.func body env))
  os : s'.os = s.os
  bare : AllBare s'.gens
  keep : ∀ b o, s.heap.get? b = some o → s'.heap.get? b = some o
  frame : s.heap.objs.size ≤ env.locals ∧ env.locals < s'.heap.objs.size
  ns : ∃ m, s'.heap.Ns env.locals m ∧ m p0 = some u
section
variable {X : Cx} {pins : List (Addr × Obj)} {σ : L2.St} {H : Hp} {s : Shared}
theorem call_gen {k : Nat} {f : Addr} {fd : FuncData} {p0 name qual : Str} {params : Arguments} {body : List Stmt} {scope : Scope} {u : Value} (I : Inv X pins σ H s) (hr : Room k X.A) (F : FunD X.K name qual params body scope [] [] f fd) (hb : Binds X.K fd [p0] [])
    (hk : scope.kind = .function) (hco : scope.isCoroutine = false) (hge : scope.isGenerator = true) (hl : scope.names.lookup p0 = some .local) {R : Value → Shared → Prop} {E : Value → Shared → Prop}
    (h : ∀ a g cdv s', Made s s' a g (envOfC qual scope s.heap.objs.size f cdv) body p0 u → R (.ref a) s') : wpAny (model X.prog X.w) X.A (call (.ref f) [u]) R E s := by
  obtain ⟨oc, od, dV, kV, doc, pm, an, cdv, ct, osl, rfl, lk, hcd, hD, hK⟩ := F.ex
  have kin : X.K.In s.heap := I.kIn
  refine wpAny_call (codeAny_call_generator hr.depth (kin _ _ lk) rfl hco hge rfl (PySem.W.codeRec_of kin hcd) ((hb s [u] kin rfl) _ _ _ _ ?_))
  refine wpAny_newFunctionEnv_cells hk (fun y hy => ?_) fun env he s1 x => ?_
  · obtain rfl := List.mem_singleton.mp (show y ∈ [(p0, u)] from hy)
    exact .inl hl
  · subst he
    obtain ⟨h1, tk, rfl, hk1⟩ := x.done
    have lt1 : s.heap.objs.size < h1.objs.size := x.toInCall.ns.lt
    refine ⟨I.nolimit.keeps hk1, ?_⟩
    show R _ _
    refine h _ s.gens.size cdv _ ?_
    have push : ∀ {nm qn : Value} {go : Obj}, go = { cls := .type "generator", data := .fields #[.int s.gens.size 0, nm, qn] } → Made s { s with heap := h1.push go, gens := s.gens.push (.fresh (.func body (envOfC qual scope s.heap.objs.size f cdv))), toks := tk + 1 + 1 } h1.objs.size s.gens.size (envOfC qual scope s.heap.objs.size f cdv) body p0 u := fun {nm qn go} hgo => by
      refine ⟨Nat.le_of_lt lt1, ?_, ⟨go, nm, qn, ?_, by rw [hgo], by rw [hgo], by rw [hgo]⟩, Array.getElem?_push_size .., rfl, AllBare.push I.bare rfl, fun b o e => Heap.get?_push_of_some _ (hk1 b o e), ⟨Nat.le_refl _, ?_⟩, ?_⟩
      · show _ < (h1.push go).objs.size
        rw [Heap.size_push]
        exact Nat.lt_succ_self _
      · rw [hgo]
        exact Heap.get?_push_size _ rfl
      · show s.heap.objs.size < (h1.push go).objs.size
        rw [Heap.size_push]
        exact Nat.lt_succ_of_lt lt1
      · refine ⟨_, x.toInCall.ns.push _, ?_⟩
        have hkk : (envOfC qual scope s.heap.objs.size f cdv).kindOf p0 = some .local := hl
        have hm : bindL (envOfC qual scope s.heap.objs.size f cdv).kindOf [(p0, u)] (fun _ => none) p0 = some u := by simp [bindL, hkk]
        exact hm
    exact push rfl
/-- what holds between two turns of [x for x in a generator]: D is the new list, C the block's names, s2 the state behind the generator's making -/
structure LoopS (X : Cx) (s2 : Shared) (g : Nat) (C D t : Addr) (lo : Nat) (xs : List V) (i : Nat) (s : Shared) : Prop where
  os : s.os = s2.os
  bare : AllBare s.gens
  keep : ∀ b o, s2.heap.get? b = some o → s.heap.get? b = some o
  ns : ∃ m, s.heap.Ns C m
  lst : ∃ (acc : Array Value) (c : Nat), s.heap.get? D = some (lstObj acc c) ∧ Vals (xs.take i) acc.toList
  gen : ∃ gs, s.gens[g]? = some gs ∧ gs.Goes (model X.prog X.w) X.A.in1 (RTup lo) (YTup lo t xs) (xs.length - i) (.send .none) (s.setGen g .running)
/-- what holds at the loop's end -/
structure EndS (s2 : Shared) (C D : Addr) (xs : List V) (s : Shared) : Prop where
  os : s.os = s2.os
  bare : AllBare s.gens
  keep : ∀ b o, s2.heap.get? b = some o → s.heap.get? b = some o
  ns : ∃ m, s.heap.Ns C m
  lst : ∃ (acc : Array Value) (c : Nat), s.heap.get? D = some (lstObj acc c) ∧ Vals xs acc.toList
theorem loop_gen {s2 : Shared} {ga C D t lo : Addr} {g : Nat} {xs : List V} {x : Str} {px px2 : Pos} {iter : Expr} {scope : Scope} {pos : Pos} {ce : Env} {R : Result → Shared → Prop}
    (hh : X.A.handled = none) (hd : X.A.depth < recursionLimit) (hC : ce.locals = C) (hk : ce.scope.kind = .function) (hx : ce.kindOf x = some .local) (hxd : (x == ("__debug__" : Str)) = false) (hg : s2.heap.IsGen ga g) (hl : s2.heap.NoLimit) (ht : TupV s2.heap t xs) (hxl : xs.length < sizeLine)
    (h1 : ∀ b o, s2.heap.get? b = some o → b ≠ C ∧ b ≠ D ∧ b < lo) (hCD : C ≠ D) (hClo : C < lo) (hDlo : D < lo)
    (hend : ∀ s, EndS s2 C D xs s → R (.ok .next) s) (s : Shared) (hs : LoopS X s2 g C D t lo xs 0 s) :
    codeAny (model X.prog X.w) X.A (.compLoop (.ListComp (.Name x px) [⟨.Name x px2, iter, [], 0⟩] scope pos) 0 (.ref ga) (.ref D) ce) R s := by
  refine compLoop_any (fun n s => ∃ i, i ≤ xs.length ∧ n = xs.length - i ∧ LoopS X s2 g C D t lo xs i s) ?_ xs.length ⟨0, Nat.zero_le _, rfl, hs⟩
  rintro n s ⟨i, hi, rfl, L⟩
  obtain ⟨gs, hgs, hgo⟩ := L.gen
  have hga : s.heap.IsGen ga g := hg.keeps L.keep
  have hgl : g < s.gens.size := (Array.getElem?_eq_some_iff.mp hgs).1
  refine next_genG (F := fun n s₀ s => n = 0 ∧ ∃ it, lo ≤ it ∧ Kp it s₀ s) (Er := fun _ _ => False) hh (hl.keeps L.keep) hd hga hgs hgo (fun v s1 gs' hb hy => ?_) (fun s1 he h' hk' => ?_) fun _ _ z => z.elim
  · 
    obtain ⟨it, y, hlo, hn, hy1, hr, ⟨h2, tk, rfl, hk2⟩, hit, htv, hkap⟩ := hy
    have hg2 : g < ({ (s.setGen g .running) with heap := h2, toks := tk } : Shared).gens.size := by
      rw [show ({ (s.setGen g .running) with heap := h2, toks := tk } : Shared).gens.size = s.gens.size from setGen_size _ _ _]
      exact hgl
    obtain ⟨m, hm⟩ : ∃ m, xs.length - i = m + 1 := by
      cases hl : xs.length - i with
      | zero =>
        rw [hl] at hkap
        exact (hkap { s with heap := h2 } (by rw [hl] at hit; exact hit) htv).elim
      | succ m => exact ⟨m, rfl⟩
    have hil : i < xs.length := by omega
    rw [hm] at hy1 hit hkap
    rw [show xs.length - 1 - (m + 1 - 1) = i by omega] at hy1
    rw [show xs.length - (m + 1 - 1) = i + 1 by omega] at hit hkap
    have keep2 : ∀ b o, s2.heap.get? b = some o → h2.get? b = some o := fun b o e => hk2 b o (Nat.ne_of_lt (Nat.lt_of_lt_of_le (h1 b o e).2.2 hlo)) (L.keep b o e)
    obtain ⟨mC, hmC⟩ := L.ns
    have hmC2 : h2.Ns C mC := hmC.at' fun o e => hk2 C o (Nat.ne_of_lt (Nat.lt_of_lt_of_le hClo hlo)) e
    obtain ⟨acc, c, hD, hacc⟩ := L.lst
    have hD2 : h2.get? D = some (lstObj acc c) := hk2 D _ (Nat.ne_of_lt (Nat.lt_of_lt_of_le hDlo hlo)) hD
    show wpAny _ _ (letOwnedTupleGo (.Name x px2) (.ref ga) v) _ _ _
    refine wpAny_pure ?_
    refine wpAny_assign_Name (wpAny_storeName_local (m := mC) hx (by rw [hC]; exact hmC2) (fun h3 hn3 hs3 => ?_) (by rw [hk]; rfl))
    rw [hC] at hn3 hs3
    refine wpAny_tests_nil ?_
    rw [if_pos rfl]
    refine wpAny_Name (wpAny_loadName_local hk hx (m := fun z => if z = x then some v else mC z) (v := v) (by rw [hC]; exact hn3) (by simp) ?_) hxd
    have hD3 : h3.get? D = some (lstObj acc c) := (hs3.2 D (Ne.symm hCD)).trans hD2
    have hal : acc.size = i := by
      have := hacc.length
      rw [List.length_take] at this
      have e : acc.toList.length = acc.size := by simp
      omega
    refine append_at (its := acc) (n := c) hD3 (fun h4 hs4 hD4 => ?_) (by rw [hal]; omega)
    have kk : ∀ b o, b ≠ C → b ≠ D → h2.get? b = some o → h4.get? b = some o := fun b o hb1 hb2 e => (hs4.2 b hb2).trans ((hs3.2 b hb1).trans e)
    refine ⟨xs.length - (i + 1), by omega, i + 1, hil, rfl, ⟨L.os, ?_, fun b o e => kk b o (h1 b o e).1 (h1 b o e).2.1 (keep2 b o e), ⟨_, hn3.at' fun o e => (hs4.2 C hCD).trans e⟩, ⟨acc.push v, c + 1, hD4, ?_⟩, ⟨gs', setGen_at hg2, ?_⟩⟩⟩
    · exact allBare_setGen (s := { (s.setGen g .running) with heap := h2, toks := tk }) (allBare_setGen L.bare rfl) hb
    · rw [Array.toList_push, List.take_add_one, hy1]
      exact hacc.append (.cons hr .nil)
    · have hit4 : IsTupIter h4 it t (i + 1) := by
        obtain ⟨o, h5, h6⟩ := hit
        exact ⟨o, kk it o (Nat.ne_of_gt (Nat.lt_of_lt_of_le hClo hlo)) (Nat.ne_of_gt (Nat.lt_of_lt_of_le hDlo hlo)) h5, h6⟩
      have htv4 : TupV h4 t xs := by
        obtain ⟨its, h5, o, h6, h7⟩ := ht
        exact ⟨its, h5, o, kk t o (h1 t o h6).1 (h1 t o h6).2.1 (keep2 t o h6), h7⟩
      rw [show xs.length - (i + 1) = m by omega]
      exact hkap _ hit4 htv4
  · obtain ⟨h0, it, hlo, h2, tk, rfl, hk2⟩ := he
    have hil : i = xs.length := by omega
    subst hil
    obtain ⟨mC, hmC⟩ := L.ns
    obtain ⟨acc, c, hD, hacc⟩ := L.lst
    refine hend _ ⟨L.os, allBare_setGen (s := { (s.setGen g .running) with heap := h2, toks := tk }) (allBare_setGen L.bare rfl) rfl, fun b o e => hk' b o (hk2 b o (Nat.ne_of_lt (Nat.lt_of_lt_of_le (h1 b o e).2.2 hlo)) (L.keep b o e)),
      ⟨mC, hmC.at' fun o e => hk' C o (hk2 C o (Nat.ne_of_lt (Nat.lt_of_lt_of_le hClo hlo)) e)⟩, ⟨acc, c, hk' D _ (hk2 D _ (Nat.ne_of_lt (Nat.lt_of_lt_of_le hDlo hlo)) hD), by rw [List.take_length] at hacc; exact hacc⟩⟩
/-- [x for x in o.m()], m a generator that hands out the items of the tuple o.fld -/
def tEach (K : PySem.W.Frag) (C : Addr) (m fld : Str) (ta : TE) : TE := fun σ H Q => ta σ H fun x H1 => ∃ a dx fs t xs, x = .ref a ∧ H1 a = some (.ins C dx fs) ∧ fs.lookup m = none ∧ fs.lookup fld = some (.ref t) ∧ SqT K H1 t xs ∧ xs.length < sizeLine ∧ NewO (.lst xs) H1 Q
theorem pe_lcEach {k : Nat} {o : Expr} {ta : TE} {x p0 m fld name qual : Str} {C f : Addr} {fd : FuncData} {params : Arguments} {fscope scope : Scope} {own : List (Str × Nat)} {px px2 q1 q2 yp epos apos cpos pos : Pos} {pl : Sem Bool}
    (hc : X.calm = true) (hr : Room k X.A) (he : PE X o ta) (c : Cls X.K C) (na : NoAttr X.K C fld) (hm : Meth X.K C m f) (F : FunD X.K name qual params [.Expr (.YieldFrom (.Attribute (.Name p0 q1) fld q2) yp) epos] fscope [] [] f fd) (hb : Binds X.K fd [p0] [])
    (ok : BlkOk X.N X.env.scope scope own) (hx : scope.names.lookup x = some .local := by rfl) (hk : fscope.kind = .function := by rfl) (hco : fscope.isCoroutine = false := by rfl) (hge : fscope.isGenerator = true := by rfl) (hl : fscope.names.lookup p0 = some .local := by rfl)
    (hxd : (x == ("__debug__" : Str)) = false := by decide) (hpd : (p0 == ("__debug__" : Str)) = false := by decide) (hab : ∀ env : Env, attributeBase (.Name p0 q1) fld env (eval (.Name p0 q1) env) = eval (.Name p0 q1) env := by intro _; rfl)
    (hi : ∀ n cdv, interactive (envOfC qual fscope n f cdv) = false := by intro _ _; rfl) (hs : ∀ y, foldedSetIterable (.Call (.Attribute o m apos) [] [] cpos) X.env y = pure y := by intro _; rfl)
    (ht : eval (.Call (.Attribute o m apos) [] [] cpos) X.env = (do
      let ov ← eval o X.env
      standAt apos.atName
      let (f, first) ← holding [ov] (getMethod ov m pl)
      callWith cpos f first (backTo cpos (starEach [] X.env)) (backToKw cpos (keywordEach [] X.env))) := by rfl) :
    PE X (.ListComp (.Name x px) [⟨.Name x px2, .Call (.Attribute o m apos) [] [] cpos, [], 0⟩] scope pos) (tEach X.K C m fld ta) := by
  refine ⟨fun pins s σ H Q I h => ?_⟩
  have hfree : ∀ y ∈ scope.names, y.2 = .free → ∃ c, X.env.cells.lookup y.1 = some c := fun y hy e => I.ok.has _ (ok.free y hy e)
  rw [eval_ListComp]
  refine wpAny_comprehension_free (use := none) rfl hs (closure_ok hfree) ok.kind (fun y hy e => by rw [ok.uniq y hy, e]) ?_
  refine PySem.W.methodCall_KW (pl := pl) (thn (he.run pins s σ H _ I h) fun u s1 ⟨v, H1, I1, rx, a, dx, fs, t, xs, ex, ea, l1, l2, hT, hxl, q⟩ => ?_) ht
  subst ex
  obtain rfl : u = Value.ref a := rx
  refine getmeth_ok I1 ea c hm l1 (PySem.W.callWith_K0 (first := [.ref a]) I1.kIn hm.kp (call_gen I1 hr F hb hk hco hge hl fun ga g cdv s2 M => ?_))
  have I2 : Inv X pins σ H1 s2 := I1.call' (ch := []) M.os (Un.kept M.keep) (I1.hok.kept M.keep) M.bare fun b z => nomatch z
  refine wpAny_pyIter_gen M.gen ?_
  refine wpAny_newObj_type (newEnv_comp ?_) (by show 0 ≤ sizeLine; decide)
  have k3 : ∀ b o, s2.heap.get? b = some o → (s2.heap.push { cls := .type "list", data := .seq ([] : List Value).toArray }).get? b = some o := fun b o e => Heap.get?_push_of_some _ e
  have D3 : (s2.heap.push { cls := .type "list", data := .seq ([] : List Value).toArray }).get? s2.heap.objs.size = some (lstObj #[] 0) := Heap.get?_push_size _ rfl
  have z3 : (s2.heap.push { cls := .type "list", data := .seq ([] : List Value).toArray }).objs.size = s2.heap.objs.size + 1 := Heap.size_push ..
  dsimp only
  generalize s2.heap.push { cls := .type "list", data := .seq ([] : List Value).toArray } = h3 at k3 D3 z3 ⊢
  have N4 : (pushCells (h3.push { cls := .type "dict", data := .dict #[] }) scope.names).Ns h3.objs.size (fun _ => none) := Heap.Ns.keeps (Heap.Ns.new ..) fun b o e => pushCells_keeps _ _ _ _ e
  have k4 : ∀ b o, h3.get? b = some o → (pushCells (h3.push { cls := .type "dict", data := .dict #[] }) scope.names).get? b = some o := fun b o e => pushCells_keeps _ _ _ _ (Heap.get?_push_of_some _ e)
  have z4 : h3.objs.size + 1 ≤ (pushCells (h3.push { cls := .type "dict", data := .dict #[] }) scope.names).objs.size := by
    have h := pushCells_size scope.names (h3.push { cls := .type "dict", data := .dict #[] })
    rw [Heap.size_push] at h
    exact h
  generalize hce : (compEnvC scope (cellsFrom (h3.objs.size + 1) scope.names (cloFrom X.env.cells scope.names [])) h3.objs.size X.env) = ce
  have c1 : ce.locals = h3.objs.size := by rw [← hce]; rfl
  have c2 : ce.scope = relS scope X.env.scope := by rw [← hce]; rfl
  have c3 : ce.scope.kind = .function := by rw [c2]; exact ok.kind
  have c4 : ce.kindOf x = some .local := by
    unfold Env.kindOf
    rw [c2]
    exact lookup_relS_keep (fun z => nomatch z) hx
  show codeAny _ _ (.compStart _ 0 (.ref ga) (.ref s2.heap.objs.size) (compEnvC scope (cellsFrom (h3.objs.size + 1) scope.names (cloFrom X.env.cells scope.names [])) h3.objs.size X.env)) (compPost (model X.prog X.w) X.A X.xe none (EP X pins σ Q) (.ref s2.heap.objs.size) h3.objs.size) { s2 with heap := pushCells (h3.push { cls := .type "dict", data := .dict #[] }) scope.names }
  rw [hce]
  generalize pushCells (h3.push { cls := .type "dict", data := .dict #[] }) scope.names = h4 at N4 k4 z4 ⊢
  have k24 : ∀ b o, s2.heap.get? b = some o → h4.get? b = some o := fun b o e => k4 b o (k3 b o e)
  have hlt : ∀ b o, s2.heap.get? b = some o → b ≠ h3.objs.size ∧ b ≠ s2.heap.objs.size ∧ b < h4.objs.size := fun b o e => by
    have h := Heap.lt_size e
    exact ⟨Nat.ne_of_lt (by rw [z3]; exact Nat.lt_succ_of_lt h), Nat.ne_of_lt h, Nat.lt_of_lt_of_le h (by omega)⟩
  obtain ⟨its, hv, hT2, _⟩ := I2.tuple hT
  have neCD : h3.objs.size ≠ s2.heap.objs.size := by rw [z3]; exact Nat.succ_ne_self _
  have ltD : s2.heap.objs.size < h4.objs.size := by
    have := z4
    rw [z3] at this
    exact Nat.lt_of_lt_of_le (Nat.lt_succ_of_lt (Nat.lt_succ_self _)) this
  have hloop : codeAny (model X.prog X.w) X.A (.compLoop (.ListComp (.Name x px) [⟨.Name x px2, .Call (.Attribute o m apos) [] [] cpos, [], 0⟩] scope pos) 0 (.ref ga) (.ref s2.heap.objs.size) ce) (compPost (model X.prog X.w) X.A X.xe none (EP X pins σ Q) (.ref s2.heap.objs.size) h3.objs.size) { s2 with heap := h4 } := by
    refine loop_gen (t := t) (lo := h4.objs.size) (g := g) (xs := xs) (I.ok.hd hc) hr.depth c1 c3 c4 hxd M.gen I2.nolimit ⟨its, hv, hT2⟩ hxl hlt neCD (Nat.lt_of_lt_of_le (Nat.lt_succ_self _) z4) ltD (fun s5 E5 => ?_) _
      ⟨rfl, M.bare, k24, ⟨_, N4⟩, ⟨#[], 0, k4 _ _ D3, by rw [List.take_zero]; exact .nil⟩, ⟨_, M.at_, rfl, ?_⟩⟩
    · obtain ⟨m5, hn5⟩ := E5.ns
      obtain ⟨acc, c5, hD5, hacc⟩ := E5.lst
      have Hn : H1 s2.heap.objs.size = none := I2.hok.fresh (Nat.le_refl _)
      refine ⟨m5, hn5, fun h' sb => ?_⟩
      have keep5 : ∀ b o, s2.heap.get? b = some o → h'.get? b = some o := fun b o e => (sb.2 b (hlt b o e).1).trans (E5.keep b o e)
      exact ⟨.ref s2.heap.objs.size, upd H1 s2.heap.objs.size (.lst xs), Inv.drained (s' := { s5 with heap := h' }) I2 (Nat.le_refl _) (Nat.le_of_lt hxl) ((sb.2 _ (Ne.symm neCD)).trans hD5) hacc .nil E5.os E5.bare (Un.kept keep5) (I2.hok.kept keep5) Hn, rfl, q _ Hn⟩
    · refine seg_body (X := X) (A := X.A.in1) (s := ({ s2 with heap := h4 } : Shared).setGen g .running) (I.ok.hd hc) (hi _ _) ⟨its, hv, ?_⟩ ?_
      · obtain ⟨oT, h5, h6⟩ := hT2
        exact ⟨oT, k24 t oT h5, h6⟩
      · obtain ⟨mE, hnE, hmE⟩ := M.ns
        have hok4 : HOk X.prog X.w H1 h4 := I2.hok.kept k24
        obtain ⟨mA, O, r, _, _, _⟩ := ins_get hok4 ea
        obtain ⟨ut, hut, rt⟩ := RelO.some_of (v := V.ref t) (o := mA fld) (by rw [← l2]; exact r fld)
        obtain rfl : ut = Value.ref t := rt
        refine attr_of (hab _) (wpAny_Name (wpAny_loadName_local hk hl (m := mE) (v := .ref a) (hnE.keeps k24) hmE ?_) hpd)
        exact get_map (I2.kIn.keeps k24) O (c.get fld) c.hd na hut (handed_of (v := V.ref t) rfl) ⟨rfl, _, rfl⟩
  exact codeAny_compStart_list hloop (wpAny_pyIter_gen (s := { s2 with heap := h4 }) (M.gen.keeps k24) hloop)
end
end Z

local macro_rules | `(tactic| walk_at "cond") => `(tactic| first
  | (show (0 : Int) < _; first | decide | omega) | (show (0 : Int) ≤ _; first | decide | omega) | ((refine (show L2.CDiv _ _ from ⟨?_, ?_⟩)) <;> omega) | ((refine (show L2.CMul _ _ from Or.inl ⟨?_, ?_⟩)) <;> omega) | ((refine (show L2.CMul _ _ from Or.inr ⟨?_, ?_⟩)) <;> omega)
  | (refine (show Z.CPowW _ _ from ⟨?_, ?_⟩) <;> decide) | (refine (show L2.CPow _ _ from ⟨?_, ?_, ?_⟩); omega; omega; decide))
local macro_rules | `(tactic| walk_at "z") => `(tactic| first
  | with_reducible refine Z.st_seq ?_ | with_reducible refine Z.st_asg ?_ | with_reducible refine Z.st_if ?_ | with_reducible refine Z.st_ret ?_ | with_reducible refine Z.st_drop ?_ | with_reducible refine Z.st_next ?_ | with_reducible refine Z.st_retN ?_ | with_reducible refine Z.st_brk ?_ | with_reducible refine Z.st_cont ?_
  | with_reducible refine Z.st_gname ?_ | with_reducible refine Z.st_par ?_ | with_reducible refine Z.st_two ?_
  | ((with_reducible refine' Z.st_var ?hv ?hq); (case hv => exact rfl)) | with_reducible refine Z.st_c ?_ | with_reducible refine Z.st_op ?_ | with_reducible refine Z.st_un ?_ | with_reducible refine Z.st_i0 ?_ | with_reducible refine Z.st_u ?_
  | with_reducible refine Z.st_test ?_ | with_reducible refine Z.st_tB ?_ | with_reducible refine Z.st_bl ?_ | with_reducible refine Z.st_not ?_ | with_reducible refine Z.st_and ?_ | with_reducible refine Z.st_or ?_
  | with_reducible refine Z.st_andV ?_ | with_reducible refine Z.st_orV ?_ | with_reducible refine Z.st_notV ?_
  | with_reducible refine Z.st_nil ?_ | with_reducible refine Z.st_cons ?_ | with_reducible refine Z.st_cb ?_ | with_reducible refine Z.st_call ?_ | with_reducible refine Z.st_callN ?_
  | with_reducible refine Z.st_lst ?_ | with_reducible refine Z.st_tup ?_
  | ((with_reducible refine Z.st_eq ?_ ?_); exact rfl) | ((with_reducible refine Z.st_ne ?_ ?_); exact rfl)
  | with_reducible refine Z.st_for ?_ | with_reducible refine Z.st_iEnumA ?_ | with_reducible refine Z.st_iList ?_ | with_reducible refine Z.st_iTup ?_ | with_reducible refine Z.st_iR1 ?_ | with_reducible refine Z.st_iR2 ?_
  | ((with_reducible refine' Z.st_i ?hc ?hq); (case hc => walk_at "cond"))
  | with_reducible refine Z.st_gsub ?_ | with_reducible refine Z.st_bm ?_ | with_reducible refine Z.st_bm0 ?_
  | with_reducible refine Z.st_lc ?_ | with_reducible refine Z.st_yes ?_ | with_reducible refine Z.st_sl ?_ | with_reducible refine Z.st_chain ?_ | with_reducible refine Z.st_gcons ?_ | with_reducible refine Z.st_gnil ?_ | with_reducible refine Z.st_noPart ?_ | with_reducible refine Z.st_part ?_
  | with_reducible refine L2.iteT ?_ | with_reducible refine L2.iteF ?_ | with_reducible refine Z.iteNT ?_ | with_reducible refine Z.iteNF ?_)
local macro_rules | `(tactic| walk_at "zz") => `(tactic| repeat walk_at "z")
local macro_rules | `(tactic| walk_at "sm") => `(tactic| first | exact L2.Same.refl _ | assumption | (refine' L2.Same.trans ?ha ?hb; (case hb => assumption); (case ha => walk_at "sm")))
local macro_rules | `(tactic| walk_at "up") => `(tactic| first
  | assumption
  | (refine' Z.seq_up ?w ?h; (case w => assumption); (case h => walk_at "up")) | (refine' Z.tup_up ?w ?h; (case w => assumption); (case h => walk_at "up")) | (refine' Z.dUp ?w ?h; (case w => assumption); (case h => walk_at "up")) | (refine' Z.hUp ?w ?h; (case w => assumption); (case h => walk_at "up"))
  | (refine' L2.Same.seq ?e ?h; (case e => assumption); (case h => walk_at "up")) | (refine' Z.seqT ?e ?h; (case e => assumption); (case h => walk_at "up")) | (refine' Z.dmono ?e ?h; (case e => assumption); (case h => walk_at "up")) | (refine' Z.atUp ?e ?h; (case e => assumption); (case h => walk_at "up")))
local macro_rules | `(tactic| walk_at "zi") => `(tactic| with_reducible refine Z.st_ifE ?_)
local macro_rules | `(tactic| walk_at "nw") => `(tactic| first
  | refine ⟨by first | decide | exact Z.small (by simp), Z.NewO.good (by assumption) fun p G1 H1 e1 w1 h1 => ?_⟩
  | refine Z.st_catV (by walk_at "up") (by walk_at "up") (by first | decide | (simp; done) | (simp; omega)) (by assumption) fun p G1 H1 e1 w1 h1 => ?_)
local macro_rules | `(tactic| walk_at "zn") => `(tactic| repeat first
  | walk_at "z"
  | walk_at "nw")
local macro_rules | `(tactic| walk_at "dp") => `(tactic| first
  | exact L2.Dp.non
  | exact L2.Dp.bl _
  | exact L2.Dp.int _
  | exact L2.Dp.str _
  | assumption
  | (refine' L2.Dp.lst (L2.SqL.of ?h) ?t; (case h => walk_at "up"); (case t => walk_at "dps"))
  | (refine' L2.Dp.tup (L2.SqT.of ?h) ?t; (case h => walk_at "up"); (case t => walk_at "dps"))
  | walk_at "up")
local macro_rules | `(tactic| walk_at "dps") => `(tactic| first
  | exact L2.DpAll.nil
  | (refine' L2.DpAll.cons ?a ?b; (case a => walk_at "dp"); (case b => walk_at "dps")))
local macro_rules | `(tactic| walk_at "od") => `(tactic| first
  | decide +kernel
  | (refine Z.Od.int ?_; omega)
  | exact Z.Od.strInt (by omega)
  | exact Z.Od.bool _
  | assumption
  | (refine Z.Od.mono ?_ ?_ <;> first | assumption | decide))
local macro_rules | `(tactic| walk_at "al") => `(tactic| first
  | exact trivial
  | (refine' Z.AllP.app ?a ?b; (case a => walk_at "al"); (case b => walk_at "al"))
  | (refine' And.intro (Exists.intro _ (And.intro ?a ?b)) ?c; (case a => walk_at "dp"); (case b => walk_at "od"); (case c => walk_at "al")))
local macro_rules | `(tactic| walk_at "ib") => `(tactic| first
  | refine Z.iteBT (by rfl) ?_
  | refine Z.iteBF (by rfl) ?_)

namespace Z
open PySem PySem.Spec PyProof.Rows L2

local macro_rules | `(tactic| walk_at "zt") => `(tactic| repeat first
  | walk_at "z"
  | with_reducible refine Z.st_make ?_ | with_reducible refine Z.st_meth ?_ | with_reducible refine Z.st_fld ?_ | with_reducible refine Z.st_sfld ?_
  | with_reducible refine Z.st_par3 ?_ | with_reducible refine Z.st_iRng3 ?_)

local macro_rules | `(tactic| walk_at "zu") => `(tactic| repeat first
  | walk_at "z"
  | with_reducible refine Z.st_make ?_ | with_reducible refine Z.st_meth ?_ | with_reducible refine Z.st_fld ?_ | with_reducible refine Z.st_sfld ?_
  | with_reducible refine Z.st_par3 ?_ | with_reducible refine Z.st_iRng3 ?_
  | with_reducible refine Z.st_dnewT ?_ | with_reducible refine Z.st_disp1T ?_ | with_reducible refine Z.st_dput ?_ | with_reducible refine Z.st_dget ?_ | with_reducible refine Z.st_din ?_ | with_reducible refine Z.st_dnin ?_ | with_reducible refine Z.st_revS ?_ | with_reducible refine Z.st_m1 ?_)

local macro_rules | `(tactic| walk_at "zb") => `(tactic| repeat first
  | walk_at "z"
  | with_reducible refine Z.st_mkO ?_ | with_reducible refine Z.st_bei ?_ | with_reducible refine Z.st_bst ?_ | with_reducible refine Z.st_xf ?_ | with_reducible refine Z.st_callSD ?_ | with_reducible refine Z.st_callNS ?_
  | with_reducible refine Z.st_make ?_ | with_reducible refine Z.st_makeV ?_ | with_reducible refine Z.st_meth ?_ | with_reducible refine Z.st_methSD ?_ | with_reducible refine Z.st_lc2 ?_ | with_reducible refine Z.st_fld ?_ | with_reducible refine Z.st_sfld ?_ | with_reducible refine Z.st_cval ?_ | with_reducible refine Z.st_cmeth ?_)

local macro_rules | `(tactic| walk_at "zy") => `(tactic| repeat first
  | walk_at "z"
  | with_reducible refine Z.st_mkO ?_ | with_reducible refine Z.st_bei ?_ | with_reducible refine Z.st_bst ?_ | with_reducible refine Z.st_xf ?_ | with_reducible refine Z.st_callSD ?_ | with_reducible refine Z.st_callNS ?_)

local macro_rules | `(tactic| walk_at "zq") => `(tactic| repeat first
  | walk_at "z"
  | with_reducible refine Z.st_mkO ?_ | with_reducible refine Z.st_bei ?_ | with_reducible refine Z.st_bst ?_ | with_reducible refine Z.st_bst2 ?_ | with_reducible refine Z.st_xf ?_ | with_reducible refine Z.st_callSD ?_ | with_reducible refine Z.st_callNS ?_ | with_reducible refine Z.st_callOS ?_
  | with_reducible refine Z.st_make ?_ | with_reducible refine Z.st_makeV ?_ | with_reducible refine Z.st_makeN ?_ | with_reducible refine Z.st_meth ?_ | with_reducible refine Z.st_methSD ?_ | with_reducible refine Z.st_lc2 ?_ | with_reducible refine Z.st_fld ?_ | with_reducible refine Z.st_sfld ?_ | with_reducible refine Z.st_cval ?_ | with_reducible refine Z.st_cmeth ?_
  | with_reducible refine Z.st_par3 ?_ | with_reducible refine Z.st_iRng3 ?_ | with_reducible refine Z.st_iEnumS ?_ | with_reducible refine Z.st_iStr ?_ | with_reducible refine Z.st_star ?_
  | with_reducible refine Z.st_dnewT ?_ | with_reducible refine Z.st_disp1T ?_ | with_reducible refine Z.st_dput ?_ | with_reducible refine Z.st_dget ?_ | with_reducible refine Z.st_din ?_ | with_reducible refine Z.st_dnin ?_ | with_reducible refine Z.st_revS ?_ | with_reducible refine Z.st_m1 ?_)

def top (i : Nat) : Stmt := PySem.Challenge.pw_deflatehall_k04_whole_bits_by_a_model.main.body.getD i (.Pass ⟨0, 0, 0, 0⟩)
abbrev s_is_integer : Stmt := top 7
abbrev s_in_range : Stmt := top 8
abbrev s_is_byte : Stmt := top 9
abbrev s_checked_data : Stmt := top 10
abbrev s_Bits___init__ : Stmt := inClass (top 12) 1
abbrev s_Bits_of_data : Stmt := inClass (top 12) 2
abbrev s_Bits___len__ : Stmt := inClass (top 12) 4
abbrev s_Bits___eq__ : Stmt := inClass (top 12) 5
abbrev s_Bits___add__ : Stmt := inClass (top 12) 6
abbrev s_Bits___getitem__ : Stmt := inClass (top 12) 7
abbrev s_Bits___str__ : Stmt := inClass (top 12) 9
abbrev s_Bits_each : Stmt := inClass (top 12) 11
abbrev s_Bits_first : Stmt := inClass (top 12) 13
abbrev s_Bits_data : Stmt := inClass (top 12) 14
abbrev s__law_bag : Stmt := top 14
abbrev s__law_take : Stmt := top 15
abbrev s__law_one : Stmt := top 16
abbrev s__law_next : Stmt := top 17
abbrev s__law_right : Stmt := top 18
abbrev s_law : Stmt := top 19
abbrev sN_is_integer : List Str := ["value"]
abbrev sP_is_integer : List Str := ["value"]
theorem sc_is_integer : FnScope sN_is_integer sP_is_integer (defScope s_is_integer) := ⟨rfl, rfl, rfl, by decide +kernel, rfl, by decide +kernel, by decide +kernel⟩
abbrev sN_in_range : List Str := ["value", "least", "most"]
abbrev sP_in_range : List Str := ["value", "least", "most"]
theorem sc_in_range : FnScope sN_in_range sP_in_range (defScope s_in_range) := ⟨rfl, rfl, rfl, by decide +kernel, rfl, by decide +kernel, by decide +kernel⟩
abbrev sN_is_byte : List Str := ["value"]
abbrev sP_is_byte : List Str := ["value"]
theorem sc_is_byte : FnScope sN_is_byte sP_is_byte (defScope s_is_byte) := ⟨rfl, rfl, rfl, by decide +kernel, rfl, by decide +kernel, by decide +kernel⟩
abbrev sN_checked_data : List Str := ["value", "position", "item"]
abbrev sP_checked_data : List Str := ["value"]
theorem sc_checked_data : FnScope sN_checked_data sP_checked_data (defScope s_checked_data) := ⟨rfl, rfl, rfl, by decide +kernel, rfl, by decide +kernel, by decide +kernel⟩
abbrev sN_Bits___init__ : List Str := ["self", "values", "position", "value"]
abbrev sP_Bits___init__ : List Str := ["self", "values"]
theorem sc_Bits___init__ : FnScope sN_Bits___init__ sP_Bits___init__ (defScope s_Bits___init__) := ⟨rfl, rfl, rfl, by decide +kernel, rfl, by decide +kernel, by decide +kernel⟩
abbrev sN_Bits_of_data : List Str := ["cls", "data", "byte", "place"]
abbrev sP_Bits_of_data : List Str := ["cls", "data"]
theorem sc_Bits_of_data : FnScope sN_Bits_of_data sP_Bits_of_data (defScope s_Bits_of_data) := ⟨rfl, rfl, rfl, by decide +kernel, rfl, by decide +kernel, by decide +kernel⟩
abbrev sN_Bits___len__ : List Str := ["self"]
abbrev sP_Bits___len__ : List Str := ["self"]
theorem sc_Bits___len__ : FnScope sN_Bits___len__ sP_Bits___len__ (defScope s_Bits___len__) := ⟨rfl, rfl, rfl, by decide +kernel, rfl, by decide +kernel, by decide +kernel⟩
abbrev sN_Bits___eq__ : List Str := ["self", "other"]
abbrev sP_Bits___eq__ : List Str := ["self", "other"]
theorem sc_Bits___eq__ : FnScope sN_Bits___eq__ sP_Bits___eq__ (defScope s_Bits___eq__) := ⟨rfl, rfl, rfl, by decide +kernel, rfl, by decide +kernel, by decide +kernel⟩
abbrev sN_Bits___add__ : List Str := ["self", "other"]
abbrev sP_Bits___add__ : List Str := ["self", "other"]
theorem sc_Bits___add__ : FnScope sN_Bits___add__ sP_Bits___add__ (defScope s_Bits___add__) := ⟨rfl, rfl, rfl, by decide +kernel, rfl, by decide +kernel, by decide +kernel⟩
abbrev sN_Bits___getitem__ : List Str := ["self", "index"]
abbrev sP_Bits___getitem__ : List Str := ["self", "index"]
theorem sc_Bits___getitem__ : FnScope sN_Bits___getitem__ sP_Bits___getitem__ (defScope s_Bits___getitem__) := ⟨rfl, rfl, rfl, by decide +kernel, rfl, by decide +kernel, by decide +kernel⟩
abbrev sN_Bits___str__ : List Str := ["self", "bit"]
abbrev sP_Bits___str__ : List Str := ["self"]
theorem sc_Bits___str__ : FnScope sN_Bits___str__ sP_Bits___str__ (defScope s_Bits___str__) := ⟨rfl, rfl, rfl, by decide +kernel, rfl, by decide +kernel, by decide +kernel⟩
abbrev sN_Bits_each : List Str := ["self"]
abbrev sP_Bits_each : List Str := ["self"]
abbrev sN_Bits_first : List Str := ["self", "count"]
abbrev sP_Bits_first : List Str := ["self", "count"]
theorem sc_Bits_first : FnScope sN_Bits_first sP_Bits_first (defScope s_Bits_first) := ⟨rfl, rfl, rfl, by decide +kernel, rfl, by decide +kernel, by decide +kernel⟩
abbrev sN_Bits_data : List Str := ["self", "found", "start", "place", "bit"]
abbrev sP_Bits_data : List Str := ["self"]
theorem sc_Bits_data : FnScope sN_Bits_data sP_Bits_data (defScope s_Bits_data) := ⟨rfl, rfl, rfl, by decide +kernel, rfl, by decide +kernel, by decide +kernel⟩
abbrev sN__law_bag : List Str := ["_law_script", "_law_at", "_law_cell", "_law_digits"]
abbrev sP__law_bag : List Str := ["_law_script", "_law_at"]
theorem sc__law_bag : FnScope sN__law_bag sP__law_bag (defScope s__law_bag) := ⟨rfl, rfl, rfl, by decide +kernel, rfl, by decide +kernel, by decide +kernel⟩
abbrev sN__law_take : List Str := ["_law_bag_here", "_law_many", "_law_digit"]
abbrev sP__law_take : List Str := ["_law_bag_here", "_law_many"]
theorem sc__law_take : FnScope sN__law_take sP__law_take (defScope s__law_take) := ⟨rfl, rfl, rfl, by decide +kernel, rfl, by decide +kernel, by decide +kernel⟩
abbrev sN__law_one : List Str := ["_law_bag_here", "_law_things"]
abbrev sP__law_one : List Str := ["_law_bag_here", "_law_things"]
theorem sc__law_one : FnScope sN__law_one sP__law_one (defScope s__law_one) := ⟨rfl, rfl, rfl, by decide +kernel, rfl, by decide +kernel, by decide +kernel⟩
abbrev sN__law_next : List Str := ["_law_bag_here", "_law_made", "_law_row", "_law_way", "_law_some", "_law_turn", "_law_byte", "_law_more", "_law_worth", "_law_count"]
abbrev sP__law_next : List Str := ["_law_bag_here", "_law_made", "_law_row"]
theorem sc__law_next : FnScope sN__law_next sP__law_next (defScope s__law_next) := ⟨rfl, rfl, rfl, by decide +kernel, rfl, by decide +kernel, by decide +kernel⟩
abbrev sN__law_right : List Str := ["_law_made", "_law_row", "_law_bit"]
abbrev sP__law_right : List Str := ["_law_made", "_law_row"]
theorem sc__law_right : FnScope sN__law_right sP__law_right (defScope s__law_right) := ⟨rfl, rfl, rfl, by decide +kernel, rfl, by decide +kernel, by decide +kernel⟩
abbrev sN_law : List Str := ["_law_script", "_law_at", "_law_bag_here", "_law_turn", "_law_made", "_law_row", "_law_known", "_law_one_here", "_law_some", "_law_other", "_law_third"]
abbrev sP_law : List Str := ["_law_script"]
theorem sc_law : FnScope sN_law sP_law (defScope s_law) := ⟨rfl, rfl, rfl, by decide +kernel, rfl, by decide +kernel, by decide +kernel⟩
structure Adr where
  f_is_integer : Addr
  fd_is_integer : FuncData
  f_in_range : Addr
  fd_in_range : FuncData
  f_is_byte : Addr
  fd_is_byte : FuncData
  f_checked_data : Addr
  fd_checked_data : FuncData
  f_Bits___init__ : Addr
  fd_Bits___init__ : FuncData
  f_Bits_of_data : Addr
  fd_Bits_of_data : FuncData
  f_Bits___len__ : Addr
  fd_Bits___len__ : FuncData
  f_Bits___eq__ : Addr
  fd_Bits___eq__ : FuncData
  f_Bits___add__ : Addr
  fd_Bits___add__ : FuncData
  f_Bits___getitem__ : Addr
  fd_Bits___getitem__ : FuncData
  f_Bits___str__ : Addr
  fd_Bits___str__ : FuncData
  f_Bits_each : Addr
  fd_Bits_each : FuncData
  f_Bits_first : Addr
  fd_Bits_first : FuncData
  f_Bits_data : Addr
  fd_Bits_data : FuncData
  f__law_bag : Addr
  fd__law_bag : FuncData
  f__law_take : Addr
  fd__law_take : FuncData
  f__law_one : Addr
  fd__law_one : FuncData
  f__law_next : Addr
  fd__law_next : FuncData
  f__law_right : Addr
  fd__law_right : FuncData
  f_law : Addr
  fd_law : FuncData
  d_Bits___init___values : Addr
  C_Bits : Addr
  p_Bits_of_data : Addr
  tk_Bits_BYTE : Tok
  t_MOST_DATA : Tok
structure Txt (K : PySem.W.Frag) (mg : Str → Option Value) (A : Adr) : Prop where
  F_is_integer : FunD K "is_integer" "is_integer" (defArgs s_is_integer) (defBody s_is_integer) (defScope s_is_integer) [] [] A.f_is_integer A.fd_is_integer
  b_is_integer : Binds K A.fd_is_integer sP_is_integer []
  m_is_integer : mg "is_integer" = some (.ref A.f_is_integer)
  F_in_range : FunD K "in_range" "in_range" (defArgs s_in_range) (defBody s_in_range) (defScope s_in_range) [] [] A.f_in_range A.fd_in_range
  b_in_range : Binds K A.fd_in_range sP_in_range []
  m_in_range : mg "in_range" = some (.ref A.f_in_range)
  F_is_byte : FunD K "is_byte" "is_byte" (defArgs s_is_byte) (defBody s_is_byte) (defScope s_is_byte) [] [] A.f_is_byte A.fd_is_byte
  b_is_byte : Binds K A.fd_is_byte sP_is_byte []
  m_is_byte : mg "is_byte" = some (.ref A.f_is_byte)
  F_checked_data : FunD K "checked_data" "checked_data" (defArgs s_checked_data) (defBody s_checked_data) (defScope s_checked_data) [] [] A.f_checked_data A.fd_checked_data
  b_checked_data : Binds K A.fd_checked_data sP_checked_data []
  m_checked_data : mg "checked_data" = some (.ref A.f_checked_data)
  F_Bits___init__ : FunD K "__init__" "Bits.__init__" (defArgs s_Bits___init__) (defBody s_Bits___init__) (defScope s_Bits___init__) [.ref A.d_Bits___init___values] [] A.f_Bits___init__ A.fd_Bits___init__
  dt_Bits___init___values : ∀ H, SqT K H A.d_Bits___init___values []
  b_Bits___init__ : Binds K A.fd_Bits___init__ sP_Bits___init__ []
  F_Bits_of_data : FunD K "of_data" "Bits.of_data" (defArgs s_Bits_of_data) (defBody s_Bits_of_data) (defScope s_Bits_of_data) [] [] A.f_Bits_of_data A.fd_Bits_of_data
  b_Bits_of_data : Binds K A.fd_Bits_of_data sP_Bits_of_data []
  F_Bits___len__ : FunD K "__len__" "Bits.__len__" (defArgs s_Bits___len__) (defBody s_Bits___len__) (defScope s_Bits___len__) [] [] A.f_Bits___len__ A.fd_Bits___len__
  b_Bits___len__ : Binds K A.fd_Bits___len__ sP_Bits___len__ []
  F_Bits___eq__ : FunD K "__eq__" "Bits.__eq__" (defArgs s_Bits___eq__) (defBody s_Bits___eq__) (defScope s_Bits___eq__) [] [] A.f_Bits___eq__ A.fd_Bits___eq__
  b_Bits___eq__ : Binds K A.fd_Bits___eq__ sP_Bits___eq__ []
  F_Bits___add__ : FunD K "__add__" "Bits.__add__" (defArgs s_Bits___add__) (defBody s_Bits___add__) (defScope s_Bits___add__) [] [] A.f_Bits___add__ A.fd_Bits___add__
  b_Bits___add__ : Binds K A.fd_Bits___add__ sP_Bits___add__ []
  F_Bits___getitem__ : FunD K "__getitem__" "Bits.__getitem__" (defArgs s_Bits___getitem__) (defBody s_Bits___getitem__) (defScope s_Bits___getitem__) [] [] A.f_Bits___getitem__ A.fd_Bits___getitem__
  b_Bits___getitem__ : Binds K A.fd_Bits___getitem__ sP_Bits___getitem__ []
  F_Bits___str__ : FunD K "__str__" "Bits.__str__" (defArgs s_Bits___str__) (defBody s_Bits___str__) (defScope s_Bits___str__) [] [] A.f_Bits___str__ A.fd_Bits___str__
  b_Bits___str__ : Binds K A.fd_Bits___str__ sP_Bits___str__ []
  F_Bits_each : FunD K "each" "Bits.each" (defArgs s_Bits_each) (defBody s_Bits_each) (defScope s_Bits_each) [] [] A.f_Bits_each A.fd_Bits_each
  b_Bits_each : Binds K A.fd_Bits_each sP_Bits_each []
  F_Bits_first : FunD K "first" "Bits.first" (defArgs s_Bits_first) (defBody s_Bits_first) (defScope s_Bits_first) [] [] A.f_Bits_first A.fd_Bits_first
  b_Bits_first : Binds K A.fd_Bits_first sP_Bits_first []
  F_Bits_data : FunD K "data" "Bits.data" (defArgs s_Bits_data) (defBody s_Bits_data) (defScope s_Bits_data) [] [] A.f_Bits_data A.fd_Bits_data
  b_Bits_data : Binds K A.fd_Bits_data sP_Bits_data []
  F__law_bag : FunD K "_law_bag" "_law_bag" (defArgs s__law_bag) (defBody s__law_bag) (defScope s__law_bag) [] [] A.f__law_bag A.fd__law_bag
  b__law_bag : Binds K A.fd__law_bag sP__law_bag []
  m__law_bag : mg "_law_bag" = some (.ref A.f__law_bag)
  F__law_take : FunD K "_law_take" "_law_take" (defArgs s__law_take) (defBody s__law_take) (defScope s__law_take) [] [] A.f__law_take A.fd__law_take
  b__law_take : Binds K A.fd__law_take sP__law_take []
  m__law_take : mg "_law_take" = some (.ref A.f__law_take)
  F__law_one : FunD K "_law_one" "_law_one" (defArgs s__law_one) (defBody s__law_one) (defScope s__law_one) [] [] A.f__law_one A.fd__law_one
  b__law_one : Binds K A.fd__law_one sP__law_one []
  m__law_one : mg "_law_one" = some (.ref A.f__law_one)
  F__law_next : FunD K "_law_next" "_law_next" (defArgs s__law_next) (defBody s__law_next) (defScope s__law_next) [] [] A.f__law_next A.fd__law_next
  b__law_next : Binds K A.fd__law_next sP__law_next []
  m__law_next : mg "_law_next" = some (.ref A.f__law_next)
  F__law_right : FunD K "_law_right" "_law_right" (defArgs s__law_right) (defBody s__law_right) (defScope s__law_right) [] [] A.f__law_right A.fd__law_right
  b__law_right : Binds K A.fd__law_right sP__law_right []
  m__law_right : mg "_law_right" = some (.ref A.f__law_right)
  F_law : FunD K "law" "law" (defArgs s_law) (defBody s_law) (defScope s_law) [] [] A.f_law A.fd_law
  b_law : Binds K A.fd_law sP_law []
  m_law : mg "law" = some (.ref A.f_law)
  b1_Bits___init__ : ∃ ds, Vals [.ref A.d_Bits___init___values] ds ∧ Binds K A.fd_Bits___init__ sP_Bits___init__ ds
  m_MOST_DATA : mg "MOST_DATA" = some (.int 70000 A.t_MOST_DATA)
  z_isinstance : mg "isinstance" = none
  z_int : mg "int" = none
  z_bool : mg "bool" = none
  z_enumerate : mg "enumerate" = none
  z_list : mg "list" = none
  z_len : mg "len" = none
  z_tuple : mg "tuple" = none
  z_range : mg "range" = none
  z_str : mg "str" = none
  z_sum : mg "sum" = none
  z_abs : mg "abs" = none
  z_max : mg "max" = none
  z_min : mg "min" = none
  gC_Bits : mg "Bits" = some (.ref A.C_Bits)
  cl_Bits : Cls K A.C_Bits
  nf_Bits_row : NoAttr K A.C_Bits "row"
  eqC_Bits : EqC K A.C_Bits
  M_Bits : Mk K A.C_Bits A.f_Bits___init__
  cm_Bits_of_data : ClX.CMet K A.C_Bits (.type "type") "of_data" A.p_Bits_of_data A.f_Bits_of_data
  mt_Bits___len__ : Meth K A.C_Bits "__len__" A.f_Bits___len__
  mt_Bits___eq__ : Meth K A.C_Bits "__eq__" A.f_Bits___eq__
  mt_Bits___add__ : Meth K A.C_Bits "__add__" A.f_Bits___add__
  mt_Bits___getitem__ : Meth K A.C_Bits "__getitem__" A.f_Bits___getitem__
  mf_Bits___getitem__ : PySem.W.fnIn K A.f_Bits___getitem__ = true
  mt_Bits___str__ : Meth K A.C_Bits "__str__" A.f_Bits___str__
  mt_Bits_each : Meth K A.C_Bits "each" A.f_Bits_each
  mt_Bits_first : Meth K A.C_Bits "first" A.f_Bits_first
  mt_Bits_data : Meth K A.C_Bits "data" A.f_Bits_data
  cr_Bits : ClX.CRead K A.C_Bits (.type "type")
  cv_Bits_BYTE : ClX.CVal K A.C_Bits (.type "type") "BYTE" (.int 8) (.int 8 A.tk_Bits_BYTE)
section
variable {P : Program} {w : World} {K : PySem.W.Frag} {mg : Str → Option Value} {base : Heap} {A : Adr}
/-! ### integers, bytes -/
def sp_is_integer (K : PySem.W.Frag) : Sp := fun vs H Q _ => ∃ x, vs = [x] ∧ Knd K H x ∧ Q (.bl (isInt x)) H
theorem ok_is_integer (T : Txt K mg A) : FnOk P w K mg base CX0 1 A.f_is_integer A.fd_is_integer sP_is_integer (sp_is_integer K) := by
  refine okD T.F_is_integer sc_is_integer (fun vs H Q E h => ?_) (fun cdv Ar outer s H vs Q E hr h => ⟨_, (pss_one (ps_ret ((pe_and (pe_callB call_isi (by rfl) T.z_isinstance (by decide +kernel) (pa_cons (pv 0) (pa_cons (pe_bltn (v := .ty "int") (u := .type "int") (by rfl) T.z_int (by decide +kernel) rfl) pa_nil))) (pe_one (pe_not (pe_callB call_isi (by rfl) T.z_isinstance (by decide +kernel) (pa_cons (pv 0) (pa_cons (pe_bltn (v := .ty "bool") (u := .type "bool") (by rfl) T.z_bool (by decide +kernel) rfl) pa_nil))))))))), ?_⟩)
  · obtain ⟨x, rfl, _⟩ := h
    rfl
  · obtain ⟨x, rfl, hk, k⟩ := h
    obtain ⟨n, b1, b2, ty, e1, e2, e⟩ := hk.ty
    rw [e] at k
    repeat walk_at "z"
    refine ⟨_, _, _, _, b1, rfl, .ty _, ty, kit_ty e1, _, rfl, ?_⟩
    cases b1 with
    | false => exact k
    | true =>
      refine iteT ?_
      repeat walk_at "z"
      exact ⟨_, _, _, _, b2, rfl, .ty _, ty, kit_ty e2, _, rfl, k⟩

def sp_in_range (K : PySem.W.Frag) : Sp := fun vs H Q _ => ∃ x lo hi, vs = [x, .int lo, .int hi] ∧ Knd K H x ∧ Q (.bl (inRange lo hi x)) H
theorem ok_in_range (T : Txt K mg A) : FnOk P w K mg base CX0 2 A.f_in_range A.fd_in_range sP_in_range (sp_in_range K) := by
  refine okD T.F_in_range sc_in_range (fun vs H Q E h => ?_) (fun cdv Ar outer s H vs Q E hr h => ⟨_, (pss_one (ps_ret ((pe_and (pe_call (ok_is_integer T) (hr.mono (by decide)) rfl T.m_is_integer T.F_is_integer.kp T.b_is_integer .nil pass0 (pa_cons (pv 0) pa_nil)) (pe_one (pe_chain op_le op_le (pv 1) (pv 0) (pv 2))))))), ?_⟩)
  · obtain ⟨x, lo, hi, rfl, _⟩ := h
    rfl
  · obtain ⟨x, lo, hi, rfl, hk, k⟩ := h
    repeat walk_at "z"
    refine ⟨_, rfl, hk, _, rfl, ?_⟩
    cases hk with
    | int i =>
      refine iteT ?_
      refine ⟨_, rfl, _, rfl, _, _, rfl, rfl, _, rfl, ?_⟩
      by_cases h1 : lo ≤ i
      · rw [decide_eq_true h1] 
        refine iteT ⟨_, rfl, _, _, rfl, rfl, ?_⟩
        have e : inRange lo hi (.int i) = decide (i ≤ hi) := by simp [inRange, h1]
        rw [e] at k
        exact k
      · rw [decide_eq_false h1]
        have e : inRange lo hi (.int i) = false := by simp [inRange, h1]
        rw [e] at k
        exact iteF k
    | _ => exact iteF k
def sp_is_byte (K : PySem.W.Frag) : Sp := fun vs H Q _ => ∃ x, vs = [x] ∧ Knd K H x ∧ Q (.bl (inRange 0 255 x)) H
theorem ok_is_byte (T : Txt K mg A) : FnOk P w K mg base CX0 3 A.f_is_byte A.fd_is_byte sP_is_byte (sp_is_byte K) := by
  refine okD T.F_is_byte sc_is_byte (fun vs H Q E h => ?_) (fun cdv Ar outer s H vs Q E hr h => ⟨_, (pss_one (ps_ret (pe_call (ok_in_range T) (hr.mono (by decide)) rfl T.m_in_range T.F_in_range.kp T.b_in_range .nil pass0 (pa_cons (pv 0) (pa_cons (pe_int) (pa_cons (pe_int) pa_nil)))))), ?_⟩)
  · obtain ⟨x, rfl, _⟩ := h
    rfl
  · obtain ⟨x, rfl, hk, k⟩ := h
    repeat walk_at "z"
    exact ⟨_, _, _, rfl, hk, k⟩

/-! ### data -/
def Byt (ns : List Int) : Prop := ∀ n ∈ ns, 0 ≤ n ∧ n ≤ 255
def sp_checked_data (K : PySem.W.Frag) : Sp := fun vs H Q _ => ∃ G W a ns, Wd G W H ∧ vs = [.ref a] ∧ SqL K G a (ns.map V.int) ∧ Byt ns ∧ ns.length ≤ 70000 ∧
  ∀ p G' H', Same G G' → Wd G' ((p, Is (.lst (ns.map V.int))) :: W) H' → Q (.ref p) H'
theorem ok_checked_data (T : Txt K mg A) : FnOk P w K mg base CX0 4 A.f_checked_data A.fd_checked_data sP_checked_data (sp_checked_data K) := by
  refine okD T.F_checked_data sc_checked_data (fun vs H Q E h => ?_) (fun cdv Ar outer s H vs Q E hr h => ⟨_, (pss_cons (ps_if (PW.pt (pw_or (pt_not (pt_val (pe_callB call_isiT (by rfl) T.z_isinstance (by decide +kernel) (pa_cons (pv 0) (pa_cons (pe_tup (pa_cons (pe_bltn (v := .ty "list") (u := .type "list") (by rfl) T.z_list (by decide +kernel) rfl) (pa_cons (pe_bltn (v := .ty "tuple") (u := .type "tuple") (by rfl) T.z_tuple (by decide +kernel) rfl) pa_nil))) pa_nil))))) (pw_or1 (pt_cmpR op_gt (pe_callB call_len_seq (by rfl) T.z_len PySem.boot_len (pa_cons (pv 0) pa_nil)) (pe_glob (v := .int 70000) rfl T.m_MOST_DATA ⟨_, rfl⟩) (nomark _))))) (pss_one (ps_never)) pss_nil)
      (pss_cons (ps_for PassesOwn.never rfl (pi_enumA (by rfl) T.z_enumerate (pa_cons (pv 0) pa_nil)) (pg_tup rfl (pgs_cons (pg_name (i := 1) sc_checked_data.nd rfl (Or.inl rfl)) (pgs_cons (pg_name (i := 2) sc_checked_data.nd rfl (Or.inl rfl)) pgs_nil))) (pss_one (ps_if (pt_not (pt_val (pe_call (ok_is_byte T) (hr.mono (by decide)) rfl T.m_is_byte T.F_is_byte.kp T.b_is_byte .nil pass0 (pa_cons (pv 2) pa_nil)))) (pss_one (ps_never)) pss_nil)))
      (pss_one (ps_ret (pe_callTy call_list_of (by rfl) T.z_list (by decide +kernel) (pa_cons (pv 0) pa_nil)))))), ?_⟩)
  · obtain ⟨G, W, a, ns, _, rfl, _⟩ := h
    rfl
  · obtain ⟨G, W, a, ns, w, rfl, ha, hb, hl, k⟩ := h
    walk_at "zz"
    refine ⟨by decide, NewO.good w fun p G1 H1 e1 w1 hp => ?_⟩
    walk_at "zz"
    refine isiSeq (w1.at hp) (.inl (by walk_at "up")) ⟨_, rfl, ?_⟩
    refine iteF ?_
    walk_at "zz"
    refine ⟨_, _, rfl, .inl (by walk_at "up"), ?_⟩
    walk_at "zz"
    have hl' : ¬ (70000 < ((ns.map V.int).length : Int)) := by rw [List.length_map]; omega
    rw [decide_eq_false hl']
    refine iteF ?_
    walk_at "zz"
    refine for_enumA (i1 := 1) (i2 := 2) (.inl (e1.seq ha)) (fun i σ G' W' => W' = W ∧ ∃ x y, σ = [some (.ref a), x, y]) w1 ⟨rfl, _, _, rfl⟩ ?_ ?_
    · rintro i x σ' G2 G3 W' H3 hx e2 ⟨rfl, x1, x2, rfl⟩ e3 w3
      obtain ⟨n, _, rfl, hn⟩ := getI hx
      walk_at "zz"
      refine ⟨_, rfl, .int n, _, rfl, ?_⟩
      have e : inRange 0 255 (.int n) = true := by
        have := hb n hn
        simp [inRange, this]
      rw [e]
      refine iteF ?_
      walk_at "zz"
      exact st_btw (by walk_at "sm") w3 ⟨rfl, _, _, rfl⟩
    · rintro σ' G2 W' H3 e2 w2 ⟨rfl, x1, x2, rfl⟩
      walk_at "zz"
      exact ⟨_, _, rfl, .inl (by walk_at "up"), fun l hn => k l G2 _ (by walk_at "sm") (w2.newM hn rfl)⟩

/-! ### draws -/
def BagI : HO → Prop := fun o => ∃ x y z : Int, o = .lst [.int x, .int y, .int z] ∧ 0 ≤ x ∧ 0 ≤ y ∧ y ≤ 2147483600
def sp_take : Sp := fun vs H Q _ => ∃ G W b m, Wd G W H ∧ (b, BagI) ∈ W ∧ vs = [.ref b, .int m] ∧ 0 < m ∧ m < 1073741824 ∧ ∀ r H', 0 ≤ r → r < m → Wd G W H' → Q (.int r) H'
theorem ok__law_take (T : Txt K mg A) : FnOk P w K mg base CX0 1 A.f__law_take A.fd__law_take sP__law_take sp_take := by
  refine okD T.F__law_take sc__law_take (fun vs H Q E h => ?_) (fun cdv Ar outer s H vs Q E hr h => ⟨_, (pss_cons (ps_if (pt_cmpR op_gt (pe_ix ix_list (pv 0) (pe_int) (fun _ _ => rfl)) (pe_int) (nomark _)) (pss_cons (ps_set (i := 2) sc__law_take.nd rfl (Or.inl rfl) (pe_op op_mod (pe_ix ix_list (pv 0) (pe_int) (fun _ _ => rfl)) (pv 1)))
      (pss_cons (ps_asg (pe_op op_fdiv (pe_ix ix_list (pv 0) (pe_int) (fun _ _ => rfl)) (pv 1)) (pg_sub (pv 0) (pe_int) set_list))
      (pss_one (ps_ret (pv 2))))) pss_nil)
      (pss_cons (ps_asg (pe_op op_add (pe_ix ix_list (pv 0) (pe_int) (fun _ _ => rfl)) (pe_int)) (pg_sub (pv 0) (pe_int) set_list))
      (pss_cons (ps_asg (pe_op op_add (pe_op op_mod (pe_op op_add (pe_op op_mul (pe_ix ix_list (pv 0) (pe_int) (fun _ _ => rfl)) (pe_int)) (pe_op op_mul (pe_int) (pe_ix ix_list (pv 0) (pe_int) (fun _ _ => rfl)))) (pe_int)) (pe_int)) (pg_sub (pv 0) (pe_int) set_list))
      (pss_one (ps_ret (pe_op op_mod (pe_op op_fdiv (pe_op op_mod (pe_op op_mul (pe_ix ix_list (pv 0) (pe_int) (fun _ _ => rfl)) (pe_op op_add (pe_op op_fdiv (pe_ix ix_list (pv 0) (pe_int) (fun _ _ => rfl)) (pe_int)) (pe_int))) (pe_int)) (pe_int)) (pv 1))))))), ?_⟩)
  · obtain ⟨G, W, b, m, _, _, rfl, _⟩ := h
    rfl
  · obtain ⟨G, W, b, m, w, hm, rfl, h0, h1, k⟩ := h
    obtain ⟨o, hb, x, y, z, rfl, hx, hy, hy2⟩ := w.get hm
    walk_at "zz"
    refine st_ixL (SqL.of hb) rfl ?_
    walk_at "zz"
    by_cases hx0 : 0 < x
    · rw [decide_eq_true hx0]
      refine iteT ?_
      walk_at "zz"
      refine st_ixL (SqL.of hb) rfl ?_
      walk_at "zz"
      refine st_ixL (SqL.of hb) rfl ?_
      walk_at "zz"
      refine st_setL hb rfl ?_
      walk_at "zz"
      refine k _ _ (Int.emod_nonneg _ (by omega)) (Int.emod_lt_of_pos _ h0) (w.put' hm ⟨_, _, _, rfl, Int.ediv_nonneg hx (by omega), hy, hy2⟩)
    · rw [decide_eq_false hx0]
      refine iteF ?_
      walk_at "zz"
      refine st_ixL (SqL.of hb) rfl ?_
      walk_at "zz"
      refine st_setL hb rfl ?_
      walk_at "zz"
      refine st_ixL (SqL.of upd_same) rfl ?_
      walk_at "zz"
      refine st_ixL (SqL.of upd_same) rfl ?_
      walk_at "zz"
      refine st_setL upd_same rfl ?_
      walk_at "zz"
      refine st_ixL (SqL.of upd_same) rfl ?_
      walk_at "zz"
      refine st_ixL (SqL.of upd_same) rfl ?_
      walk_at "zz"
      refine k _ _ (Int.emod_nonneg _ (by omega)) (Int.emod_lt_of_pos _ h0) ((w.put' hm ⟨_, _, _, rfl, hx, hy, hy2⟩).put' hm ⟨_, _, _, rfl, hx, ?_, ?_⟩) <;> omega
def sp_bag (K : PySem.W.Frag) : Sp := fun vs H Q _ => ∃ (G : Hp) (W : Wl) (a : Addr) (ns : List Int) (i : Int), Wd G W H ∧ vs = [.ref a, .int i] ∧ SqL K G a (ns.map V.int) ∧ 0 ≤ i ∧ i < 1000000 ∧ ∀ p H', Wd G ((p, BagI) :: W) H' → Q (.ref p) H'
theorem ok__law_bag (T : Txt K mg A) : FnOk P w K mg base CX0 1 A.f__law_bag A.fd__law_bag sP__law_bag (sp_bag K) := by
  refine okD T.F__law_bag sc__law_bag (fun vs H Q E h => ?_) (fun cdv Ar outer s H vs Q E hr h => ⟨_, (pss_cons (ps_set (i := 2) sc__law_bag.nd rfl (Or.inl rfl) (pe_int))
      (pss_cons (ps_if (pt_cmpR op_lt (pv 1) (pe_callB call_len_seq (by rfl) T.z_len PySem.boot_len (pa_cons (pv 0) pa_nil)) (nomark _)) (pss_one (ps_set (i := 2) sc__law_bag.nd rfl (Or.inl rfl) (pe_ix ix_list (pv 0) (pv 1) (fun _ _ => rfl)))) pss_nil)
      (pss_cons (ps_set (i := 3) sc__law_bag.nd rfl (Or.inl rfl) (pe_op op_mul (pe_callB call_abs (by rfl) T.z_abs (by decide +kernel) (pa_cons (pv 2) pa_nil)) (pe_callTy call_int1 (by rfl) T.z_int (by decide +kernel) (pa_cons (pe_cmpR op_ge (pe_callB call_abs (by rfl) T.z_abs (by decide +kernel) (pa_cons (pv 2) pa_nil)) (pe_op op_powW (pe_int) (pe_int)) (nomark _)) pa_nil))))
      (pss_one (ps_ret (pe_lst (pa_cons (pv 3) (pa_cons (pe_op op_add (pe_op op_mod (pe_op op_add (pe_op op_add (pe_op op_mul (pe_op op_mod (pv 2) (pe_int)) (pe_int)) (pe_op op_mul (pe_int) (pv 1))) (pe_int)) (pe_int)) (pe_int)) (pa_cons (pe_int) pa_nil))))))))), ?_⟩)
  · obtain ⟨G, W, a, ns, i, _, rfl, _⟩ := h
    rfl
  · obtain ⟨G, W, a, ns, i, w, rfl, ha, h0, h1, k⟩ := h
    walk_at "zz"
    refine ⟨_, _, rfl, .inl (by walk_at "up"), ?_⟩
    walk_at "zz"
    by_cases hi : i < ((ns.map V.int).length : Int)
    case' pos =>
      rw [decide_eq_true hi]
      refine iteT ?_
      walk_at "zz"
      obtain ⟨n, hn⟩ : ∃ n, ns[i.toNat]? = some n := ⟨_, List.getElem?_eq_getElem (by rw [List.length_map] at hi; omega)⟩
      refine st_ixL (v := .int n) (by walk_at "up") (by rw [show i = (i.toNat : Int) by omega]; exact atI_nat (by rw [List.getElem?_map, hn]; rfl)) ?_
    case' neg =>
      rw [decide_eq_false hi]
      refine iteF ?_
    all_goals
      walk_at "zz"
      refine ⟨_, rfl, ?_⟩
      walk_at "zz"
      refine ⟨_, rfl, ?_⟩
      walk_at "zz"
      refine .inr ⟨_, rfl, ?_⟩
      refine st_i (.inr (by split <;> omega)) ?_
      walk_at "zz"
      refine ⟨small (by simp), fun p hp => k p _ (w.newM hp ⟨_, _, _, rfl, ?_, ?_, ?_⟩)⟩
      · refine Int.mul_nonneg ?_ ?_
        · split <;> omega
        · split <;> omega
      all_goals omega

/-! ### what a token is -/
def sp_one (K : PySem.W.Frag) : Sp := fun vs H Q _ => ∃ (G : Hp) (W : Wl) (b a : Addr) (xs : List V), Wd G W H ∧ (b, BagI) ∈ W ∧ vs = [.ref b, .ref a] ∧ SqL K G a xs ∧ 0 < xs.length ∧ xs.length < 1000 ∧ ∀ v H', v ∈ xs → Wd G W H' → Q v H'
theorem ok__law_one (T : Txt K mg A) : FnOk P w K mg base CX0 2 A.f__law_one A.fd__law_one sP__law_one (sp_one K) := by
  refine okD T.F__law_one sc__law_one (fun vs H Q E h => ?_) (fun cdv Ar outer s H vs Q E hr h => ⟨_, (pss_one (ps_ret (pe_ix ix_list (pv 1) (pe_call (ok__law_take T) (hr.mono (by decide)) rfl T.m__law_take T.F__law_take.kp T.b__law_take .nil pass0 (pa_cons (pv 0) (pa_cons (pe_callB call_len_seq (by rfl) T.z_len PySem.boot_len (pa_cons (pv 1) pa_nil)) pa_nil))) (fun _ _ => rfl)))), ?_⟩)
  · obtain ⟨G, W, b, a, xs, _, _, rfl, _⟩ := h
    rfl
  · obtain ⟨G, W, b, a, xs, w, hm, rfl, ha, h0, h1, k⟩ := h
    walk_at "zz"
    refine ⟨_, _, rfl, .inl (by walk_at "up"), ?_⟩
    walk_at "zz"
    refine ⟨G, W, b, _, w, hm, rfl, by omega, by omega, fun r H1 hr0 hr1 w1 => ?_⟩
    obtain ⟨v, hv⟩ : ∃ v, xs[r.toNat]? = some v := ⟨_, List.getElem?_eq_getElem (by omega)⟩
    refine st_ixL (v := v) (by walk_at "up") (by rw [show r = (r.toNat : Int) by omega]; exact atI_nat hv) ?_
    exact k v H1 (List.mem_of_getElem? hv) w1

/-! ### rows of bits -/
def BitsAt (K : PySem.W.Frag) (C : Addr) (G : Hp) (x : Addr) (bs : List Int) : Prop := ∃ dx t, G x = some (.ins C dx [("row", .ref t)]) ∧ SqT K G t (bs.map V.int)
theorem BitsAt.up {C : Addr} {G G' : Hp} {x : Addr} {bs : List Int} (h : BitsAt K C G x bs) (e : Same G G') : BitsAt K C G' x bs := let ⟨dx, t, h1, h2⟩ := h; ⟨dx, t, e _ _ h1, seqT e h2⟩
theorem BitsAt.at {C : Addr} {G H : Hp} {W : Wl} {x : Addr} {bs : List Int} (h : BitsAt K C G x bs) (w : Wd G W H) : BitsAt K C H x bs := let ⟨dx, t, h1, h2⟩ := h; ⟨dx, t, w.at h1, tup_up w h2⟩
def Bit01 (bs : List Int) : Prop := ∀ n ∈ bs, 0 ≤ n ∧ n ≤ 1
def SqA (K : PySem.W.Frag) (H : Hp) (a : Addr) (xs : List V) : Prop := SqL K H a xs ∨ SqT K H a xs
theorem SqA.up {G H : Hp} {a : Addr} {xs : List V} (e : Same G H) (h : SqA K G a xs) : SqA K H a xs := h.imp (fun h => e.seq h) fun h => seqT e h
def sp_binit (K : PySem.W.Frag) (C : Addr) : Sp := fun vs H Q _ => ∃ (G : Hp) (W : Wl) (x dx a : Addr) (bs : List Int), Wd G ((x, Is (.ins C dx [])) :: W) H ∧ vs = [.ref x, .ref a] ∧ SqA K G a (bs.map V.int) ∧ Bit01 bs ∧ bs.length ≤ 100000 ∧
  ∀ t G' H', Same G G' → Wd G' ((x, Is (.ins C dx [("row", .ref t)])) :: W) H' → SqT K G' t (bs.map V.int) → Q .non H'
theorem ok_Bits___init__ (T : Txt K mg A) : FnOk P w K mg base CX0 3 A.f_Bits___init__ A.fd_Bits___init__ sP_Bits___init__ (sp_binit K A.C_Bits) := by
  refine okD T.F_Bits___init__ sc_Bits___init__ (fun vs H Q E h => ?_) (fun cdv Ar outer s H vs Q E hr h => ⟨_, (pss_cons (ps_if (pt_not (pt_val (pe_callB call_isiT (by rfl) T.z_isinstance (by decide +kernel) (pa_cons (pv 1) (pa_cons (pe_tup (pa_cons (pe_bltn (v := .ty "list") (u := .type "list") (by rfl) T.z_list (by decide +kernel) rfl) (pa_cons (pe_bltn (v := .ty "tuple") (u := .type "tuple") (by rfl) T.z_tuple (by decide +kernel) rfl) pa_nil))) pa_nil))))) (pss_one (ps_never)) pss_nil)
      (pss_cons (ps_for PassesOwn.never rfl (pi_enumA (by rfl) T.z_enumerate (pa_cons (pv 1) pa_nil)) (pg_tup rfl (pgs_cons (pg_name (i := 2) sc_Bits___init__.nd rfl (Or.inl rfl)) (pgs_cons (pg_name (i := 3) sc_Bits___init__.nd rfl (Or.inl rfl)) pgs_nil))) (pss_one (ps_if (pt_not (pt_val (pe_call (ok_in_range T) (hr.mono (by decide)) rfl T.m_in_range T.F_in_range.kp T.b_in_range .nil pass0 (pa_cons (pv 3) (pa_cons (pe_int) (pa_cons (pe_int) pa_nil)))))) (pss_one (ps_never)) pss_nil)))
      (pss_one (ps_fld (pv 0) (pe_callTy call_tuple_of (by rfl) T.z_tuple (by decide +kernel) (pa_cons (pv 1) pa_nil)) rfl)))), ?_⟩)
  · obtain ⟨G, W, x, dx, a, bs, _, rfl, _⟩ := h
    rfl
  · obtain ⟨G, W, x, dx, a, bs, w, rfl, ha, hb, hl, k⟩ := h
    walk_at "zb"
    refine ⟨by decide, NewO.good w fun p G1 H1 e1 w1 hp => ?_⟩
    walk_at "zb"
    refine isiSeq (w1.at hp) ((ha.up e1).up w1.ex) ⟨_, rfl, ?_⟩
    walk_at "zb"
    refine for_enumA (i1 := 2) (i2 := 3) (ha.up e1) (fun i σ G' W' => W' = (x, Is (.ins A.C_Bits dx [])) :: W ∧ ∃ y z, σ = [some (.ref x), some (.ref a), y, z]) w1 ⟨rfl, _, _, rfl⟩ ?_ ?_
    · rintro i y σ' G2 G3 W' H3 hx e2 ⟨rfl, x1, x2, rfl⟩ e3 w3
      obtain ⟨n, _, rfl, hn⟩ := getI hx
      walk_at "zb"
      refine ⟨_, _, _, rfl, .int n, ?_⟩
      have e : inRange 0 1 (.int n) = true := by
        have := hb n hn
        simp [inRange, this]
      rw [e]
      walk_at "zb"
      exact st_btw (by walk_at "sm") w3 ⟨rfl, _, _, rfl⟩
    · rintro σ' G2 W' H2 e2 w2 ⟨rfl, x1, x2, rfl⟩
      walk_at "zb"
      rcases ha.up (e1.trans e2) with ha | ha
      · refine ⟨a, _, rfl, .inl ⟨seq_up w2 ha, fun t ht => ?_⟩⟩
        have e3 : Same G2 (upd G2 t (.tup (bs.map V.int))) := same_upd (w2.free ht)
        have w3 : Wd _ _ (upd H2 t (.tup (bs.map V.int))) := w2.new ht
        have h3 : SqT K (upd G2 t (.tup (bs.map V.int))) t (bs.map V.int) := SqT.of upd_same
        generalize upd G2 t (.tup (bs.map V.int)) = G3 at e3 w3 h3
        generalize upd H2 t (.tup (bs.map V.int)) = H3 at w3
        walk_at "zb"
        refine ⟨x, A.C_Bits, dx, [], rfl, Wd.is1 w3, T.cl_Bits, T.nf_Bits_row, by decide, ?_⟩
        exact k t G3 _ (by walk_at "sm") w3.put1 h3
      · refine ⟨a, _, rfl, .inr ⟨tup_up w2 ha, ?_⟩⟩
        walk_at "zb"
        refine ⟨x, A.C_Bits, dx, [], rfl, Wd.is1 w2, T.cl_Bits, T.nf_Bits_row, by decide, ?_⟩
        exact k a G2 _ (by walk_at "sm") w2.put1 ha
def sp_blen (K : PySem.W.Frag) (C : Addr) : Sp := fun vs H Q _ => ∃ x bs, vs = [.ref x] ∧ BitsAt K C H x bs ∧ Q (.int bs.length) H
theorem ok_Bits___len__ (T : Txt K mg A) : FnOk P w K mg base CX0 1 A.f_Bits___len__ A.fd_Bits___len__ sP_Bits___len__ (sp_blen K A.C_Bits) := by
  refine okD T.F_Bits___len__ sc_Bits___len__ (fun vs H Q E h => ?_) (fun cdv Ar outer s H vs Q E hr h => ⟨_, (pss_one (ps_ret (pe_callB call_len_seq (by rfl) T.z_len PySem.boot_len (pa_cons (pe_fld (pv 0) rfl) pa_nil)))), ?_⟩)
  · obtain ⟨x, bs, rfl, _⟩ := h
    rfl
  · obtain ⟨x, bs, rfl, ⟨dx, t, hx, ht⟩, k⟩ := h
    walk_at "zb"
    refine ⟨x, A.C_Bits, dx, _, _, rfl, hx, T.cl_Bits, T.nf_Bits_row, rfl, ?_⟩
    walk_at "zb"
    refine ⟨t, _, rfl, .inr ht, ?_⟩
    rw [List.length_map]
    exact k
/-- the first i bits as a number -/
def fldN (cs : List Int) (i : Nat) : Int := (((List.range i).map fun j => cs.getD j 0 * 2 ^ j)).sum
def fld (cs : List Int) : Int := fldN cs cs.length
theorem fldN_succ (cs : List Int) (i : Nat) : fldN cs (i + 1) = fldN cs i + cs.getD i 0 * 2 ^ i := by
  unfold fldN
  rw [List.range_succ, List.map_append, List.sum_append]
  simp
def part (bs : List Int) (s c : Int) : List Int := (bs.drop s.toNat).take c.toNat
theorem cut_part {bs : List Int} {s c : Int} (h0 : 0 ≤ s) (h1 : 0 ≤ c) : cutV (bs.map V.int) (some s) (some (s + c)) = (part bs s c).map V.int := by
  unfold cutV part
  simp only [HT.sIx, if_neg (show ¬ s < 0 by omega), if_neg (show ¬ s + c < 0 by omega), List.length_map]
  rw [List.map_take, List.map_drop]
  rcases Nat.le_total s.toNat bs.length with h | h
  · rw [Nat.min_eq_left h]
    rcases Nat.le_total (s + c).toNat bs.length with h2 | h2
    · rw [Nat.min_eq_left h2]
      congr 1
      omega
    · rw [Nat.min_eq_right h2, List.take_of_length_le (by rw [List.length_drop, List.length_map]; omega), List.take_of_length_le (by rw [List.length_drop, List.length_map]; omega)]
  · rw [Nat.min_eq_right h, List.drop_of_length_le (by rw [List.length_map]; omega), List.drop_of_length_le (by rw [List.length_map]; omega)]
    simp
theorem part_mem {bs : List Int} {s c : Int} {n : Int} (h : n ∈ part bs s c) : n ∈ bs := List.mem_of_mem_drop (List.mem_of_mem_take h)
theorem part_len (bs : List Int) (s c : Int) : (part bs s c).length ≤ bs.length := by
  unfold part
  rw [List.length_take, List.length_drop]
  omega
theorem st_slTI {G H : Hp} {W : Wl} {Q : VK} {t : Addr} {bs : List Int} {s c : Int} (ht : SqT K H t (bs.map V.int)) (h0 : 0 ≤ s) (h1 : 0 ≤ c) (w : Wd G W H)
    (k : ∀ q G' H', Same G G' → Wd G' W H' → SqT K G' q ((part bs s c).map V.int) → Q (.ref q) H') (hG : SqT K G t (bs.map V.int)) : rSlA K (.ref t) (some s) (some (s + c)) H Q := by
  refine ⟨t, _, rfl, ht, fun h => ?_, fun _ p hp => ?_⟩
  · refine k t G H (Same.refl _) w ?_
    rw [← cut_part h0 h1]
    unfold cutV
    rw [h.1, h.2, List.drop_zero, Nat.sub_zero, List.take_length]
    exact hG
  · rw [cut_part h0 h1]
    exact k p _ _ (same_upd (w.free hp)) (w.new hp) (SqT.of upd_same)
/-! ### the bits of data -/
def bits8 (n : Int) : List Int := (List.range 8).map fun j => n / 2 ^ j % 2
def bitsOf (ns : List Int) : List Int := ns.flatMap bits8
theorem bits_len (ns : List Int) : (bitsOf ns).length = 8 * ns.length := by
  induction ns with
  | nil => rfl
  | cons n ns ih =>
    show (bits8 n ++ bitsOf ns).length = _
    rw [List.length_append, ih, List.length_cons]
    show 8 + 8 * ns.length = 8 * (ns.length + 1)
    omega
theorem bits_01 (ns : List Int) : Bit01 (bitsOf ns) := fun b hb => by
  obtain ⟨n, _, h⟩ := List.mem_flatMap.mp hb
  obtain ⟨j, _, rfl⟩ := List.mem_map.mp h
  have := Int.emod_nonneg (n / 2 ^ j) (show (2 : Int) ≠ 0 by decide)
  have := Int.emod_lt_of_pos (n / 2 ^ j) (show (0 : Int) < 2 by decide)
  omega
theorem mk_bits {C : Addr} {G H : Hp} {W : Wl} {Qx : Addr → Hp → Prop} {D : Addr} {bs : List Int} (w : Wd G W H) (ha : SqA K G D (bs.map V.int)) (hb : Bit01 bs) (hl : bs.length ≤ 100000) (k : ∀ x G' H', Same G G' → Wd G' W H' → BitsAt K C G' x bs → Qx x H') :
    ∀ x dx, H x = none → H dx = none → dx ≠ x → sp_binit K C [.ref x, .ref D] (upd (upd H dx (.own x)) x (.ins C dx [])) (fun v H2 => v = .non ∧ Qx x H2) E0 :=
  new_ins (P := fun x dx H1 => sp_binit K C [.ref x, .ref D] H1 (fun v H2 => v = .non ∧ Qx x H2) E0) w fun x dx G1 H1 e1 hdx w1 => ⟨G1, W, x, dx, D, bs, w1, rfl, ha.up e1, hb, hl, fun t G2 H2 e2 w2 ht => ⟨rfl, by
    obtain ⟨o, rfl, _, e3, w3⟩ := w2.freeze1
    exact k x _ H2 ((e1.trans e2).trans e3) w3 ⟨dx, t, upd_same, seqT e3 ht⟩⟩⟩
def sp_ofdata (K : PySem.W.Frag) (C : Addr) : Sp := fun vs H Q _ => ∃ (G : Hp) (W : Wl) (a : Addr) (ns : List Int), Wd G W H ∧ vs = [.ref C, .ref a] ∧ SqL K G a (ns.map V.int) ∧ Byt ns ∧ ns.length ≤ 1000 ∧ ∀ x G' H', Same G G' → Wd G' W H' → BitsAt K C G' x (bitsOf ns) → Q (.ref x) H'
theorem take_flat {ns : List Int} {i : Nat} {n : Int} (h : ns[i]? = some n) : (ns.take (i + 1)).flatMap bits8 = (ns.take i).flatMap bits8 ++ bits8 n := by
  rw [List.take_add_one, h, List.flatMap_append]
  simp
theorem ok_Bits_of_data (T : Txt K mg A) : FnOk P w K mg base CX0 5 A.f_Bits_of_data A.fd_Bits_of_data sP_Bits_of_data (sp_ofdata K A.C_Bits) := by
  refine okD T.F_Bits_of_data sc_Bits_of_data (fun vs H Q E h => ?_) (fun cdv Ar outer s H vs Q E hr h => ⟨_, (pss_one (ps_ret (pe_makeV (pv 0) T.M_Bits (ok_Bits___init__ T) (hr.mono (by decide)) T.b_Bits___init__ .nil pass0 (pa_cons (pe_lc2 (own := [("byte", 2), ("place", 3)]) (g := gName 2) (g1 := gName 3) (vs1 := [3]) (tt := tYes) (tt1 := tYes) rfl sc_Bits_of_data.nd (pi_list (pe_call (ok_checked_data T) (hr.mono (by decide)) rfl T.m_checked_data T.F_checked_data.kp T.b_checked_data .nil pass0 (pa_cons (pv 1) pa_nil))) (blkOk_by (own := [("byte", 2), ("place", 3)]) (N := sN_Bits_of_data) (sc := defScope s_Bits_of_data) (by decide +kernel)) (by decide) (fun _ _ _ _ _ => pg_name (i := 2) sc_Bits_of_data.nd rfl (Or.inl rfl)) (fun _ _ _ _ _ => pts_nil) (fun _ _ _ _ _ => (pi_range1 (by rfl) T.z_range (pa_cons ((show PE _ _ (ClX.tCVal K (tVar 0) "BYTE") from ClX.pe_cval (pv 0))) pa_nil))) (fun _ _ _ _ _ => pg_name (i := 3) sc_Bits_of_data.nd rfl (Or.inl rfl)) (fun _ _ _ _ _ => pts_nil) (fun _ _ _ _ _ => (pe_op op_and (pe_op op_shr (pv 2) (pv 3)) (pe_int)))) pa_nil)))), ?_⟩)
  · obtain ⟨G, W, a, ns, _, rfl, _⟩ := h
    rfl
  · obtain ⟨G, W, a, ns, w, rfl, ha, hB, hl, k⟩ := h
    walk_at "zb"
    refine ⟨rfl, ?_⟩
    walk_at "zb"
    refine ⟨G, W, a, ns, w, rfl, ha, hB, by omega, fun p G1 H1 e1 w1 => ?_⟩
    obtain ⟨o, rfl, _, e2, w2⟩ := w1.freeze1
    have hp : HL (upd G1 p (.lst (ns.map V.int))) p ns := upd_same
    generalize upd G1 p (.lst (ns.map V.int)) = G2 at e2 w2 hp
    refine lc2_l hp.seq (fun i acc _ => acc = ((ns.take i).flatMap bits8).map V.int) w2 rfl (fun _ => rfl) ?_ ?_
    · rintro i x D G3 H3 acc hx e3 w3 rfl
      obtain ⟨n, hn, rfl, hmem⟩ := getI hx
      have hlen : ((ns.take i).flatMap bits8).length ≤ 8000 := by
        have h1 := bits_len (ns.take i)
        unfold bitsOf at h1
        rw [h1, List.length_take]
        omega
      walk_at "zb"
      refine ⟨A.C_Bits, _, .int 8, _, rfl, T.cr_Bits, T.cv_Bits_BYTE, ?_⟩
      walk_at "zb"
      refine lc_in1 (by decide) (fun j acc _ => acc = (((ns.take i).flatMap bits8) ++ (List.range j).map fun j => n / 2 ^ j % 2).map V.int) w3 (by simp) (fun _ => rfl) ?_ ?_
      · rintro j G4 H4 acc hj e4 w4 rfl
        walk_at "zb"
        refine lc_put w4 e4 (by simp; simp at hlen; omega) ?_
        rw [bitAnd_m1, List.range_succ, List.map_append, List.map_append, List.map_append, List.map_append, List.append_assoc]
        rfl
      · rintro G4 H4 acc e4 w4 rfl
        refine lc_skip w4 (by walk_at "sm") ?_
        rw [take_flat hn]
        rfl
    · rintro D G3 H3 acc e3 w3 rfl
      obtain ⟨o, rfl, _, e4, w4⟩ := w3.freeze1
      rw [List.length_map, List.take_length] at w4 e4
      have hD : HL (upd G3 D (.lst ((ns.flatMap bits8).map V.int))) D (ns.flatMap bits8) := upd_same
      generalize upd G3 D (.lst ((ns.flatMap bits8).map V.int)) = G4 at e4 w4 hD
      walk_at "zb"
      refine mk_bits w4 (.inl hD.seq) (bits_01 ns) ?_ fun x G5 H5 e5 w5 h5 => ?_
      · have := bits_len ns
        unfold bitsOf at this
        omega
      · exact k x G5 H5 (by walk_at "sm") w5 h5
theorem st_catA {G H : Hp} {W : Wl} {Q : VK} {a b : Addr} {xs ys : List V} (w : Wd G W H) (ha : SqT K G a xs) (hb : SqT K G b ys) (hz : xs.length + ys.length ≤ sizeLine) (k : ∀ p G' H', Same G G' → Wd G' W H' → SqT K G' p (xs ++ ys) → Q (.ref p) H') : rCatA K (.ref a) (.ref b) H Q := by
  refine ⟨a, b, xs, ys, rfl, rfl, tup_up w ha, tup_up w hb, hz, fun e => ?_, fun _ e => ?_, fun _ _ p hp => ?_⟩
  · subst e
    exact k b G H (fun _ _ h => h) w hb
  · subst e
    exact k a G H (fun _ _ h => h) w (by rw [List.append_nil]; exact ha)
  · exact k p _ _ (same_upd (w.free hp)) (w.new hp) (SqT.of upd_same)
theorem bit_text {b : Int} (h : b = 0 ∨ b = 1) : (Str.ofString (toString b)) = bt [b] := by
  rcases h with rfl | rfl <;> decide
theorem sgl_flat (bs : List Int) : (bs.map fun b => [b]).flatten = bs := by
  induction bs with
  | nil => rfl
  | cons b bs ih => rw [List.map_cons, List.flatten_cons, ih]; rfl
theorem bits_join (bs : List Int) : Txt.join "" (bs.map fun b => bt [b]) = bt bs := by
  have h := bt_joins (bs.map fun b => [b])
  rw [List.map_map, sgl_flat] at h
  exact h
theorem bits_sum (bs : List Int) : ((bs.map fun b => bt [b]).map (·.length)).sum = bs.length := by
  induction bs with
  | nil => rfl
  | cons b bs ih =>
    rw [List.map_cons, List.map_cons, List.sum_cons, ih, bt_len, List.length_cons]
    show 1 + bs.length = bs.length + 1
    omega
theorem lc_tE {G H : Hp} {W : Wl} {a : Addr} {xs : List V} {Q : VK} {j : Nat} {te1 te : TE} {tt : L2.St → Hp → (Bool → Hp → Prop) → Prop} {vs : List Nat} {σ : L2.St} (ht : ∀ Q : VK, Q (.ref a) H → te1 σ H Q) (hx : SqT K G a xs) (I : Nat → List V → Hp → Prop) (w : Wd G W H) (h0 : I 0 [] G) (hw : ∀ x, wipe ((wipe σ vs).set j x) vs = wipe σ vs)
    (hs : ∀ (i : Nat) x D G' H' acc, xs[i]? = some x → Same G G' → Wd G' ((D, Is (.lst acc)) :: W) H' → I i acc G' → tt ((wipe σ vs).set j (some x)) H' fun b H3 =>
      if b = true then te ((wipe σ vs).set j (some x)) H3 fun y H4 => ∃ acc, H4 D = some (.lst acc) ∧ acc.length < sizeLine ∧ LcB I G W D (i + 1) (upd H4 D (.lst (acc ++ [y]))) else LcB I G W D (i + 1) H3)
    (hd : ∀ D G' H' acc, Same G G' → Wd G' ((D, Is (.lst acc)) :: W) H' → I xs.length acc G' → Q (.ref D) H') : L2.tLc (iTup K te1) (gName j) tt te vs σ H Q :=
  ht _ (lc_t hx I w h0 hw hs hd)
theorem strLen_app (a b : Str) : (a ++ b).length = a.length + b.length := by
  show (a.cps ++ b.cps).size = a.cps.size + b.cps.size
  exact Array.size_append
theorem at_map {α β : Type} {f : α → β} {xs : List α} {i : Nat} {y : β} (h : (xs.map f)[i]? = some y) : ∃ x, xs[i]? = some x ∧ f x = y := by
  rw [List.getElem?_map] at h
  exact Option.map_eq_some_iff.mp h
def sp_beq (K : PySem.W.Frag) (C : Addr) : Sp := fun vs H Q _ => ∃ x bs y cs, vs = [.ref x, .ref y] ∧ BitsAt K C H x bs ∧ BitsAt K C H y cs ∧ Q (.bl (decide (bs = cs))) H
theorem ok_Bits___eq__ (T : Txt K mg A) : FnOk P w K mg base CX0 1 A.f_Bits___eq__ A.fd_Bits___eq__ sP_Bits___eq__ (sp_beq K A.C_Bits) := by
  refine okD T.F_Bits___eq__ sc_Bits___eq__ (fun vs H Q E h => ?_) (fun cdv Ar outer s H vs Q E hr h => ⟨_, (pss_one (ps_ret ((pe_and (pe_callB call_isi (by rfl) T.z_isinstance (by decide +kernel) (pa_cons (pv 1) (pa_cons (pe_glob (v := .ref A.C_Bits) rfl T.gC_Bits rfl) pa_nil))) (pe_one (pe_cmpR (op_eqD hr.units) (pe_fld (pv 0) rfl) (pe_fld (pv 1) rfl) (nomark _))))))), ?_⟩)
  · obtain ⟨x, bs, y, cs, rfl, _⟩ := h
    rfl
  · obtain ⟨x, bs, y, cs, rfl, ⟨dx, t, hx, ht⟩, ⟨dy, u, hy, hu⟩, k⟩ := h
    walk_at "zq"
    refine ⟨_, _, _, _, true, rfl, .own _, T.eqC_Bits.ty T.cl_Bits hy, kit_own, ?_⟩
    walk_at "zq"
    refine ⟨x, A.C_Bits, dx, _, _, rfl, hx, T.cl_Bits, T.nf_Bits_row, rfl, ?_⟩
    walk_at "zq"
    refine ⟨y, A.C_Bits, dy, _, _, rfl, hy, T.cl_Bits, T.nf_Bits_row, rfl, ?_⟩
    exact st_eqT bs cs ht hu k
def sp_badd (K : PySem.W.Frag) (C : Addr) : Sp := fun vs H Q _ => ∃ (G : Hp) (W : Wl) (x y : Addr) (bs cs : List Int), Wd G W H ∧ vs = [.ref x, .ref y] ∧ BitsAt K C G x bs ∧ BitsAt K C G y cs ∧ Bit01 bs ∧ Bit01 cs ∧ bs.length + cs.length ≤ 6000 ∧ ∀ p G' H', Same G G' → Wd G' W H' → BitsAt K C G' p (bs ++ cs) → Q (.ref p) H'
theorem ok_Bits___add__ (T : Txt K mg A) : FnOk P w K mg base CX0 5 A.f_Bits___add__ A.fd_Bits___add__ sP_Bits___add__ (sp_badd K A.C_Bits) := by
  refine okD T.F_Bits___add__ sc_Bits___add__ (fun vs H Q E h => ?_) (fun cdv Ar outer s H vs Q E hr h => ⟨_, (pss_one (ps_ret (pe_make T.M_Bits (ok_Bits___init__ T) (hr.mono (by decide)) rfl T.gC_Bits T.b_Bits___init__ .nil pass0 (pa_cons (pe_op op_catA (pe_fld (pv 0) rfl) (pe_fld (pv 1) rfl)) pa_nil)))), ?_⟩)
  · obtain ⟨G, W, x, y, bs, cs, _, rfl, _⟩ := h
    rfl
  · obtain ⟨G, W, x, y, bs, cs, w, rfl, ⟨dx, t, hx, ht⟩, ⟨dy, u, hy, hu⟩, h0, h1, hl, k⟩ := h
    walk_at "zq"
    refine ⟨x, A.C_Bits, dx, _, _, rfl, w.at hx, T.cl_Bits, T.nf_Bits_row, rfl, ?_⟩
    walk_at "zq"
    refine ⟨y, A.C_Bits, dy, _, _, rfl, w.at hy, T.cl_Bits, T.nf_Bits_row, rfl, ?_⟩
    refine st_catA w ht hu (by rw [List.length_map, List.length_map]; exact small (by omega)) fun p G1 H1 e1 w1 hp => ?_
    rw [← List.map_append] at hp
    walk_at "zq"
    exact mk_bits w1 (.inr hp) (fun n hn => (List.mem_append.mp hn).elim (h0 n) (h1 n)) (by rw [List.length_append]; omega) fun q G2 H2 e2 w2 h2 => k q G2 H2 (e1.trans e2) w2 h2
def sp_bstr (K : PySem.W.Frag) (C : Addr) : Sp := fun vs H Q _ => ∃ (G : Hp) (W : Wl) (x : Addr) (bs : List Int), Wd G W H ∧ vs = [.ref x] ∧ BitsAt K C G x bs ∧ Bit01 bs ∧ bs.length ≤ 6000 ∧ ∀ G' H', Same G G' → Wd G' W H' → Q (.str (bt bs)) H'
theorem ok_Bits___str__ (T : Txt K mg A) : FnOk P w K mg base CX0 3 A.f_Bits___str__ A.fd_Bits___str__ sP_Bits___str__ (sp_bstr K A.C_Bits) := by
  refine okD T.F_Bits___str__ sc_Bits___str__ (fun vs H Q E h => ?_) (fun cdv Ar outer s H vs Q E hr h => ⟨_, (pss_one (ps_ret (pe_joinK (pe_str) (pe_lc (own := [("bit", 1)]) (g := gName 1) (tt := tYes) rfl sc_Bits___str__.nd (pi_tup (pe_fld (pv 0) rfl)) (blkOk_by (own := [("bit", 1)]) (N := sN_Bits___str__) (sc := defScope s_Bits___str__) (by decide +kernel)) (fun _ _ _ _ _ => pg_name (i := 1) sc_Bits___str__.nd rfl (Or.inl rfl)) (fun _ _ _ _ _ => pts_nil) (fun _ _ _ _ _ => (pe_callTy call_str_int (by rfl) T.z_str (by decide +kernel) (pa_cons (pv 1) pa_nil))))))), ?_⟩)
  · obtain ⟨G, W, x, bs, _, rfl, _⟩ := h
    rfl
  · obtain ⟨G, W, x, bs, w, rfl, ⟨dx, t, hx, ht⟩, h0, hl, k⟩ := h
    walk_at "zq"
    refine ⟨⟨_, rfl⟩, ?_⟩
    refine lc_tE (te1 := tFld K (tVar 0) "row") (fun Q h => ⟨_, rfl, x, A.C_Bits, dx, _, _, rfl, w.at hx, T.cl_Bits, T.nf_Bits_row, rfl, h⟩) ht (fun i acc _ => acc = (bs.take i).map fun b => V.str (bt [b])) w rfl (fun _ => rfl) ?_ ?_
    · rintro i y D G2 H2 acc hy e2 w2 rfl
      obtain ⟨b, hb, rfl⟩ := at_map hy
      have hb01 := h0 b (List.mem_of_getElem? hb)
      walk_at "zq"
      refine ⟨b, rfl, Nat.lt_trans (log_lt (k := 64) (by omega) (by decide)) (by decide), ?_⟩
      rw [bit_text (by omega)]
      refine lc_put w2 e2 (by rw [List.length_map, List.length_take]; omega) ?_
      rw [List.take_add_one, hb, List.map_append]
      rfl
    · rintro D G2 H2 acc e2 w2 rfl
      obtain ⟨o, rfl, hD, e3, w3⟩ := w2.freeze1
      rw [List.length_map, List.take_length] at e3 w3 hD
      refine ⟨_, D, bs.map fun b => bt [b], rfl, rfl, .inl ?_, ?_, ?_⟩
      · rw [List.map_map]
        exact SqL.of hD
      · rw [bits_sum]
        show bs.length + _ * 0 ≤ _
        omega
      rw [bits_join]
      exact k _ _ (e2.trans e3) w3

/-! ### first, data, [k] -/
theorem st_slTG {G H : Hp} {W : Wl} {Q : VK} {t : Addr} {xs : List V} {lo hi : Option Int} (ht : SqT K G t xs) (w : Wd G W H)
    (k : ∀ q G' H', Same G G' → Wd G' W H' → SqT K G' q (cutV xs lo hi) → Q (.ref q) H') : rSlA K (.ref t) lo hi H Q := by
  refine ⟨t, _, rfl, tup_up w ht, fun h => ?_, fun _ p hp => k p _ _ (same_upd (w.free hp)) (w.new hp) (SqT.of upd_same)⟩
  refine k t G H (Same.refl _) w ?_
  unfold cutV
  rw [h.1, h.2, List.drop_zero, Nat.sub_zero, List.take_length]
  exact ht
def sp_bfirst (K : PySem.W.Frag) (C : Addr) : Sp := fun vs H Q _ => ∃ (G : Hp) (W : Wl) (x : Addr) (bs : List Int) (n : Nat), Wd G W H ∧ vs = [.ref x, .int (n : Int)] ∧ BitsAt K C G x bs ∧ Bit01 bs ∧ bs.length ≤ 6000 ∧ ∀ y G' H', Same G G' → Wd G' W H' → BitsAt K C G' y (bs.take n) → Q (.ref y) H'
theorem ok_Bits_first (T : Txt K mg A) : FnOk P w K mg base CX0 5 A.f_Bits_first A.fd_Bits_first sP_Bits_first (sp_bfirst K A.C_Bits) := by
  refine okD T.F_Bits_first sc_Bits_first (fun vs H Q E h => ?_) (fun cdv Ar outer s H vs Q E hr h => ⟨_, (pss_one (ps_ret (pe_make T.M_Bits (ok_Bits___init__ T) (hr.mono (by decide)) rfl T.gC_Bits T.b_Bits___init__ .nil pass0 (pa_cons (pe_slice sl_tupA (pe_fld (pv 0) rfl) po_none (po_some (pv 1))) pa_nil)))), ?_⟩)
  · obtain ⟨G, W, x, bs, n, _, rfl, _⟩ := h
    rfl
  · obtain ⟨G, W, x, bs, n, w, rfl, ⟨dx, t, hx, ht⟩, h01, hl, k⟩ := h
    walk_at "zq"
    refine ⟨x, A.C_Bits, dx, _, _, rfl, w.at hx, T.cl_Bits, T.nf_Bits_row, rfl, ?_⟩
    walk_at "zq"
    refine ⟨_, rfl, ?_⟩
    refine st_slTG ht w fun q G1 H1 e1 w1 hq => ?_
    have hc : cutV (bs.map V.int) none (some (n : Int)) = (bs.take n).map V.int := by
      unfold cutV
      simp only [HT.sIx, if_neg (show ¬ (n : Int) < 0 by omega), List.length_map]
      rw [List.drop_zero, Nat.sub_zero, Int.toNat_natCast, ← List.map_take]
      congr 1
      rcases Nat.le_total n bs.length with h | h
      · rw [Nat.min_eq_left h]
      · rw [Nat.min_eq_right h, List.take_of_length_le (Nat.le_refl _), List.take_of_length_le h]
    rw [hc] at hq
    walk_at "zq"
    refine mk_bits w1 (.inr hq) (fun m hm => h01 m (List.mem_of_mem_take hm)) (by rw [List.length_take]; omega) fun y G2 H2 e2 w2 h2 => k y G2 H2 (e1.trans e2) w2 h2
def sp_bget (K : PySem.W.Frag) (C : Addr) : Sp := fun vs H Q _ => ∃ (x : Addr) (bs : List Int) (i : Nat) (b : Int), vs = [.ref x, .int (i : Int)] ∧ BitsAt K C H x bs ∧ bs[i]? = some b ∧ Q (.int b) H
theorem ok_Bits___getitem__ (T : Txt K mg A) : FnOk P w K mg base CX0 3 A.f_Bits___getitem__ A.fd_Bits___getitem__ sP_Bits___getitem__ (sp_bget K A.C_Bits) := by
  refine okD T.F_Bits___getitem__ sc_Bits___getitem__ (fun vs H Q E h => ?_) (fun cdv Ar outer s H vs Q E hr h => ⟨_, (pss_cons (ps_if (PW.pt (pw_or (pt_not (pt_val (pe_call (ok_is_integer T) (hr.mono (by decide)) rfl T.m_is_integer T.F_is_integer.kp T.b_is_integer .nil pass0 (pa_cons (pv 1) pa_nil)))) (pw_or1 (pt_not (pt_chain op_le op_lt (pe_int) (pv 1) (pe_callB call_len_seq (by rfl) T.z_len PySem.boot_len (pa_cons (pe_fld (pv 0) rfl) pa_nil))))))) (pss_one (ps_never)) pss_nil)
      (pss_one (ps_ret (pe_ix ix_tup (pe_fld (pv 0) rfl) (pv 1) (fun _ _ => rfl))))), ?_⟩)
  · obtain ⟨x, bs, i, b, rfl, _⟩ := h
    rfl
  · obtain ⟨x, bs, i, b, rfl, ⟨dx, t, hx, ht⟩, hb, k⟩ := h
    have hi := (List.getElem?_eq_some_iff.mp hb).1
    walk_at "zq"
    refine ⟨_, rfl, .int _, ?_⟩
    rw [show isInt (.int (i : Int)) = true from rfl]
    walk_at "zq"
    rw [decide_eq_true (show (0 : Int) ≤ (i : Int) by omega)]
    walk_at "zq"
    refine ⟨x, A.C_Bits, dx, _, _, rfl, hx, T.cl_Bits, T.nf_Bits_row, rfl, ?_⟩
    walk_at "zq"
    refine ⟨t, _, rfl, .inr ht, ?_⟩
    walk_at "zq"
    rw [List.length_map, decide_eq_true (show (i : Int) < (bs.length : Int) by omega)]
    walk_at "zq"
    refine ⟨x, A.C_Bits, dx, _, _, rfl, hx, T.cl_Bits, T.nf_Bits_row, rfl, ?_⟩
    walk_at "zq"
    exact st_ixT ht (atI_nat (by rw [List.getElem?_map, hb]; rfl)) k
theorem for_r3 {G H : Hp} {W : Wl} {σ : L2.St} {g : TG} {tb : TS} {nx : L2.St → Hp → Prop} {rt : VK} {lo z c : Int} {n : Nat} (hn : RgC lo z c n) (I : Nat → L2.St → Hp → Wl → Prop) (w : Wd G W H) (h0 : I 0 σ G W)
    (hs : ∀ (i : Nat) σ' G' W' H', i < n → Same G G' → Wd G' W' H' → I i σ' G' W' → g (.int (lo + (i : Int) * c)) σ' H' fun σ2 H2 => tb ⟨Btw I G (i + 1), rt, nx, Btw I G (i + 1)⟩ σ2 H2)
    (hd : ∀ σ' G' W' H', Same G G' → Wd G' W' H' → I n σ' G' W' → nx σ' H') :
    ∃ (i' j' c' : Int) (n' : Nat), [V.int lo, V.int z, V.int c] = [.int i', .int j', .int c'] ∧ RgC i' j' c' n' ∧ LoopQ (Itc i' c' n') g tb nx rt σ H :=
  ⟨lo, z, c, n, rfl, hn, loop_go walk_rangeC I w (fun _ _ _ _ _ => trivial) h0 (fun i x σ' G' W' H' H'' hi e w' h y => by
    obtain ⟨rfl, rfl⟩ := y
    exact hs i σ' G' W' H'' hi e w' h) hd⟩

/-! ### data -/
def dataN (bs : List Int) (i : Nat) : List Int := (List.range i).map fun j : Nat => fld (part bs (8 * (j : Int)) 8)
theorem dataN_succ (bs : List Int) (i : Nat) : dataN bs (i + 1) = dataN bs i ++ [fld (part bs (8 * (i : Int)) 8)] := by
  unfold dataN
  rw [List.range_succ, List.map_append]
  rfl
theorem sizeB {n : Nat} (h : n ≤ 6000) : RgC 0 (n : Int) 8 ((n + 7) / 8) := by
  refine ⟨by decide, by decide, ?_, ?_⟩
  · have hf : ∀ i : Int, 0 ≤ i → i ≤ 10000 → Builtin.Range.rangeFitsLong i = true := fun i h0 h1 => by
      unfold Builtin.Range.rangeFitsLong
      rw [decide_eq_true (show -(2 ^ 63) ≤ i by omega), decide_eq_true (show i < 2 ^ 63 by omega)]
      rfl
    unfold Builtin.Range.small; rw [PyProof.Rows.rangeSize_pos (by decide) (by omega)]
    have h8 : Builtin.Range.rangeFitsLong (n : Int) = true := hf _ (by omega) (by omega)
    rw [hf 0 (by decide) (by decide), h8, hf 8 (by decide) (by decide), hf (((n : Int) + 8 - 1) / 8) (by omega) (by omega), if_pos (by decide), hf ((n : Int) + (8 - 1)) (by omega) (by omega), Bool.or_true]
    rfl
  · rw [PyProof.Rows.rangeSize_pos (by decide) (by omega)]
    omega
theorem part_at {bs : List Int} {s : Nat} {c : Nat} : part bs (s : Int) (c : Int) = (bs.drop s).take c := by
  unfold part
  rw [Int.toNat_natCast, Int.toNat_natCast]
theorem fld_bits {cs : List Int} (h : Bit01 cs) : ∀ i : Nat, 0 ≤ fldN cs i ∧ fldN cs i < 2 ^ i ∧ ∀ j, j < i → fldN cs i / 2 ^ j % 2 = cs.getD j 0
  | 0 => ⟨Int.le_refl _, (show (0 : Int) < 1 by decide), fun j h => absurd h (Nat.not_lt_zero _)⟩
  | i + 1 => by
    obtain ⟨h1, h2, h3⟩ := fld_bits h i
    have hb : 0 ≤ cs.getD i 0 ∧ cs.getD i 0 ≤ 1 := by
      rw [List.getD_eq_getElem?_getD]
      cases e : cs[i]? with
      | none => exact ⟨Int.le_refl _, by decide⟩
      | some b => exact h b (List.mem_of_getElem? e)
    have hp : (0 : Int) < 2 ^ i := Int.pow_pos (by decide)
    rw [fldN_succ, Int.pow_succ]
    generalize hbe : cs.getD i 0 = b at hb ⊢
    have hbp : 0 ≤ b * 2 ^ i ∧ b * 2 ^ i ≤ 2 ^ i := by
      rcases (show b = 0 ∨ b = 1 by omega) with rfl | rfl
      · rw [Int.zero_mul]; omega
      · rw [Int.one_mul]; omega
    refine ⟨by omega, by omega, fun j hj => ?_⟩
    by_cases e : j = i
    · rw [e, hbe, Int.add_mul_ediv_right _ _ (by omega), Int.ediv_eq_zero_of_lt h1 h2]
      omega
    · have hj : j < i := by omega
      rw [← h3 j hj]
      have hs : (2 : Int) ^ i = 2 ^ (i - j - 1) * 2 * 2 ^ j := by
        rw [← Int.pow_succ, ← Int.pow_add]
        congr 1
        omega
      rw [hs, ← Int.mul_assoc, Int.add_mul_ediv_right _ _ (by have : (0 : Int) < 2 ^ j := Int.pow_pos (by decide); omega), ← Int.mul_assoc, Int.add_mul_emod_self_right]
def sp_bdata (K : PySem.W.Frag) (C : Addr) : Sp := fun vs H Q _ => ∃ (G : Hp) (W : Wl) (x : Addr) (bs : List Int), Wd G W H ∧ vs = [.ref x] ∧ BitsAt K C G x bs ∧ Bit01 bs ∧ bs.length ≤ 6000 ∧ ∀ p G' H', Same G G' → Wd G' W H' → HL G' p (dataN bs ((bs.length + 7) / 8)) → Q (.ref p) H'
theorem ok_Bits_data (T : Txt K mg A) : FnOk P w K mg base CX0 5 A.f_Bits_data A.fd_Bits_data sP_Bits_data (sp_bdata K A.C_Bits) := by
  refine okD T.F_Bits_data sc_Bits_data (fun vs H Q E h => ?_) (fun cdv Ar outer s H vs Q E hr h => ⟨_, (pss_cons (ps_set (i := 1) sc_Bits_data.nd rfl (Or.inl rfl) (pe_lst pa_nil))
      (pss_cons (ps_for PassesOwn.never rfl (pi_range3 (by rfl) T.z_range (pa_cons (pe_int) (pa_cons (pe_callB call_len_seq (by rfl) T.z_len PySem.boot_len (pa_cons (pe_fld (pv 0) rfl) pa_nil)) (pa_cons (ClX.pe_cval (pe_glob (v := .ref A.C_Bits) rfl T.gC_Bits rfl)) pa_nil)))) (pg_name (i := 2) sc_Bits_data.nd rfl (Or.inl rfl)) (pss_one (ps_expr (pe_bm PySem.F.plainAttrs_list PySem.F.slot_list_append PySem.F.type_list_append mt_append (pv 1) (pa_cons (pe_callB (cr_sum rfl) (by rfl) T.z_sum (by decide +kernel) (pa_cons (pe_lc (own := [("place", 3), ("bit", 4)]) (g := gTup K 2 (gCons (gName 3) (gCons (gName 4) (gNil)))) (tt := tYes) rfl sc_Bits_data.nd (pi_enumA (by rfl) T.z_enumerate (pa_cons (pe_slice sl_tupA (pe_fld (pv 0) rfl) (po_some (pv 2)) (po_some (pe_op op_add (pv 2) (ClX.pe_cval (pe_glob (v := .ref A.C_Bits) rfl T.gC_Bits rfl))))) pa_nil)) (blkOk_by (own := [("place", 3), ("bit", 4)]) (N := sN_Bits_data) (sc := defScope s_Bits_data) (by decide +kernel)) (fun _ _ _ _ _ => pg_tup rfl (pgs_cons (pg_name (i := 3) sc_Bits_data.nd rfl (Or.inl rfl)) (pgs_cons (pg_name (i := 4) sc_Bits_data.nd rfl (Or.inl rfl)) pgs_nil))) (fun _ _ _ _ _ => pts_nil) (fun _ _ _ _ _ => (pe_op op_shl (pv 4) (pv 3)))) pa_nil)) pa_nil)))))
      (pss_one (ps_ret (pv 1))))), ?_⟩)
  · obtain ⟨G, W, x, bs, _, rfl, _⟩ := h
    rfl
  · obtain ⟨G, W, x, bs, w, rfl, ⟨dx, t, hx, ht⟩, h01, hl, k⟩ := h
    walk_at "zq"
    refine ⟨small (by simp), NewO.own w fun f H1 w1 => ?_⟩
    walk_at "zq"
    refine ⟨x, A.C_Bits, dx, _, _, rfl, w1.at hx, T.cl_Bits, T.nf_Bits_row, rfl, ?_⟩
    walk_at "zq"
    refine ⟨t, _, rfl, .inr (tup_up w1 ht), ?_⟩
    walk_at "zq"
    rw [List.length_map]
    refine ⟨A.C_Bits, _, .int 8, _, rfl, T.cr_Bits, T.cv_Bits_BYTE, ?_⟩
    walk_at "zq"
    refine for_r3 (sizeB hl) (fun i σ G' W' => W' = (f, Is (.lst ((dataN bs i).map V.int))) :: W ∧ ∃ x2, σ = [some (.ref x), some (.ref f), x2, none, none]) w1 ⟨rfl, _, rfl⟩ ?_ ?_
    · rintro i σ' G2 W2 H2 hi e2 w2 ⟨rfl, x2, rfl⟩
      have hi8 : (0 : Int) + (i : Int) * 8 = ((8 * i : Nat) : Int) := by omega
      rw [hi8]
      walk_at "zq"
      refine ⟨tyL' (Wd.is1 w2), ?_⟩
      walk_at "zq"
      refine ⟨x, A.C_Bits, dx, _, _, rfl, w2.at (e2 _ _ hx), T.cl_Bits, T.nf_Bits_row, rfl, ?_⟩
      walk_at "zq"
      refine ⟨_, rfl, ?_⟩
      walk_at "zq"
      refine ⟨A.C_Bits, _, .int 8, _, rfl, T.cr_Bits, T.cv_Bits_BYTE, ?_⟩
      walk_at "zq"
      refine ⟨_, rfl, ?_⟩
      refine st_slTG (seqT e2 ht) w2 fun q G3 H3 e3 w3 hq => ?_
      rw [cut_part (by omega) (by decide)] at hq
      walk_at "zq"
      obtain ⟨cs, hcs⟩ : ∃ cs, cs = part bs ((8 * i : Nat) : Int) 8 := ⟨_, rfl⟩
      have hcl : cs.length ≤ 8 := by
        rw [hcs]
        unfold part
        rw [List.length_take]
        show min 8 _ ≤ 8
        omega
      have hc01 : Bit01 cs := fun m hm => h01 m (part_mem (by rw [hcs] at hm; exact hm))
      rw [← hcs] at hq
      refine lc_enumA (.inr hq) (fun i acc _ => acc = ((List.range i).map fun j => cs.getD j 0 * 2 ^ j).map V.int) w3 rfl (fun _ _ => rfl) ?_ ?_
      · rintro j y D G4 G5 H5 acc hy e4 rfl e5 w5
        obtain ⟨n, hn0, rfl, hn⟩ := getI hy
        have hn1 := hc01 n hn
        have hj : j < cs.length := (List.getElem?_eq_some_iff.mp hn0).1
        walk_at "zq"
        refine ⟨_, _, rfl, rfl, ⟨by omega, by omega, by omega⟩, ?_⟩
        refine lc_put w5 (by walk_at "sm") (by simp; omega) ?_
        rw [List.range_succ, List.map_append, List.map_append]
        congr 1
        show [V.int (n * 2 ^ j)] = [V.int (cs.getD j 0 * 2 ^ j)]
        rw [List.getD_eq_getElem?_getD, hn0]
        rfl
      · rintro D G4 H4 acc e4 w4 rfl
        walk_at "zq"
        refine ⟨D, _, rfl, SqL.of (Wd.is1 w4), ?_⟩
        rw [List.length_map]
        have w5 := Wd.drop1 w4
        walk_at "zq"
        refine st_appL (Wd.is1 w5) (by rw [List.length_map]; unfold dataN; rw [List.length_map, List.length_range]; omega) ?_
        refine st_btw (e2.trans (e3.trans e4)) w5.put1 ⟨?_, _, rfl⟩
        have hv : (List.map (fun j => cs.getD j 0 * 2 ^ j) (List.range cs.length)).sum = fld (part bs (8 * (i : Int)) 8) := by
          rw [show (8 * (i : Int)) = ((8 * i : Nat) : Int) by omega, ← hcs]
          rfl
        rw [hv, dataN_succ, List.map_append]
        rfl
    · rintro σ' G2 W2 H2 e2 w2 ⟨rfl, x2, rfl⟩
      obtain ⟨o, rfl, ho, e3, w3⟩ := w2.freeze1
      walk_at "zq"
      exact k f _ H2 (e2.trans e3) w3 upd_same
theorem bits8_at {n : Int} {j : Nat} (h : j < 8) : (bits8 n)[j]? = some (n / 2 ^ j % 2) := by
  unfold bits8
  rw [List.getElem?_map, List.getElem?_range h]
  rfl
theorem bitsOf_at : ∀ {ns : List Int} {i j : Nat} {n : Int}, ns[i]? = some n → j < 8 → (bitsOf ns)[8 * i + j]? = some (n / 2 ^ j % 2)
  | [], _, _, _, h, _ => nomatch h
  | m :: ns, 0, j, n, h, hj => by
    injection h with h
    subst h
    show (bits8 m ++ bitsOf ns)[8 * 0 + j]? = _
    rw [Nat.mul_zero, Nat.zero_add, List.getElem?_append_left (by show j < 8; exact hj)]
    exact bits8_at hj
  | m :: ns, i + 1, j, n, h, hj => by
    show (bits8 m ++ bitsOf ns)[8 * (i + 1) + j]? = _
    have hl : (bits8 m).length = 8 := rfl
    rw [List.getElem?_append_right (by rw [hl]; omega), hl, show 8 * (i + 1) + j - 8 = 8 * i + j by omega]
    exact bitsOf_at (ns := ns) h hj
theorem data_len (bs : List Int) (i : Nat) : (dataN bs i).length = i := by
  unfold dataN
  rw [List.length_map, List.length_range]
theorem data_back {bs : List Int} (h : Bit01 bs) : (bitsOf (dataN bs ((bs.length + 7) / 8))).take bs.length = bs := by
  refine List.ext_getElem? fun m => ?_
  by_cases hm : m < bs.length
  · rw [List.getElem?_take, if_pos hm]
    have hi : m / 8 < (bs.length + 7) / 8 := by omega
    have hn : (dataN bs ((bs.length + 7) / 8))[m / 8]? = some (fld (part bs (8 * ((m / 8 : Nat) : Int)) 8)) := by
      unfold dataN
      rw [List.getElem?_map, List.getElem?_range hi]
      rfl
    have h1 := bitsOf_at hn (show m % 8 < 8 by omega)
    rw [show 8 * (m / 8) + m % 8 = m by omega] at h1
    rw [h1]
    have hp : part bs (8 * ((m / 8 : Nat) : Int)) 8 = (bs.drop (8 * (m / 8))).take 8 := by
      rw [show (8 * ((m / 8 : Nat) : Int)) = ((8 * (m / 8) : Nat) : Int) by omega]
      exact part_at (c := 8)
    rw [hp]
    have hc : Bit01 ((bs.drop (8 * (m / 8))).take 8) := fun b hb => h b (List.mem_of_mem_drop (List.mem_of_mem_take hb))
    have hlen : m % 8 < ((bs.drop (8 * (m / 8))).take 8).length := by
      rw [List.length_take, List.length_drop]
      omega
    have h2 := (fld_bits hc _).2.2 (m % 8) hlen
    show some (fldN _ _ / _ % 2) = _
    rw [h2, List.getD_eq_getElem?_getD, List.getElem?_take, if_pos (by omega), List.getElem?_drop, show 8 * (m / 8) + m % 8 = m by omega, List.getElem?_eq_getElem hm]
    rfl
  · rw [List.getElem?_take, if_neg hm, List.getElem?_eq_none (by omega)]
theorem data_byt {bs : List Int} (h : Bit01 bs) (i : Nat) : Byt (dataN bs i) := fun n hn => by
  unfold dataN at hn
  obtain ⟨j, _, rfl⟩ := List.mem_map.mp hn
  have hc : Bit01 (part bs (8 * (j : Int)) 8) := fun b hb => h b (part_mem hb)
  obtain ⟨h1, h2, _⟩ := fld_bits hc (part bs (8 * (j : Int)) 8).length
  have hl : (part bs (8 * (j : Int)) 8).length ≤ 8 := by
    unfold part
    rw [List.length_take]
    show min 8 _ ≤ 8
    omega
  have h3 : (2 : Int) ^ (part bs (8 * (j : Int)) 8).length ≤ 256 := by
    have h4 : 2 ^ (part bs (8 * (j : Int)) 8).length ≤ 2 ^ 8 := Nat.pow_le_pow_right (by decide) hl
    have h5 : ((2 ^ (part bs (8 * (j : Int)) 8).length : Nat) : Int) = 2 ^ (part bs (8 * (j : Int)) 8).length := by simp
    have h6 : (2 : Nat) ^ 8 = 256 := rfl
    omega
  unfold fld
  omega

/-! ### the law -/
theorem add_use {C : Addr} {G H : Hp} {W : Wl} {Q : VK} {x y : Addr} {bs cs : List Int} (w : Wd G W H) (hx : BitsAt K C G x bs) (hy : BitsAt K C G y cs) (h1 : Bit01 bs) (h2 : Bit01 cs) (hl : bs.length + cs.length ≤ 6000)
    (k : ∀ p G' H', Same G G' → Wd G' W H' → BitsAt K C G' p (bs ++ cs) → Q (.ref p) H') : rAddO C (sp_badd K C) (.ref x) (.ref y) H Q := by
  obtain ⟨dx, t, hx1, hx2⟩ := id hx
  obtain ⟨dy, u, hy1, hy2⟩ := id hy
  exact ⟨x, y, dx, _, dy, _, rfl, rfl, w.at hx1, w.at hy1, G, W, x, y, bs, cs, w, rfl, hx, hy, h1, h2, hl, fun p G' H' e w' h => ⟨p, rfl, k p G' H' e w' h⟩⟩
theorem eq_use {C : Addr} {G H : Hp} {W : Wl} {Q : VK} {x y : Addr} {bs cs : List Int} {neg : Bool} (w : Wd G W H) (hx : BitsAt K C G x bs) (hy : BitsAt K C G y cs) (k : Q (.bl (if neg then !decide (bs = cs) else decide (bs = cs))) H) : rEqO C (sp_beq K C) neg (.ref x) (.ref y) H Q := by
  obtain ⟨dx, t, hx1, hx2⟩ := id hx
  obtain ⟨dy, u, hy1, hy2⟩ := id hy
  exact ⟨x, y, dx, _, dy, _, rfl, rfl, w.at hx1, w.at hy1, x, bs, y, cs, rfl, hx.at w, hy.at w, _, rfl, k⟩
theorem get_use {C : Addr} {G H : Hp} {W : Wl} {Q : VK} {x : Addr} {bs : List Int} {i : Nat} {j b : Int} (w : Wd G W H) (hx : BitsAt K C G x bs) (hj : j = (i : Int)) (hb : bs[i]? = some b) (k : Q (.int b) H) : rIxO C (sp_bget K C) (.ref x) (.int j) H Q := by
  obtain ⟨dx, t, hx1, hx2⟩ := id hx
  subst hj
  exact ⟨x, dx, _, rfl, w.at hx1, x, bs, i, b, rfl, hx.at w, hb, k⟩
theorem Bit01.app {as bs : List Int} (h : Bit01 as) (h2 : Bit01 bs) : Bit01 (as ++ bs) := fun n hn => (List.mem_append.mp hn).elim (h n) (h2 n)
theorem Bit01.take {as : List Int} (h : Bit01 as) (n : Nat) : Bit01 (as.take n) := fun m hm => h m (List.mem_of_mem_take hm)
def wor : List Int := [1, 2, 4, 8, 16, 32, 64, 128]
theorem wor_bits (n : Int) : wor.map (fun w => n / w % 2) = bits8 n := rfl
theorem cut_to {ns : List Int} (n : Nat) : cutV (ns.map V.int) none (some (n : Int)) = (ns.take n).map V.int := by
  unfold cutV
  simp only [HT.sIx, if_neg (show ¬ (n : Int) < 0 by omega), List.length_map]
  rw [List.drop_zero, Nat.sub_zero, Int.toNat_natCast, ← List.map_take]
  congr 1
  rcases Nat.le_total n ns.length with h | h
  · rw [Nat.min_eq_left h]
  · rw [Nat.min_eq_right h, List.take_of_length_le (Nat.le_refl _), List.take_of_length_le h]
def sp_next (K : PySem.W.Frag) (C : Addr) : Sp := fun vs H Q _ => ∃ (G : Hp) (W : Wl) (b x r : Addr) (bs : List Int), Wd G W H ∧ (b, BagI) ∈ W ∧ vs = [.ref b, .ref x, .ref r] ∧ BitsAt K C G x bs ∧ HL G r bs ∧ Bit01 bs ∧ bs.length ≤ 1000 ∧
  ∀ t y q cs G' H', Same G G' → Wd G' W H' → G' t = some (.tup [.ref y, .ref q]) → BitsAt K C G' y cs → HL G' q cs → Bit01 cs → cs.length ≤ bs.length + 8 → Q (.ref t) H'
theorem ok__law_next (T : Txt K mg A) : FnOk P w K mg base CX0 6 A.f__law_next A.fd__law_next sP__law_next (sp_next K A.C_Bits) := by
  refine okD T.F__law_next sc__law_next (fun vs H Q E h => ?_) (fun cdv Ar outer s H vs Q E hr h => ⟨_, (pss_cons (ps_set (i := 3) sc__law_next.nd rfl (Or.inl rfl) (pe_call (ok__law_take T) (hr.mono (by decide)) rfl T.m__law_take T.F__law_take.kp T.b__law_take .nil pass0 (pa_cons (pv 0) (pa_cons (pe_int) pa_nil))))
      (pss_cons (ps_setLc (i := 4) (own := [("_law_turn", 5)]) (g := gName 5) (tt := tYes) rfl sc__law_next.nd rfl rfl (sw_true rfl rfl rfl (by decide +kernel)) (pi_range1 (by rfl) T.z_range (pa_cons (pe_call (ok__law_take T) (hr.mono (by decide)) rfl T.m__law_take T.F__law_take.kp T.b__law_take .nil pass0 (pa_cons (pv 0) (pa_cons (pe_int) pa_nil))) pa_nil)) (blkOk_by (own := [("_law_turn", 5)]) (N := sN__law_next) (sc := defScope s__law_next) (by decide +kernel)) (fun _ _ _ _ _ => pg_name (i := 5) sc__law_next.nd rfl (Or.inl rfl)) (fun _ _ _ _ _ => pts_nil) (fun _ _ _ _ _ => (pe_call (ok__law_take T) (hr.mono (by decide)) rfl T.m__law_take T.F__law_take.kp T.b__law_take .nil pass0 (pa_cons (pv 0) (pa_cons (pe_int) pa_nil)))))
      (pss_cons (ps_if (pt_cmpR op_eq (pv 3) (pe_int) (nomark _)) (pss_one (ps_ret (pe_tup (pa_cons (pe_op (op_addO T.eqC_Bits.sf T.mt_Bits___add__ (ok_Bits___add__ T) (hr.mono (by decide)) T.b_Bits___add__) (pv 1) (pe_make T.M_Bits (ok_Bits___init__ T) (hr.mono (by decide)) rfl T.gC_Bits T.b_Bits___init__ .nil pass0 (pa_cons (pv 4) pa_nil))) (pa_cons (pe_op op_cat (pv 2) (pv 4)) pa_nil))))) pss_nil)
      (pss_cons (ps_if (pt_cmpR op_eq (pv 3) (pe_int) (nomark _)) (pss_one (ps_ret (pe_tup (pa_cons (pe_op (op_addO T.eqC_Bits.sf T.mt_Bits___add__ (ok_Bits___add__ T) (hr.mono (by decide)) T.b_Bits___add__) (pe_make T.M_Bits (ok_Bits___init__ T) (hr.mono (by decide)) rfl T.gC_Bits T.b_Bits___init__ .nil pass0 (pa_cons (pv 4) pa_nil)) (pv 1)) (pa_cons (pe_op op_cat (pv 4) (pv 2)) pa_nil))))) pss_nil)
      (pss_cons (ps_if (pt_cmpR op_eq (pv 3) (pe_int) (nomark _)) (pss_cons (ps_set (i := 6) sc__law_next.nd rfl (Or.inr rfl) (pe_call (ok__law_take T) (hr.mono (by decide)) rfl T.m__law_take T.F__law_take.kp T.b__law_take .nil pass0 (pa_cons (pv 0) (pa_cons (pe_int) pa_nil))))
      (pss_cons (ps_setLc (i := 7) (own := [("_law_worth", 8)]) (g := gName 8) (tt := tYes) rfl sc__law_next.nd rfl rfl (sw_true rfl rfl rfl (by decide +kernel)) (pi_list (pe_lst (pa_cons (pe_int) (pa_cons (pe_int) (pa_cons (pe_int) (pa_cons (pe_int) (pa_cons (pe_int) (pa_cons (pe_int) (pa_cons (pe_int) (pa_cons (pe_int) pa_nil)))))))))) (blkOk_by (own := [("_law_worth", 8)]) (N := sN__law_next) (sc := defScope s__law_next) (by decide +kernel)) (fun _ _ _ _ _ => pg_name (i := 8) sc__law_next.nd rfl (Or.inl rfl)) (fun _ _ _ _ _ => pts_nil) (fun _ _ _ _ _ => (pe_op op_mod (pe_op op_fdiv (pv 6) (pv 8)) (pe_int))))
      (pss_one (ps_ret (pe_tup (pa_cons (pe_op (op_addO T.eqC_Bits.sf T.mt_Bits___add__ (ok_Bits___add__ T) (hr.mono (by decide)) T.b_Bits___add__) (pv 1) (ClX.pe_cmeth (pe_glob (v := .ref A.C_Bits) rfl T.gC_Bits rfl) T.cr_Bits T.cm_Bits_of_data ((ok_Bits_of_data T).raw T.b_Bits_of_data .nil) (hr.mono (by decide)) pass0 (pa_cons (pe_lst (pa_cons (pv 6) pa_nil)) pa_nil))) (pa_cons (pe_op op_cat (pv 2) (pv 7)) pa_nil))))))) pss_nil)
      (pss_cons (ps_if (pt_cmpR op_eq (pv 3) (pe_int) (nomark _)) (pss_cons (ps_set (i := 9) sc__law_next.nd rfl (Or.inl rfl) (pe_call (ok__law_take T) (hr.mono (by decide)) rfl T.m__law_take T.F__law_take.kp T.b__law_take .nil pass0 (pa_cons (pv 0) (pa_cons (pe_op op_add (pe_callB call_len_seq (by rfl) T.z_len PySem.boot_len (pa_cons (pv 2) pa_nil)) (pe_int)) pa_nil))))
      (pss_one (ps_ret (pe_tup (pa_cons (pe_meth (pv 1) T.cl_Bits T.mt_Bits_first (ok_Bits_first T) (hr.mono (by decide)) T.b_Bits_first .nil pass0 (pa_cons (pv 9) pa_nil)) (pa_cons (pe_slice sl_list (pv 2) po_none (po_some (pv 9))) pa_nil)))))) pss_nil)
      (pss_one (ps_ret (pe_tup (pa_cons (pe_op (op_addO T.eqC_Bits.sf T.mt_Bits___add__ (ok_Bits___add__ T) (hr.mono (by decide)) T.b_Bits___add__) (pv 1) (pe_meth (pv 1) T.cl_Bits T.mt_Bits_first (ok_Bits_first T) (hr.mono (by decide)) T.b_Bits_first .nil pass0 (pa_cons (pe_int) pa_nil))) (pa_cons (pe_op op_cat (pv 2) (pe_slice sl_list (pv 2) po_none (po_some (pe_int)))) pa_nil))))))))))), ?_⟩)
  · obtain ⟨G, W, b, x, r, bs, _, _, rfl, _⟩ := h
    rfl
  · obtain ⟨G, W, b, x, r, bs, w, hm, rfl, hx, hr', h01, hl, k⟩ := h
    walk_at "zq"
    refine ⟨G, W, b, _, w, hm, rfl, by decide, by decide, fun way H1 hw0 hw1 w1 => ?_⟩
    walk_at "zq"
    refine ⟨G, W, b, _, w1, hm, rfl, by decide, by decide, fun n H2 hn0 hn1 w2 => ?_⟩
    walk_at "zq"
    refine lc_r1 (by omega) (fun i acc _ => ∃ cs : List Int, acc = cs.map V.int ∧ Bit01 cs ∧ cs.length = i) w2 ⟨[], rfl, (fun _ h => nomatch h), rfl⟩ (fun _ => rfl) ?_ ?_
    · rintro i D G3 H3 acc hi e3 w3 ⟨cs, rfl, hc, hcl⟩
      walk_at "zq"
      refine ⟨G3, _, b, _, w3, List.mem_cons_of_mem _ hm, rfl, by decide, by decide, fun v H4 hv0 hv1 w4 => ?_⟩
      refine lc_put w4 e3 (by rw [List.length_map]; omega) ⟨cs ++ [v], by simp, hc.app fun z hz => by rw [List.mem_singleton.mp hz]; omega, by simp [hcl]⟩
    rintro sm G3 H3 acc e3 w3 ⟨cs, rfl, hc, hcl⟩
    obtain ⟨o, rfl, ho, e4, w4⟩ := w3.freeze1
    have hs4 : HL (upd G3 sm (.lst (cs.map V.int))) sm cs := upd_same
    generalize upd G3 sm (HO.lst (cs.map V.int)) = G4 at e4 w4 hs4
    have e04 := e3.trans e4
    have hx4 := hx.up e04
    have hr4 := hr'.up e04
    have hcl6 : cs.length ≤ 6 := by omega
    clear w w1 w2 w3 ho
    walk_at "zq"
    refine ite2 (fun _ => ?_) (fun _ => ?_)
    · walk_at "zq"
      refine mk_bits w4 (.inl hs4.seq) hc (by omega) fun y G5 H5 e5 w5 hy => ?_
      refine add_use w5 (hx4.up e5) hy h01 hc (by omega) fun p G6 H6 e6 w6 hp => ?_
      walk_at "zq"
      have e56 := e5.trans e6
      refine st_catI (hUp w6 (hr4.up e56)) (hUp w6 (hs4.up e56)) (by omega) w6 fun q G7 H7 e7 w7 hq => ?_
      walk_at "zq"
      refine ⟨small (by simp), NewO.good w7 fun t G8 H8 e8 w8 h8 => ?_⟩
      exact k t p q _ G8 H8 (e04.trans (e56.trans (e7.trans e8))) w8 h8 (hp.up (e7.trans e8)) (hq.up e8) (h01.app hc) (by rw [List.length_append]; omega)
    walk_at "zq"
    refine ite2 (fun _ => ?_) (fun _ => ?_)
    · walk_at "zq"
      refine mk_bits w4 (.inl hs4.seq) hc (by omega) fun y G5 H5 e5 w5 hy => ?_
      walk_at "zq"
      refine add_use w5 hy (hx4.up e5) hc h01 (by omega) fun p G6 H6 e6 w6 hp => ?_
      walk_at "zq"
      have e56 := e5.trans e6
      refine st_catI (hUp w6 (hs4.up e56)) (hUp w6 (hr4.up e56)) (by omega) w6 fun q G7 H7 e7 w7 hq => ?_
      walk_at "zq"
      refine ⟨small (by simp), NewO.good w7 fun t G8 H8 e8 w8 h8 => ?_⟩
      exact k t p q _ G8 H8 (e04.trans (e56.trans (e7.trans e8))) w8 h8 (hp.up (e7.trans e8)) (hq.up e8) (hc.app h01) (by rw [List.length_append]; omega)
    walk_at "zq"
    refine ite2 (fun _ => ?_) (fun _ => ?_)
    · walk_at "zq"
      refine ⟨G4, W, b, _, w4, hm, rfl, by decide, by decide, fun v H5 hv0 hv1 w5 => ?_⟩
      walk_at "zq"
      refine ⟨small (by simp), NewO.good w5 fun wl G6 H6 e6 w6 h6 => ?_⟩
      have h6 : HL G6 wl wor := h6
      refine lc_l h6.seq (fun i acc _ => acc = ((wor.take i).map fun z => v / z % 2).map V.int) w6 rfl (fun _ => rfl) ?_ ?_
      · rintro i y D G7 H7 acc hy e7 w7 rfl
        obtain ⟨z, hz, rfl, hzm⟩ := getI hy
        have hzb : 1 ≤ z ∧ z ≤ 128 := (show ∀ z ∈ wor, 1 ≤ z ∧ z ≤ 128 by decide) z hzm
        walk_at "zq"
        refine lc_put w7 e7 (by simp; show _ < _; have : wor.length = 8 := rfl; omega) ?_
        rw [List.take_add_one, hz, List.map_append, List.map_append]
        rfl
      rintro ml G7 H7 acc e7 w7 rfl
      obtain ⟨o, rfl, ho, e8, w8⟩ := w7.freeze1
      rw [List.length_map, List.take_length, wor_bits] at w8 e8
      have hb8 : HL (upd G7 ml (.lst ((bits8 v).map V.int))) ml (bits8 v) := upd_same
      generalize upd G7 ml (HO.lst ((bits8 v).map V.int)) = G8 at e8 w8 hb8
      have e48 := e6.trans (e7.trans e8)
      walk_at "zq"
      refine ⟨rfl, ?_⟩
      walk_at "zq"
      refine ⟨small (by simp), NewO.good w8 fun bl G9 H9 e9 w9 h9 => ?_⟩
      have h9 : HL G9 bl [v] := h9
      walk_at "zq"
      refine ⟨G9, W, bl, [v], w9, rfl, h9.seq, fun m hm => by rw [List.mem_singleton.mp hm]; omega, by show 1 ≤ 1000; decide, fun y G10 H10 e10 w10 hy => ?_⟩
      have hbo : bitsOf [v] = bits8 v := by
        show bits8 v ++ [] = _
        rw [List.append_nil]
      rw [hbo] at hy
      have h8 : (bits8 v).length = 8 := rfl
      have h801 : Bit01 (bits8 v) := by
        have := bits_01 [v]
        rw [hbo] at this
        exact this
      have e410 := e48.trans (e9.trans e10)
      refine add_use w10 (hx4.up e410) hy h01 h801 (by omega) fun p G11 H11 e11 w11 hp => ?_
      walk_at "zq"
      refine st_catI (hUp w11 (hr4.up (e410.trans e11))) (hUp w11 (hb8.up (e9.trans (e10.trans e11)))) (by omega) w11 fun q G12 H12 e12 w12 hq => ?_
      walk_at "zq"
      refine ⟨small (by simp), NewO.good w12 fun t G13 H13 e13 w13 h13 => ?_⟩
      exact k t p q _ G13 H13 (e04.trans ((e410.trans e11).trans (e12.trans e13))) w13 h13 (hp.up (e12.trans e13)) (hq.up e13) (h01.app h801) (by rw [List.length_append]; omega)
    walk_at "zq"
    refine ite2 (fun _ => ?_) (fun _ => ?_)
    · walk_at "zq"
      refine ⟨r, _, rfl, .inl (seq_up w4 hr4.seq), ?_⟩
      walk_at "zq"
      rw [List.length_map]
      refine ⟨G4, W, b, _, w4, hm, rfl, by omega, by omega, fun n H5 hn0 hn1 w5 => ?_⟩
      obtain ⟨c, rfl⟩ : ∃ c : Nat, n = (c : Int) := ⟨n.toNat, by omega⟩
      obtain ⟨dx, t, hxI, hxT⟩ := id hx4
      walk_at "zq"
      refine ⟨x, dx, _, rfl, w5.at hxI, rfl, ?_⟩
      walk_at "zq"
      refine ⟨G4, W, x, bs, c, w5, rfl, hx4, h01, by omega, fun y G6 H6 e6 w6 hy => ?_⟩
      walk_at "zq"
      refine ⟨_, rfl, ?_⟩
      refine st_slL (seq_up w6 (hr4.up e6).seq) w6 fun q G7 H7 e7 w7 hq => ?_
      rw [cut_to] at hq
      walk_at "zq"
      refine ⟨small (by simp), NewO.good w7 fun t G8 H8 e8 w8 h8 => ?_⟩
      exact k t y q _ G8 H8 (e04.trans (e6.trans (e7.trans e8))) w8 h8 (hy.up (e7.trans e8)) (e8 _ _ hq) (h01.take c) (by rw [List.length_take]; omega)
    · walk_at "zq"
      obtain ⟨dx, t, hxI, hxT⟩ := id hx4
      refine ⟨x, dx, _, rfl, w4.at hxI, rfl, ?_⟩
      walk_at "zq"
      refine ⟨G4, W, x, bs, 5, w4, rfl, hx4, h01, by omega, fun y G6 H6 e6 w6 hy => ?_⟩
      refine add_use w6 (hx4.up e6) hy h01 (h01.take 5) (by rw [List.length_take]; omega) fun p G7 H7 e7 w7 hp => ?_
      walk_at "zq"
      refine ⟨_, rfl, ?_⟩
      refine st_slL (seq_up w7 (hr4.up (e6.trans e7)).seq) w7 fun q G8 H8 e8 w8 hq => ?_
      rw [show (5 : Int) = ((5 : Nat) : Int) from rfl, cut_to] at hq
      have hq : HL G8 q (bs.take 5) := hq
      have e48 := e6.trans (e7.trans e8)
      refine st_catI (hUp w8 (hr4.up e48)) (hUp w8 hq) (by rw [List.length_take]; omega) w8 fun q2 G9 H9 e9 w9 hq2 => ?_
      walk_at "zq"
      refine ⟨small (by simp), NewO.good w9 fun t G10 H10 e10 w10 h10 => ?_⟩
      exact k t p q2 _ G10 H10 (e04.trans (e48.trans (e9.trans e10))) w10 h10 (hp.up (e8.trans (e9.trans e10))) (hq2.up e10) (h01.app (h01.take 5)) (by rw [List.length_append, List.length_take]; omega)
theorem lc_lE {G H : Hp} {W : Wl} {a : Addr} {xs : List V} {Q : VK} {j : Nat} {te1 te : TE} {tt : L2.St → Hp → (Bool → Hp → Prop) → Prop} {vs : List Nat} {σ : L2.St} (ht : ∀ Q : VK, Q (.ref a) H → te1 σ H Q) (hx : SqL K G a xs) (I : Nat → List V → Hp → Prop) (w : Wd G W H) (h0 : I 0 [] G) (hw : ∀ x, wipe ((wipe σ vs).set j x) vs = wipe σ vs)
    (hs : ∀ (i : Nat) x D G' H' acc, xs[i]? = some x → Same G G' → Wd G' ((D, Is (.lst acc)) :: W) H' → I i acc G' → tt ((wipe σ vs).set j (some x)) H' fun b H3 =>
      if b = true then te ((wipe σ vs).set j (some x)) H3 fun y H4 => ∃ acc, H4 D = some (.lst acc) ∧ acc.length < sizeLine ∧ LcB I G W D (i + 1) (upd H4 D (.lst (acc ++ [y]))) else LcB I G W D (i + 1) H3)
    (hd : ∀ D G' H' acc, Same G G' → Wd G' ((D, Is (.lst acc)) :: W) H' → I xs.length acc G' → Q (.ref D) H') : L2.tLc (iList K te1) (gName j) tt te vs σ H Q :=
  ht _ (lc_l hx I w h0 hw hs hd)
theorem st_yesE {σ : L2.St} {H : Hp} {A : Hp → Prop} {B : Hp → Prop} (h : A H) : tYes σ H fun b H3 => if b = true then A H3 else B H3 := by
  show if true = true then A H else B H
  rw [if_pos rfl]
  exact h
theorem st_joinBits {G H : Hp} {W : Wl} {Q : VK} {σ : L2.St} {i j : Nat} {vs : List Nat} {a : Addr} {bs : List Int} (w : Wd G W H) (ha : SqL K G a (bs.map V.int)) (h01 : Bit01 bs) (hl : bs.length ≤ 6000) (hi : σ[i]? = some (some (.ref a))) (hw : ∀ x, wipe ((wipe σ vs).set j x) vs = wipe σ vs)
    (hj : ∀ x, ((wipe σ vs).set j (some x))[j]? = some (some x)) (k : ∀ G' H', Same G G' → Wd G' W H' → Q (.str (bt bs)) H') :
    tM1 (rJoin K) (tC (.str "")) (L2.tLc (iList K (tVar i)) (gName j) tYes (tCB (fun xs H Q => ∃ i, xs = [V.int i] ∧ i.natAbs.log2 < 1920 ∧ Q (V.str (Str.ofString (toString i))) H) (tCons (tVar j) tNil)) vs) σ H Q := by
  refine ⟨⟨_, rfl⟩, ?_⟩
  refine lc_lE (fun Q h => ⟨_, hi, h⟩) ha (fun i acc _ => acc = (bs.take i).map fun b => V.str (bt [b])) w rfl hw ?_ ?_
  · rintro i y D G2 H2 acc hy e2 w2 rfl
    obtain ⟨b, hb, rfl⟩ := at_map hy
    have hb01 := h01 b (List.mem_of_getElem? hb)
    refine st_yesE ?_
    refine ⟨_, hj _, b, rfl, Nat.lt_trans (log_lt (k := 64) (by omega) (by decide)) (by decide), ?_⟩
    rw [bit_text (by omega)]
    refine lc_put w2 e2 (by rw [List.length_map, List.length_take]; omega) ?_
    rw [List.take_add_one, hb, List.map_append]
    rfl
  · rintro D G2 H2 acc e2 w2 rfl
    obtain ⟨o, rfl, hD, e3, w3⟩ := w2.freeze1
    rw [List.length_map, List.take_length] at e3 w3 hD
    refine ⟨_, D, bs.map fun b => bt [b], rfl, rfl, .inl ?_, ?_, ?_⟩
    · rw [List.map_map]
      exact SqL.of hD
    · rw [bits_sum]
      show bs.length + _ * 0 ≤ _
      omega
    rw [bits_join]
    exact k _ _ (e2.trans e3) w3
theorem atI_m1 {ns : List Int} {n : Nat} {b : Int} (h : ns[n]? = some b) (hn : ns.length = n + 1) : atI (ns.map V.int) (-1) = some (.int b) := by
  have e : ixN (ns.map V.int).length (-1) = some n := by
    rw [List.length_map, hn]
    unfold ixN
    rw [if_neg (by omega), if_pos (by omega)]
    congr 1
    omega
  unfold atI
  rw [e, Option.bind_some, List.getElem?_map, h]
  rfl
def sp_right (K : PySem.W.Frag) (C : Addr) : Sp := fun vs H Q _ => ∃ (G : Hp) (W : Wl) (x r : Addr) (bs : List Int), Wd G W H ∧ vs = [.ref x, .ref r] ∧ BitsAt K C G x bs ∧ HL G r bs ∧ Bit01 bs ∧ bs.length ≤ 1000 ∧ ∀ G' H', Same G G' → Wd G' W H' → Q (.bl true) H'
theorem ok__law_right (T : Txt K mg A) : FnOk P w K mg base CX0 7 A.f__law_right A.fd__law_right sP__law_right (sp_right K A.C_Bits) := by
  refine okD T.F__law_right sc__law_right (fun vs H Q E h => ?_) (fun cdv Ar outer s H vs Q E hr h => ⟨_, (pss_cons (ps_if (PW.pt (pw_or (pt_cmpR op_ne (pe_callTy (call_strO T.mt_Bits___str__ (ok_Bits___str__ T) (hr.mono (by decide)) T.b_Bits___str__) (by rfl) T.z_str (by decide +kernel) (pa_cons (pv 0) pa_nil)) (pe_joinK (pe_str) (pe_lc (own := [("_law_bit", 2)]) (g := gName 2) (tt := tYes) rfl sc__law_right.nd (pi_list (pv 1)) (blkOk_by (own := [("_law_bit", 2)]) (N := sN__law_right) (sc := defScope s__law_right) (by decide +kernel)) (fun _ _ _ _ _ => pg_name (i := 2) sc__law_right.nd rfl (Or.inl rfl)) (fun _ _ _ _ _ => pts_nil) (fun _ _ _ _ _ => (pe_callTy call_str_int (by rfl) T.z_str (by decide +kernel) (pa_cons (pv 2) pa_nil))))) (nomark _)) (pw_or1 (pt_cmpR op_ne (pe_callB (call_lenO T.mt_Bits___len__ (ok_Bits___len__ T) (hr.mono (by decide)) T.b_Bits___len__) (by rfl) T.z_len PySem.boot_len (pa_cons (pv 0) pa_nil)) (pe_callB call_len_seq (by rfl) T.z_len PySem.boot_len (pa_cons (pv 1) pa_nil)) (nomark _))))) (pss_one (ps_ret (pe_bl))) pss_nil)
      (pss_cons (ps_if (PW.pt (pw_or (pt_cmpR (op_neD hr.units) ((show PE _ _ (tEach K A.C_Bits "each" "row" _) from pe_lcEach (own := [("_law_bit", 2)]) rfl hr (pv 0) T.cl_Bits T.nf_Bits_row T.mt_Bits_each T.F_Bits_each T.b_Bits_each (blkOk_by (own := [("_law_bit", 2)]) (N := sN__law_right) (sc := defScope s__law_right) (by decide +kernel)))) (pv 1) (nomark _)) (pw_or1 (pt_not (pt_cmpR (op_eqO T.mt_Bits___eq__ (ok_Bits___eq__ T) (hr.mono (by decide)) T.b_Bits___eq__) (pv 0) (pe_make T.M_Bits (ok_Bits___init__ T) (hr.mono (by decide)) rfl T.gC_Bits T.b_Bits___init__ .nil pass0 (pa_cons (pv 1) pa_nil)) (nomark _)))))) (pss_one (ps_ret (pe_bl))) pss_nil)
      (pss_cons (ps_if (PW.pt (pw_and (pt_cmpR (op_neD hr.units) (pv 1) (pe_lst pa_nil) (nomark _)) (pw_and1 (PW.pt (pw_or (pt_cmpR op_ne (pe_ixO T.mt_Bits___getitem__ T.mf_Bits___getitem__ (ok_Bits___getitem__ T) (hr.mono (by decide)) T.b_Bits___getitem__ (pv 0) (pe_int)) (pe_ix ix_list (pv 1) (pe_int) (fun _ _ => rfl)) (nomark _)) (pw_or1 (pt_cmpR op_ne (pe_ixO T.mt_Bits___getitem__ T.mf_Bits___getitem__ (ok_Bits___getitem__ T) (hr.mono (by decide)) T.b_Bits___getitem__ (pv 0) (pe_op op_sub (pe_callB call_len_seq (by rfl) T.z_len PySem.boot_len (pa_cons (pv 1) pa_nil)) (pe_int))) (pe_ix ix_list (pv 1) (pe_un un_neg (pe_int)) (fun _ _ => rfl)) (nomark _)))))))) (pss_one (ps_ret (pe_bl))) pss_nil)
      (pss_one (ps_ret (pe_cmpR (op_eqO T.mt_Bits___eq__ (ok_Bits___eq__ T) (hr.mono (by decide)) T.b_Bits___eq__) (pe_meth (ClX.pe_cmeth (pe_glob (v := .ref A.C_Bits) rfl T.gC_Bits rfl) T.cr_Bits T.cm_Bits_of_data ((ok_Bits_of_data T).raw T.b_Bits_of_data .nil) (hr.mono (by decide)) pass0 (pa_cons (pe_meth0 (pv 0) T.cl_Bits T.mt_Bits_data (ok_Bits_data T) (hr.mono (by decide)) T.b_Bits_data .nil pass0) pa_nil)) T.cl_Bits T.mt_Bits_first (ok_Bits_first T) (hr.mono (by decide)) T.b_Bits_first .nil pass0 (pa_cons (pe_callB call_len_seq (by rfl) T.z_len PySem.boot_len (pa_cons (pv 1) pa_nil)) pa_nil)) (pv 0) (nomark _))))))), ?_⟩)
  · obtain ⟨G, W, x, r, bs, _, rfl, _⟩ := h
    rfl
  · obtain ⟨G, W, x, r, bs, w, rfl, hx, hr', h01, hl, k⟩ := h
    obtain ⟨dx, tx, hxI, hxT⟩ := id hx
    walk_at "zq"
    refine ⟨x, dx, _, rfl, w.at hxI, G, W, x, bs, w, rfl, hx, h01, by omega, fun G1 H1 e1 w1 => ⟨_, rfl, ?_⟩⟩
    walk_at "zq"
    refine st_joinBits w1 (hr'.up e1).seq h01 (by omega) rfl (fun _ => rfl) (fun _ => rfl) fun G2 H2 e2 w2 => ?_
    refine st_ne rfl ?_
    rw [ne_self]
    have e02 := e1.trans e2
    have hx2 := hx.up e02
    walk_at "zq"
    refine ⟨x, dx, _, rfl, w2.at (e02 _ _ hxI), x, bs, rfl, hx2.at w2, _, rfl, by omega, ?_⟩
    walk_at "zq"
    refine ⟨r, _, rfl, .inl (seq_up w2 (hr'.up e02).seq), ?_⟩
    rw [List.length_map]
    walk_at "zq"
    rw [ne_self]
    walk_at "zq"
    have hr2 := hr'.up e02
    clear w w1
    refine ⟨_, rfl, x, dx, _, tx, bs.map V.int, rfl, w2.at (e02 _ _ hxI), rfl, rfl, tup_up w2 (seqT e02 hxT), small' (by rw [List.length_map]; omega), NewO.good w2 fun D G3 H3 e3 w3 hD => ?_⟩
    walk_at "zq"
    refine st_neI (xs := bs) (ys := bs) (SqL.of (w3.at hD)) (seq_up w3 (hr2.up e3).seq) ?_
    rw [show (!decide (bs = bs)) = false by rw [decide_eq_true rfl]; rfl]
    walk_at "zq"
    refine mk_bits w3 (.inl (hr2.up e3).seq) h01 (by omega) fun y G4 H4 e4 w4 hy => ?_
    have e24 := e3.trans e4
    refine eq_use (neg := false) w4 (hx2.up e24) hy ?_
    rw [if_neg (by decide), decide_eq_true rfl]
    walk_at "zq"
    refine ⟨small (by simp), NewO.good w4 fun p5 G5 H5 e5 w5 h5 => ?_⟩
    have e25 := e24.trans e5
    refine st_neI (xs := bs) (ys := []) (seq_up w5 (hr2.up e25).seq) (SqL.of (w5.at h5)) ?_
    rcases bs with _ | ⟨b0, bt0⟩
    · rw [show (!decide (([] : List Int) = [])) = false from rfl]
      walk_at "zq"
      refine ⟨rfl, ?_⟩
      walk_at "zq"
      refine ⟨x, dx, _, rfl, w5.at ((e02.trans e25) _ _ hxI), rfl, ?_⟩
      walk_at "zq"
      refine ⟨G5, W, x, _, w5, rfl, hx2.up e25, h01, by omega, fun p6 G6 H6 e6 w6 h6 => ?_⟩
      refine ⟨G6, W, p6, _, w6, rfl, h6.seq, data_byt h01 _, by rw [data_len]; omega, fun y7 G7 H7 e7 w7 h7 => ?_⟩
      obtain ⟨d7, t7, hI7, _⟩ := id h7
      refine ⟨y7, d7, _, rfl, w7.at hI7, rfl, ?_⟩
      walk_at "zq"
      refine ⟨r, _, rfl, .inl (seq_up w7 (hr2.up (e25.trans (e6.trans e7))).seq), ?_⟩
      walk_at "zq"
      refine ⟨G7, W, y7, _, _, w7, rfl, h7, bits_01 _, by rw [bits_len, data_len]; omega, fun y8 G8 H8 e8 w8 h8 => ?_⟩
      rw [List.length_map, data_back h01] at h8
      walk_at "zq"
      refine eq_use (neg := false) w8 h8 (hx2.up (e25.trans (e6.trans (e7.trans e8)))) ?_
      rw [if_neg (by decide), decide_eq_true rfl]
      exact k G8 H8 (e02.trans (e25.trans (e6.trans (e7.trans e8)))) w8
    · rw [show (!decide ((b0 :: bt0) = [])) = true from rfl]
      obtain ⟨z, hz⟩ : ∃ z, (b0 :: bt0)[bt0.length]? = some z := ⟨_, List.getElem?_eq_getElem (by rw [List.length_cons]; omega)⟩
      walk_at "zq"
      refine get_use (i := 0) (b := b0) w5 (hx2.up e25) rfl rfl ?_
      walk_at "zq"
      refine st_ixL (v := .int b0) (seq_up w5 (hr2.up e25).seq) (show atI _ ((0 : Nat) : Int) = _ from atI_nat rfl) ?_
      walk_at "zq"
      rw [ne_self]
      walk_at "zq"
      refine ⟨r, _, rfl, .inl (seq_up w5 (hr2.up e25).seq), ?_⟩
      walk_at "zq"
      refine get_use (i := bt0.length) (b := z) w5 (hx2.up e25) (by rw [List.length_map, List.length_cons]; omega) hz ?_
      walk_at "zq"
      refine st_ixL (v := .int z) (seq_up w5 (hr2.up e25).seq) (atI_m1 hz (by rw [List.length_cons])) ?_
      walk_at "zq"
      rw [ne_self]
      walk_at "zq"
      refine ⟨rfl, ?_⟩
      walk_at "zq"
      refine ⟨x, dx, _, rfl, w5.at ((e02.trans e25) _ _ hxI), rfl, ?_⟩
      walk_at "zq"
      refine ⟨G5, W, x, _, w5, rfl, hx2.up e25, h01, by omega, fun p6 G6 H6 e6 w6 h6 => ?_⟩
      refine ⟨G6, W, p6, _, w6, rfl, h6.seq, data_byt h01 _, by rw [data_len]; omega, fun y7 G7 H7 e7 w7 h7 => ?_⟩
      obtain ⟨d7, t7, hI7, _⟩ := id h7
      refine ⟨y7, d7, _, rfl, w7.at hI7, rfl, ?_⟩
      walk_at "zq"
      refine ⟨r, _, rfl, .inl (seq_up w7 (hr2.up (e25.trans (e6.trans e7))).seq), ?_⟩
      walk_at "zq"
      refine ⟨G7, W, y7, _, _, w7, rfl, h7, bits_01 _, by rw [bits_len, data_len]; omega, fun y8 G8 H8 e8 w8 h8 => ?_⟩
      rw [List.length_map, data_back h01] at h8
      walk_at "zq"
      refine eq_use (neg := false) w8 h8 (hx2.up (e25.trans (e6.trans (e7.trans e8)))) ?_
      rw [if_neg (by decide), decide_eq_true rfl]
      exact k G8 H8 (e02.trans (e25.trans (e6.trans (e7.trans e8)))) w8

def KnR (K : PySem.W.Frag) (C : Addr) (G : Hp) (v : V) : Prop := ∃ p x r bs, v = .ref p ∧ G p = some (.tup [.ref x, .ref r]) ∧ BitsAt K C G x bs ∧ HL G r bs ∧ Bit01 bs ∧ bs.length ≤ 300
theorem KnR.up {C : Addr} {G G' : Hp} {v : V} (e : Same G G') (h : KnR K C G v) : KnR K C G' v := by
  obtain ⟨p, x, r, bs, h1, h2, h3, h4, h5, h6⟩ := h
  exact ⟨p, x, r, bs, h1, e _ _ h2, h3.up e, h4.up e, h5, h6⟩
def spLaw (K : PySem.W.Frag) : Sp := fun vs H Q _ => ∃ (a : Addr) (ns : List Int), vs = [.ref a] ∧ SqL K H a (ns.map V.int) ∧ ns.length ≤ 63 ∧ ∀ H', Q (.bl true) H'
theorem ok_law (T : Txt K mg A) : FnG P w K mg base 8 A.f_law A.fd_law sP_law (spLaw K) := by
  refine okG T.F_law sc_law (fun vs H Q E h => ?_) (fun cdv Ar outer s H vs Q E hgd hr h => ⟨_, (pss_cons (ps_for PassesOwn.never rfl (pi_range1 (by rfl) T.z_range (pa_cons (pe_callB (call_max2 rfl) (by rfl) T.z_max (by decide +kernel) (pa_cons (pe_int) (pa_cons (pe_callB (call_min2 rfl) (by rfl) T.z_min (by decide +kernel) (pa_cons (pe_int) (pa_cons (pe_callB call_len_seq (by rfl) T.z_len PySem.boot_len (pa_cons (pv 0) pa_nil)) pa_nil))) pa_nil))) pa_nil)) (pg_name (i := 1) sc_law.nd rfl (Or.inl rfl)) (pss_cons (ps_set (i := 2) sc_law.nd rfl (Or.inl rfl) (pe_call (ok__law_bag T) (hr.mono (by decide)) rfl T.m__law_bag T.F__law_bag.kp T.b__law_bag .nil pass0 (pa_cons (pv 0) (pa_cons (pv 1) pa_nil))))
      (pss_cons (ps_par3 (i := 4) (j := 5) (l := 6) (by rfl) sc_law.nd rfl rfl rfl (by decide) (by decide) (by decide) rfl rfl rfl (pa_cons (pe_make0 T.M_Bits (ok_Bits___init__ T) (hr.mono (by decide)) rfl T.gC_Bits T.b1_Bits___init__.choose_spec.2 T.b1_Bits___init__.choose_spec.1 pass0) (pa_cons (pe_lst pa_nil) (pa_cons (pe_lst pa_nil) pa_nil))) (by rfl))
      (pss_cons (ps_for PassesOwn.never rfl (pi_range1 (by rfl) T.z_range (pa_cons (pe_op op_add (pe_int) (pe_call (ok__law_take T) (hr.mono (by decide)) rfl T.m__law_take T.F__law_take.kp T.b__law_take .nil pass0 (pa_cons (pv 2) (pa_cons (pe_int) pa_nil)))) pa_nil)) (pg_name (i := 3) sc_law.nd rfl (Or.inl rfl)) (pss_cons (ps_expr (pe_bm PySem.F.plainAttrs_list PySem.F.slot_list_append PySem.F.type_list_append mt_append (pv 6) (pa_cons (pe_tup (pa_cons (pv 4) (pa_cons (pe_callTy call_list_of (by rfl) T.z_list (by decide +kernel) (pa_cons (pv 5) pa_nil)) pa_nil))) pa_nil)))
      (pss_cons (ps_asg (pe_call (ok__law_next T) (hr.mono (by decide)) rfl T.m__law_next T.F__law_next.kp T.b__law_next .nil pass0 (pa_cons (pv 2) (pa_cons (pv 4) (pa_cons (pv 5) pa_nil)))) (pg_tup rfl (pgs_cons (pg_name (i := 4) sc_law.nd rfl (Or.inl rfl)) (pgs_cons (pg_name (i := 5) sc_law.nd rfl (Or.inl rfl)) pgs_nil))))
      (pss_one (ps_if (pt_not (pt_val (pe_call (ok__law_right T) (hr.mono (by decide)) rfl T.m__law_right T.F__law_right.kp T.b__law_right .nil pass0 (pa_cons (pv 4) (pa_cons (pv 5) pa_nil))))) (pss_one (ps_ret (pe_bl))) pss_nil)))))
      (pss_cons (ps_for PassesOwn.never rfl (pi_list (pv 6)) (pg_tup rfl (pgs_cons (pg_name (i := 7) sc_law.nd rfl (Or.inl rfl)) (pgs_cons (pg_name (i := 8) sc_law.nd rfl (Or.inl rfl)) pgs_nil))) (pss_one (ps_if (PW.pt (pw_or (pt_not (pt_val (pe_call (ok__law_right T) (hr.mono (by decide)) rfl T.m__law_right T.F__law_right.kp T.b__law_right .nil pass0 (pa_cons (pv 7) (pa_cons (pv 8) pa_nil))))) (pw_or1 (pt_cmpR op_ne (pe_cmpR (op_eqO T.mt_Bits___eq__ (ok_Bits___eq__ T) (hr.mono (by decide)) T.b_Bits___eq__) (pv 7) (pv 4) (nomark _)) (pe_cmpR (op_eqD hr.units) (pv 8) (pv 5) (nomark _)) (nomark _))))) (pss_one (ps_ret (pe_bl))) pss_nil)))
      (pss_cons (ps_par3 (i := 7) (j := 9) (l := 10) (by rfl) sc_law.nd rfl rfl rfl (by decide) (by decide) (by decide) rfl rfl rfl (pa_cons (pe_ix ix_tup (pe_call (ok__law_one T) (hr.mono (by decide)) rfl T.m__law_one T.F__law_one.kp T.b__law_one .nil pass0 (pa_cons (pv 2) (pa_cons (pv 6) pa_nil))) (pe_int) (fun _ _ => rfl)) (pa_cons (pe_ix ix_tup (pe_call (ok__law_one T) (hr.mono (by decide)) rfl T.m__law_one T.F__law_one.kp T.b__law_one .nil pass0 (pa_cons (pv 2) (pa_cons (pv 6) pa_nil))) (pe_int) (fun _ _ => rfl)) (pa_cons (pv 4) pa_nil))) (by rfl))
      (pss_one (ps_if (PW.pt (pw_or (pt_cmpR (op_neO T.mt_Bits___eq__ T.eqC_Bits.nec (ok_Bits___eq__ T) (hr.mono (by decide)) T.b_Bits___eq__) (pe_op (op_addO T.eqC_Bits.sf T.mt_Bits___add__ (ok_Bits___add__ T) (hr.mono (by decide)) T.b_Bits___add__) (pe_op (op_addO T.eqC_Bits.sf T.mt_Bits___add__ (ok_Bits___add__ T) (hr.mono (by decide)) T.b_Bits___add__) (pv 7) (pv 9)) (pv 10)) (pe_op (op_addO T.eqC_Bits.sf T.mt_Bits___add__ (ok_Bits___add__ T) (hr.mono (by decide)) T.b_Bits___add__) (pv 7) (pe_op (op_addO T.eqC_Bits.sf T.mt_Bits___add__ (ok_Bits___add__ T) (hr.mono (by decide)) T.b_Bits___add__) (pv 9) (pv 10))) (nomark _)) (pw_or (pt_cmpR (op_neO T.mt_Bits___eq__ T.eqC_Bits.nec (ok_Bits___eq__ T) (hr.mono (by decide)) T.b_Bits___eq__) (pe_op (op_addO T.eqC_Bits.sf T.mt_Bits___add__ (ok_Bits___add__ T) (hr.mono (by decide)) T.b_Bits___add__) (pv 7) (pe_make0 T.M_Bits (ok_Bits___init__ T) (hr.mono (by decide)) rfl T.gC_Bits T.b1_Bits___init__.choose_spec.2 T.b1_Bits___init__.choose_spec.1 pass0)) (pv 7) (nomark _)) (pw_or1 (pt_cmpR (op_neO T.mt_Bits___eq__ T.eqC_Bits.nec (ok_Bits___eq__ T) (hr.mono (by decide)) T.b_Bits___eq__) (pe_op (op_addO T.eqC_Bits.sf T.mt_Bits___add__ (ok_Bits___add__ T) (hr.mono (by decide)) T.b_Bits___add__) (pe_make0 T.M_Bits (ok_Bits___init__ T) (hr.mono (by decide)) rfl T.gC_Bits T.b1_Bits___init__.choose_spec.2 T.b1_Bits___init__.choose_spec.1 pass0) (pv 7)) (pv 7) (nomark _)))))) (pss_one (ps_ret (pe_bl))) pss_nil))))))))
      (pss_one (ps_ret (pe_bl)))), ?_⟩)
  · obtain ⟨a, ns, rfl, _⟩ := h
    rfl
  · obtain ⟨a, ns, rfl, hS, hn, k⟩ := h
    have wf : Wd H [] H := ⟨Same.refl _, (fun _ h => nomatch h), List.nodup_nil⟩
    walk_at "zq"
    refine ⟨a, _, rfl, .inl (seq_up wf hS), ?_⟩
    walk_at "zq"
    rw [List.length_map]
    refine ⟨_, _, rfl, ?_⟩
    walk_at "zq"
    refine ⟨_, _, rfl, ?_⟩
    walk_at "zq"
    refine for_r1 (by split <;> split <;> omega) (fun i σ G' W' => W' = [] ∧ ∃ x1 x2 x3 x4 x5 x6 x7 x8 x9 x10, σ = [some (.ref a), x1, x2, x3, x4, x5, x6, x7, x8, x9, x10]) wf ⟨rfl, _, _, _, _, _, _, _, _, _, _, rfl⟩ ?_ ?_
    · rintro i σ' G1 W1 H1 hi e1 w1 ⟨rfl, x1, x2, x3, x4, x5, x6, x7, x8, x9, x10, rfl⟩
      have hi6 : (i : Int) < 6 := by split at hi <;> split at hi <;> omega
      clear wf
      walk_at "zq"
      refine ⟨G1, [], a, ns, _, w1, rfl, e1.seq hS, by omega, by omega, fun b H2 w2 => ?_⟩
      have hm : (b, BagI) ∈ [(b, BagI)] := List.mem_cons_self
      walk_at "zq"
      refine mk_bits w2 (bs := []) (.inr (T.dt_Bits___init___values _)) (fun _ h => nomatch h) (by simp) fun x G3 H3 e3 w3 hx => ?_
      walk_at "zq"
      refine ⟨small (by simp), NewO.good w3 fun r G4 H4 e34 w4 hr4 => ?_⟩
      have hr4 : HL G4 r [] := hr4
      walk_at "zq"
      refine ⟨small (by simp), NewO.own w4 fun kn H5 w5 => ?_⟩
      have hm5 : (b, BagI) ∈ [(kn, Is (.lst [])), (b, BagI)] := List.mem_cons_of_mem _ hm
      walk_at "zq"
      refine ⟨_, _, _, rfl, ?_⟩
      dsimp only
      walk_at "zq"
      refine ⟨G4, _, b, _, w5, hm5, rfl, by decide, by decide, fun n H6 hn0 hn1 w6 => ?_⟩
      have hx4 := hx.up (show Same G3 G4 by walk_at "sm")
      walk_at "zq"
      refine for_r1 (by omega) (fun j σ G' W' => ∃ ks x r bs y3 y7 y8 y9 y10, W' = (kn, Is (.lst ks)) :: [(b, BagI)] ∧ (∀ v ∈ ks, KnR K A.C_Bits G' v) ∧ ks.length = j ∧ BitsAt K A.C_Bits G' x bs ∧ HL G' r bs ∧ Bit01 bs ∧ bs.length ≤ 8 * j ∧
        σ = [some (.ref a), some (.int i), some (.ref b), y3, some (.ref x), some (.ref r), some (.ref kn), y7, y8, y9, y10]) w6 ⟨[], x, r, [], _, _, _, _, _, rfl, (fun _ h => nomatch h), rfl, hx4, hr4, (fun _ h => nomatch h), Nat.zero_le _, rfl⟩ ?_ ?_
      · rintro j σ' G7 W7 H7 hj e7 w7 ⟨ks, x, r, bs, y3, y7, y8, y9, y10, rfl, hks, hkl, hx7, hr7, h01, hbl, rfl⟩
        walk_at "zq"
        refine ⟨tyL' (Wd.is1 w7), ?_⟩
        walk_at "zq"
        refine ⟨r, _, rfl, .inl (seq_up w7 hr7.seq), fun l hl => ?_⟩
        have e8 := same_upd (o := HO.lst (bs.map V.int)) (w7.free hl)
        have w8 : Wd (upd G7 l (.lst (bs.map V.int))) _ (upd H7 l (.lst (bs.map V.int))) := w7.new hl
        have hl8 : HL (upd G7 l (.lst (bs.map V.int))) l bs := upd_same
        generalize upd G7 l (HO.lst (bs.map V.int)) = G8 at e8 w8 hl8
        generalize upd H7 l (HO.lst (bs.map V.int)) = H8 at w8
        walk_at "zq"
        refine ⟨small (by simp), NewO.good w8 fun p9 G9 H9 e9 w9 h9 => ?_⟩
        have e79 := e8.trans e9
        walk_at "zq"
        refine st_appL (Wd.is1 w9) (by omega) ?_
        have w10 : Wd G9 ((kn, Is (.lst (ks ++ [.ref p9]))) :: [(b, BagI)]) (upd H9 kn (.lst (ks ++ [.ref p9]))) := w9.put1
        generalize upd H9 kn (HO.lst (ks ++ [.ref p9])) = H10 at w10
        have hk9 : ∀ v ∈ ks ++ [V.ref p9], KnR K A.C_Bits G9 v := fun v hv => by
          rcases List.mem_append.mp hv with hv | hv
          · exact (hks v hv).up e79
          · rw [List.mem_singleton.mp hv]
            exact ⟨p9, x, l, bs, rfl, h9, hx7.up e79, hl8.up e9, h01, by omega⟩
        clear w7 w8 w9 h9
        walk_at "zq"
        refine ⟨G9, _, b, x, r, bs, w10, List.mem_cons_of_mem _ hm, rfl, hx7.up e79, hr7.up e79, h01, by omega, fun t y q cs G11 H11 e11 w11 ht hy hq hc hcl => ?_⟩
        walk_at "zq"
        refine st_gtup (SqT.of (w11.at ht)) rfl ?_
        walk_at "zq"
        refine ⟨G11, _, y, q, cs, w11, rfl, hy, hq, hc, by omega, fun G12 H12 e12 w12 => ?_⟩
        walk_at "zq"
        exact st_btw (e7.trans (e79.trans (e11.trans e12))) w12 ⟨ks ++ [.ref p9], y, q, cs, _, _, _, _, _, rfl, fun v hv => (hk9 v hv).up (e11.trans e12), by rw [List.length_append, hkl]; rfl, hy.up e12, hq.up e12, hc, by omega, rfl⟩
      · rintro σ' G7 W7 H7 e7 w7 ⟨ks, x, r, bs, y3, y7, y8, y9, y10, rfl, hks, hkl, hx7, hr7, h01, hbl, rfl⟩
        obtain ⟨o, rfl, ho, e8, w8⟩ := w7.freeze1
        have hk8 : (upd G7 kn (.lst ks)) kn = some (.lst ks) := upd_same
        have hks8 : ∀ v ∈ ks, KnR K A.C_Bits (upd G7 kn (.lst ks)) v := fun v hv => (hks v hv).up e8
        have hx8 := hx7.up e8
        have hr8 := hr7.up e8
        generalize upd G7 kn (HO.lst ks) = G8 at e8 w8 hk8 hks8 hx8 hr8
        clear w7 ho w2 w3 w4 w5 w6
        walk_at "zq"
        refine for_l (SqL.of hk8) (fun j σ G' W' => W' = [(b, BagI)] ∧ ∃ z7 z8, σ = [some (.ref a), some (.int i), some (.ref b), y3, some (.ref x), some (.ref r), some (.ref kn), z7, z8, y9, y10]) w8 ⟨rfl, _, _, rfl⟩ ?_ ?_
        · rintro j v σ' G9 W9 H9 hv e9 w9 ⟨rfl, z7, z8, rfl⟩
          obtain ⟨p, x', r', bs', rfl, hp, hx', hr2', h01', hl'⟩ := (hks8 v (List.mem_of_getElem? hv)).up e9
          walk_at "zq"
          refine st_gtup (SqT.of (w9.at hp)) rfl ?_
          walk_at "zq"
          refine ⟨G9, _, x', r', bs', w9, rfl, hx', hr2', h01', by omega, fun G10 H10 e10 w10 => ?_⟩
          walk_at "zq"
          refine eq_use (neg := false) w10 (hx'.up e10) (hx8.up (e9.trans e10)) ?_
          rw [if_neg (by decide)]
          walk_at "zq"
          refine st_eqI (xs := bs') (ys := bs) (seq_up w10 (hr2'.up e10).seq) (seq_up w10 (hr8.up (e9.trans e10)).seq) ?_
          refine st_ne rfl ?_
          rw [ne_self]
          walk_at "zq"
          exact st_btw (e9.trans e10) w10 ⟨rfl, _, _, rfl⟩
        · rintro σ' G9 W9 H9 e9 w9 ⟨rfl, z7, z8, rfl⟩
          have hk9 := e9 _ _ hk8
          walk_at "zq"
          refine ⟨G9, _, b, kn, ks, w9, hm, rfl, SqL.of hk9, by omega, by omega, fun v H10 hv w10 => ?_⟩
          obtain ⟨p, x', r', bs', rfl, hp, hx', hr2', h01', hl'⟩ := (hks8 v hv).up e9
          walk_at "zq"
          refine st_ixT (v := .ref x') (SqT.of (w10.at hp)) rfl ?_
          walk_at "zq"
          refine ⟨G9, _, b, kn, ks, w10, hm, rfl, SqL.of hk9, by omega, by omega, fun v2 H11 hv2 w11 => ?_⟩
          obtain ⟨p2, x2', r2', bs2, rfl, hp2, hx2', _, h012, hl2⟩ := (hks8 v2 hv2).up e9
          walk_at "zq"
          refine st_ixT (v := .ref x2') (SqT.of (w11.at hp2)) rfl ?_
          walk_at "zq"
          have hx9 := hx8.up e9
          refine ⟨_, _, _, rfl, ?_⟩
          dsimp only
          walk_at "zq"
          refine add_use w11 hx' hx2' h01' h012 (by omega) fun q1 G12 H12 e12 w12 hq1 => ?_
          walk_at "zq"
          refine add_use w12 hq1 (hx9.up e12) (h01'.app h012) h01 (by rw [List.length_append]; omega) fun q2 G13 H13 e13 w13 hq2 => ?_
          walk_at "zq"
          have e913 := e12.trans e13
          refine add_use w13 (hx2'.up e913) (hx9.up e913) h012 h01 (by omega) fun q3 G14 H14 e14 w14 hq3 => ?_
          have e914 := e913.trans e14
          refine add_use w14 (hx'.up e914) hq3 h01' (h012.app h01) (by rw [List.length_append]; omega) fun q4 G15 H15 e15 w15 hq4 => ?_
          refine eq_use (neg := true) w15 (hq2.up (e14.trans e15)) hq4 ?_
          rw [if_pos rfl, decide_eq_true (List.append_assoc _ _ _)]
          have e915 := e914.trans e15
          walk_at "zq"
          refine mk_bits w15 (bs := []) (.inr (T.dt_Bits___init___values _)) (fun _ h => nomatch h) (by simp) fun q5 G16 H16 e16 w16 hq5 => ?_
          have e916 := e915.trans e16
          refine add_use w16 (hx'.up e916) hq5 h01' (fun _ h => nomatch h) (by simp; omega) fun q6 G17 H17 e17 w17 hq6 => ?_
          walk_at "zq"
          refine eq_use (neg := true) w17 hq6 (hx'.up (e916.trans e17)) ?_
          rw [if_pos rfl, decide_eq_true (List.append_nil _)]
          walk_at "zq"
          refine mk_bits w17 (bs := []) (.inr (T.dt_Bits___init___values _)) (fun _ h => nomatch h) (by simp) fun q7 G18 H18 e18 w18 hq7 => ?_
          walk_at "zq"
          have e918 := (e916.trans e17).trans e18
          refine add_use w18 hq7 (hx'.up e918) (fun _ h => nomatch h) h01' (by simp; omega) fun q8 G19 H19 e19 w19 hq8 => ?_
          walk_at "zq"
          refine eq_use (neg := true) w19 hq8 (hx'.up (e918.trans e19)) ?_
          rw [if_pos rfl, decide_eq_true (List.nil_append _)]
          walk_at "zq"
          exact st_btw (e1.trans (e3.trans ((show Same G3 G4 by walk_at "sm").trans (e7.trans (e8.trans (e9.trans (e918.trans e19))))))) (show Wd G19 [] _ from Wd.drop1 w19) ⟨rfl, _, _, _, _, _, _, _, _, _, _, rfl⟩
    · rintro σ' G1 W1 H1 e1 w1 ⟨rfl, x1, x2, x3, x4, x5, x6, x7, x8, x9, x10, rfl⟩
      walk_at "zq"
      exact k _

end
theorem all_mk {l : PySem.W.OpenLaw} {w : World} {K : PySem.W.Frag} {h : Heap} {mg : Str → Option Value} {fa : Addr} (X : K.In h) (G : h.Ns mainGlobals mg) (hfa : mg "law" = some (.ref fa))
    {A0 : Addr} {od0 an0 : Option Addr} {sl0 : Array (Option Value)} {oc0 kV0 dc0 pm0 cd0 ct0 : Value}
    {A1 : Addr} {od1 an1 : Option Addr} {sl1 : Array (Option Value)} {oc1 kV1 dc1 pm1 cd1 ct1 : Value}
    {A2 : Addr} {od2 an2 : Option Addr} {sl2 : Array (Option Value)} {oc2 kV2 dc2 pm2 cd2 ct2 : Value}
    {A3 : Addr} {od3 an3 : Option Addr} {sl3 : Array (Option Value)} {oc3 kV3 dc3 pm3 cd3 ct3 : Value}
    {CBits : Addr}
    {tkBits_BYTE : Tok}
    {A4 : Addr} {od4 an4 : Option Addr} {sl4 : Array (Option Value)} {oc4 kV4 dc4 pm4 cd4 ct4 : Value}
    {T4 : Addr} {oT4 : Value} {odT4 : Option Addr} {slT4 : Array (Option Value)} {nT4 : Nat}
    {KP4_0 : Addr} {pn4_0 : Nat} {pq4_0 : Array (Option Value)} {pd4_0 : Option Addr}
    {A5 : Addr} {od5 an5 : Option Addr} {sl5 : Array (Option Value)} {oc5 kV5 dc5 pm5 cd5 ct5 : Value}
    {P5 : Addr} {R5 : List Value}
    {A6 : Addr} {od6 an6 : Option Addr} {sl6 : Array (Option Value)} {oc6 kV6 dc6 pm6 cd6 ct6 : Value}
    {A7 : Addr} {od7 an7 : Option Addr} {sl7 : Array (Option Value)} {oc7 kV7 dc7 pm7 cd7 ct7 : Value}
    {A8 : Addr} {od8 an8 : Option Addr} {sl8 : Array (Option Value)} {oc8 kV8 dc8 pm8 cd8 ct8 : Value}
    {A9 : Addr} {od9 an9 : Option Addr} {sl9 : Array (Option Value)} {oc9 kV9 dc9 pm9 cd9 ct9 : Value}
    {A10 : Addr} {od10 an10 : Option Addr} {sl10 : Array (Option Value)} {oc10 kV10 dc10 pm10 cd10 ct10 : Value}
    {A11 : Addr} {od11 an11 : Option Addr} {sl11 : Array (Option Value)} {oc11 kV11 dc11 pm11 cd11 ct11 : Value}
    {A12 : Addr} {od12 an12 : Option Addr} {sl12 : Array (Option Value)} {oc12 kV12 dc12 pm12 cd12 ct12 : Value}
    {A13 : Addr} {od13 an13 : Option Addr} {sl13 : Array (Option Value)} {oc13 kV13 dc13 pm13 cd13 ct13 : Value}
    {A14 : Addr} {od14 an14 : Option Addr} {sl14 : Array (Option Value)} {oc14 kV14 dc14 pm14 cd14 ct14 : Value}
    {A15 : Addr} {od15 an15 : Option Addr} {sl15 : Array (Option Value)} {oc15 kV15 dc15 pm15 cd15 ct15 : Value}
    {A16 : Addr} {od16 an16 : Option Addr} {sl16 : Array (Option Value)} {oc16 kV16 dc16 pm16 cd16 ct16 : Value}
    {A17 : Addr} {od17 an17 : Option Addr} {sl17 : Array (Option Value)} {oc17 kV17 dc17 pm17 cd17 ct17 : Value}
    {A18 : Addr} {od18 an18 : Option Addr} {sl18 : Array (Option Value)} {oc18 kV18 dc18 pm18 cd18 ct18 : Value}
    {A19 : Addr} {od19 an19 : Option Addr} {sl19 : Array (Option Value)} {oc19 kV19 dc19 pm19 cd19 ct19 : Value}
    {tc0 : Tok}
    (a0 : PySem.W.nsIn K mainGlobals "is_integer" = some (some (.ref A0)))
    (l0 : K.lookup A0 = some ⟨oc0, od0, .func (PySem.W.fnOf "is_integer" "is_integer" (defArgs s_is_integer) (defBody s_is_integer) (defScope s_is_integer) .none kV0 dc0 pm0 an0 cd0 ct0), sl0⟩)
    (c0 : PySem.W.codeIn K cd0 "is_integer" = true) (k0 : PySem.W.keepIn K (.ref A0) = true)
    (a1 : PySem.W.nsIn K mainGlobals "in_range" = some (some (.ref A1)))
    (l1 : K.lookup A1 = some ⟨oc1, od1, .func (PySem.W.fnOf "in_range" "in_range" (defArgs s_in_range) (defBody s_in_range) (defScope s_in_range) .none kV1 dc1 pm1 an1 cd1 ct1), sl1⟩)
    (c1 : PySem.W.codeIn K cd1 "in_range" = true) (k1 : PySem.W.keepIn K (.ref A1) = true)
    (a2 : PySem.W.nsIn K mainGlobals "is_byte" = some (some (.ref A2)))
    (l2 : K.lookup A2 = some ⟨oc2, od2, .func (PySem.W.fnOf "is_byte" "is_byte" (defArgs s_is_byte) (defBody s_is_byte) (defScope s_is_byte) .none kV2 dc2 pm2 an2 cd2 ct2), sl2⟩)
    (c2 : PySem.W.codeIn K cd2 "is_byte" = true) (k2 : PySem.W.keepIn K (.ref A2) = true)
    (a3 : PySem.W.nsIn K mainGlobals "checked_data" = some (some (.ref A3)))
    (l3 : K.lookup A3 = some ⟨oc3, od3, .func (PySem.W.fnOf "checked_data" "checked_data" (defArgs s_checked_data) (defBody s_checked_data) (defScope s_checked_data) .none kV3 dc3 pm3 an3 cd3 ct3), sl3⟩)
    (c3 : PySem.W.codeIn K cd3 "checked_data" = true) (k3 : PySem.W.keepIn K (.ref A3) = true)
    (yg_Bits : PySem.W.nsIn K mainGlobals "Bits" = some (some (.ref CBits)))
    (ypg_Bits : PySem.W.plainGet K CBits Str.empty = true)
    (yhd_Bits : PySem.W.hasDictIn K CBits = true)
    (ypo_Bits : PySem.W.plainOver K CBits = true)
    (ysa_Bits : PySem.W.findIn K (.ref CBits) "__setattr__" = some (some (.builtin "object.__setattr__")))
    (ymk_Bits : PySem.W.makesIn K CBits = true)
    (ykc_Bits : PySem.W.keepIn K (.ref CBits) = true)
    (yf_row_Bits : PySem.W.findIn K (.ref CBits) "row" = some none)
    (yca_Bits : PySem.W.findIn K (.ref CBits) "__class__" = some (some (.builtin "object.__class__")))
    (ymr_Bits : PySem.W.mroIn K CBits (.type "object") = some true)
    (yne_Bits : PySem.W.findIn K (.ref CBits) "__ne__" = some (some (.builtin "object.__ne__")))
    (yb0_Bits : PySem.W.findIn K (.ref CBits) "__bool__" = some none)
    (ysf_Bits : PySem.W.selfFirst K CBits = true)
    (yci_Bits : (PySem.W.clsIn K CBits).isSome = true)
    (ytt_Bits : PySem.W.typeIn K (.ref CBits) = some (.type "type"))
    (yrd_Bits : PySem.W.readsIn K CBits (.type "type") = true)
    (yra_Bits : PySem.W.specialIn K (.ref CBits) "__getattribute__" = some (some (.builtin "type.__getattribute__")))
    (yv_BYTE_Bits : PySem.W.findCls K (.ref CBits) (.type "type") "BYTE" = some (.val (.int 8 tkBits_BYTE)))
    (a4 : PySem.W.findIn K (.ref CBits) "__init__" = some (some (.ref A4)))
    (u4 : PySem.W.isFn K (.ref A4) = true)
    (l4 : K.lookup A4 = some ⟨oc4, od4, .func (PySem.W.fnOf "__init__" "Bits.__init__" (defArgs s_Bits___init__) (defBody s_Bits___init__) (defScope s_Bits___init__) (.ref T4) kV4 dc4 pm4 an4 cd4 ct4), sl4⟩)
    (lT4 : K.lookup T4 = some ⟨oT4, odT4, .seq #[(.ref KP4_0)] nT4, slT4⟩)
    (pl4_0 : K.lookup KP4_0 = some ⟨.type "tuple", pd4_0, .seq #[] pn4_0, pq4_0⟩)
    (c4 : PySem.W.codeIn K cd4 "Bits.__init__" = true) (k4 : PySem.W.keepIn K (.ref A4) = true)
    (a5 : PySem.W.findCls K (.ref CBits) (.type "type") "of_data" = some (.get (.builtin "classmethod.__get__") (.ref P5) .none (.ref CBits)))
    (u5 : PySem.W.recIn K P5 "classmethod" = some (.ref A5 :: R5)) (w5 : PySem.W.fnIn K A5 = true)
    (l5 : K.lookup A5 = some ⟨oc5, od5, .func (PySem.W.fnOf "of_data" "Bits.of_data" (defArgs s_Bits_of_data) (defBody s_Bits_of_data) (defScope s_Bits_of_data) .none kV5 dc5 pm5 an5 cd5 ct5), sl5⟩)
    (c5 : PySem.W.codeIn K cd5 "Bits.of_data" = true) (k5 : PySem.W.keepIn K (.ref A5) = true)
    (a6 : PySem.W.findIn K (.ref CBits) "__len__" = some (some (.ref A6)))
    (u6 : PySem.W.isFn K (.ref A6) = true)
    (l6 : K.lookup A6 = some ⟨oc6, od6, .func (PySem.W.fnOf "__len__" "Bits.__len__" (defArgs s_Bits___len__) (defBody s_Bits___len__) (defScope s_Bits___len__) .none kV6 dc6 pm6 an6 cd6 ct6), sl6⟩)
    (c6 : PySem.W.codeIn K cd6 "Bits.__len__" = true) (k6 : PySem.W.keepIn K (.ref A6) = true)
    (a7 : PySem.W.findIn K (.ref CBits) "__eq__" = some (some (.ref A7)))
    (u7 : PySem.W.isFn K (.ref A7) = true)
    (l7 : K.lookup A7 = some ⟨oc7, od7, .func (PySem.W.fnOf "__eq__" "Bits.__eq__" (defArgs s_Bits___eq__) (defBody s_Bits___eq__) (defScope s_Bits___eq__) .none kV7 dc7 pm7 an7 cd7 ct7), sl7⟩)
    (c7 : PySem.W.codeIn K cd7 "Bits.__eq__" = true) (k7 : PySem.W.keepIn K (.ref A7) = true)
    (a8 : PySem.W.findIn K (.ref CBits) "__add__" = some (some (.ref A8)))
    (u8 : PySem.W.isFn K (.ref A8) = true)
    (l8 : K.lookup A8 = some ⟨oc8, od8, .func (PySem.W.fnOf "__add__" "Bits.__add__" (defArgs s_Bits___add__) (defBody s_Bits___add__) (defScope s_Bits___add__) .none kV8 dc8 pm8 an8 cd8 ct8), sl8⟩)
    (c8 : PySem.W.codeIn K cd8 "Bits.__add__" = true) (k8 : PySem.W.keepIn K (.ref A8) = true)
    (a9 : PySem.W.findIn K (.ref CBits) "__getitem__" = some (some (.ref A9)))
    (u9 : PySem.W.isFn K (.ref A9) = true)
    (v9 : PySem.W.fnIn K A9 = true)
    (l9 : K.lookup A9 = some ⟨oc9, od9, .func (PySem.W.fnOf "__getitem__" "Bits.__getitem__" (defArgs s_Bits___getitem__) (defBody s_Bits___getitem__) (defScope s_Bits___getitem__) .none kV9 dc9 pm9 an9 cd9 ct9), sl9⟩)
    (c9 : PySem.W.codeIn K cd9 "Bits.__getitem__" = true) (k9 : PySem.W.keepIn K (.ref A9) = true)
    (a10 : PySem.W.findIn K (.ref CBits) "__str__" = some (some (.ref A10)))
    (u10 : PySem.W.isFn K (.ref A10) = true)
    (l10 : K.lookup A10 = some ⟨oc10, od10, .func (PySem.W.fnOf "__str__" "Bits.__str__" (defArgs s_Bits___str__) (defBody s_Bits___str__) (defScope s_Bits___str__) .none kV10 dc10 pm10 an10 cd10 ct10), sl10⟩)
    (c10 : PySem.W.codeIn K cd10 "Bits.__str__" = true) (k10 : PySem.W.keepIn K (.ref A10) = true)
    (a11 : PySem.W.findIn K (.ref CBits) "each" = some (some (.ref A11)))
    (u11 : PySem.W.isFn K (.ref A11) = true)
    (l11 : K.lookup A11 = some ⟨oc11, od11, .func (PySem.W.fnOf "each" "Bits.each" (defArgs s_Bits_each) (defBody s_Bits_each) (defScope s_Bits_each) .none kV11 dc11 pm11 an11 cd11 ct11), sl11⟩)
    (c11 : PySem.W.codeIn K cd11 "Bits.each" = true) (k11 : PySem.W.keepIn K (.ref A11) = true)
    (a12 : PySem.W.findIn K (.ref CBits) "first" = some (some (.ref A12)))
    (u12 : PySem.W.isFn K (.ref A12) = true)
    (l12 : K.lookup A12 = some ⟨oc12, od12, .func (PySem.W.fnOf "first" "Bits.first" (defArgs s_Bits_first) (defBody s_Bits_first) (defScope s_Bits_first) .none kV12 dc12 pm12 an12 cd12 ct12), sl12⟩)
    (c12 : PySem.W.codeIn K cd12 "Bits.first" = true) (k12 : PySem.W.keepIn K (.ref A12) = true)
    (a13 : PySem.W.findIn K (.ref CBits) "data" = some (some (.ref A13)))
    (u13 : PySem.W.isFn K (.ref A13) = true)
    (l13 : K.lookup A13 = some ⟨oc13, od13, .func (PySem.W.fnOf "data" "Bits.data" (defArgs s_Bits_data) (defBody s_Bits_data) (defScope s_Bits_data) .none kV13 dc13 pm13 an13 cd13 ct13), sl13⟩)
    (c13 : PySem.W.codeIn K cd13 "Bits.data" = true) (k13 : PySem.W.keepIn K (.ref A13) = true)
    (a14 : PySem.W.nsIn K mainGlobals "_law_bag" = some (some (.ref A14)))
    (l14 : K.lookup A14 = some ⟨oc14, od14, .func (PySem.W.fnOf "_law_bag" "_law_bag" (defArgs s__law_bag) (defBody s__law_bag) (defScope s__law_bag) .none kV14 dc14 pm14 an14 cd14 ct14), sl14⟩)
    (c14 : PySem.W.codeIn K cd14 "_law_bag" = true) (k14 : PySem.W.keepIn K (.ref A14) = true)
    (a15 : PySem.W.nsIn K mainGlobals "_law_take" = some (some (.ref A15)))
    (l15 : K.lookup A15 = some ⟨oc15, od15, .func (PySem.W.fnOf "_law_take" "_law_take" (defArgs s__law_take) (defBody s__law_take) (defScope s__law_take) .none kV15 dc15 pm15 an15 cd15 ct15), sl15⟩)
    (c15 : PySem.W.codeIn K cd15 "_law_take" = true) (k15 : PySem.W.keepIn K (.ref A15) = true)
    (a16 : PySem.W.nsIn K mainGlobals "_law_one" = some (some (.ref A16)))
    (l16 : K.lookup A16 = some ⟨oc16, od16, .func (PySem.W.fnOf "_law_one" "_law_one" (defArgs s__law_one) (defBody s__law_one) (defScope s__law_one) .none kV16 dc16 pm16 an16 cd16 ct16), sl16⟩)
    (c16 : PySem.W.codeIn K cd16 "_law_one" = true) (k16 : PySem.W.keepIn K (.ref A16) = true)
    (a17 : PySem.W.nsIn K mainGlobals "_law_next" = some (some (.ref A17)))
    (l17 : K.lookup A17 = some ⟨oc17, od17, .func (PySem.W.fnOf "_law_next" "_law_next" (defArgs s__law_next) (defBody s__law_next) (defScope s__law_next) .none kV17 dc17 pm17 an17 cd17 ct17), sl17⟩)
    (c17 : PySem.W.codeIn K cd17 "_law_next" = true) (k17 : PySem.W.keepIn K (.ref A17) = true)
    (a18 : PySem.W.nsIn K mainGlobals "_law_right" = some (some (.ref A18)))
    (l18 : K.lookup A18 = some ⟨oc18, od18, .func (PySem.W.fnOf "_law_right" "_law_right" (defArgs s__law_right) (defBody s__law_right) (defScope s__law_right) .none kV18 dc18 pm18 an18 cd18 ct18), sl18⟩)
    (c18 : PySem.W.codeIn K cd18 "_law_right" = true) (k18 : PySem.W.keepIn K (.ref A18) = true)
    (a19 : PySem.W.nsIn K mainGlobals "law" = some (some (.ref A19)))
    (l19 : K.lookup A19 = some ⟨oc19, od19, .func (PySem.W.fnOf "law" "law" (defArgs s_law) (defBody s_law) (defScope s_law) .none kV19 dc19 pm19 an19 cd19 ct19), sl19⟩)
    (c19 : PySem.W.codeIn K cd19 "law" = true) (k19 : PySem.W.keepIn K (.ref A19) = true)
    (co0 : PySem.W.nsIn K mainGlobals "MOST_DATA" = some (some (.int 70000 tc0)))
    (z_isinstance : PySem.W.nsIn K mainGlobals "isinstance" = some none)
    (z_int : PySem.W.nsIn K mainGlobals "int" = some none)
    (z_bool : PySem.W.nsIn K mainGlobals "bool" = some none)
    (z_enumerate : PySem.W.nsIn K mainGlobals "enumerate" = some none)
    (z_list : PySem.W.nsIn K mainGlobals "list" = some none)
    (z_len : PySem.W.nsIn K mainGlobals "len" = some none)
    (z_tuple : PySem.W.nsIn K mainGlobals "tuple" = some none)
    (z_range : PySem.W.nsIn K mainGlobals "range" = some none)
    (z_str : PySem.W.nsIn K mainGlobals "str" = some none)
    (z_sum : PySem.W.nsIn K mainGlobals "sum" = some none)
    (z_abs : PySem.W.nsIn K mainGlobals "abs" = some none)
    (z_max : PySem.W.nsIn K mainGlobals "max" = some none)
    (z_min : PySem.W.nsIn K mainGlobals "min" = some none)
    (ecn : PySem.W.specialIn K (.builtin "object.__class__") "__get__" = some (some (.builtin "getset_descriptor.__get__")))
    (ect : PySem.W.takesIn K (.builtin "object.__class__") = some true)
    (evv : PySem.W.findCls K (.type "ValueError") (.type "type") "__init__" = some (.val (.builtin "ValueError.__init__"))) :
    ∃ fd : FuncData, (∀ (s : Shared) (v : Value), BindsTo s fd ⟨[v], []⟩ [("_law_script", v)]) ∧ ∀ base : Heap, K.In base → base.Ns mainGlobals mg → FnG l.prog w K mg base 8 fa fd ["_law_script"] (spLaw K) := by
  have e := hfa.symm.trans (PySem.W.mg_of X G a19)
  cases e
  have F0 : FunD K "is_integer" "is_integer" (defArgs s_is_integer) (defBody s_is_integer) (defScope s_is_integer) [] [] A0 (PySem.W.fnOf "is_integer" "is_integer" (defArgs s_is_integer) (defBody s_is_integer) (defScope s_is_integer) .none kV0 dc0 pm0 an0 cd0 ct0) :=
    ⟨⟨oc0, od0, .none, kV0, dc0, pm0, an0, cd0, ct0, sl0, rfl, l0, c0, (.inl ⟨rfl, rfl⟩), .inl rfl⟩, k0⟩
  have F1 : FunD K "in_range" "in_range" (defArgs s_in_range) (defBody s_in_range) (defScope s_in_range) [] [] A1 (PySem.W.fnOf "in_range" "in_range" (defArgs s_in_range) (defBody s_in_range) (defScope s_in_range) .none kV1 dc1 pm1 an1 cd1 ct1) :=
    ⟨⟨oc1, od1, .none, kV1, dc1, pm1, an1, cd1, ct1, sl1, rfl, l1, c1, (.inl ⟨rfl, rfl⟩), .inl rfl⟩, k1⟩
  have F2 : FunD K "is_byte" "is_byte" (defArgs s_is_byte) (defBody s_is_byte) (defScope s_is_byte) [] [] A2 (PySem.W.fnOf "is_byte" "is_byte" (defArgs s_is_byte) (defBody s_is_byte) (defScope s_is_byte) .none kV2 dc2 pm2 an2 cd2 ct2) :=
    ⟨⟨oc2, od2, .none, kV2, dc2, pm2, an2, cd2, ct2, sl2, rfl, l2, c2, (.inl ⟨rfl, rfl⟩), .inl rfl⟩, k2⟩
  have F3 : FunD K "checked_data" "checked_data" (defArgs s_checked_data) (defBody s_checked_data) (defScope s_checked_data) [] [] A3 (PySem.W.fnOf "checked_data" "checked_data" (defArgs s_checked_data) (defBody s_checked_data) (defScope s_checked_data) .none kV3 dc3 pm3 an3 cd3 ct3) :=
    ⟨⟨oc3, od3, .none, kV3, dc3, pm3, an3, cd3, ct3, sl3, rfl, l3, c3, (.inl ⟨rfl, rfl⟩), .inl rfl⟩, k3⟩
  have F4 : FunD K "__init__" "Bits.__init__" (defArgs s_Bits___init__) (defBody s_Bits___init__) (defScope s_Bits___init__) [.ref KP4_0] [] A4 (PySem.W.fnOf "__init__" "Bits.__init__" (defArgs s_Bits___init__) (defBody s_Bits___init__) (defScope s_Bits___init__) (.ref T4) kV4 dc4 pm4 an4 cd4 ct4) :=
    ⟨⟨oc4, od4, (.ref T4), kV4, dc4, pm4, an4, cd4, ct4, sl4, rfl, l4, c4, (.inr ⟨by simp, T4, _, [(.ref KP4_0)], nT4, rfl, lT4, rfl, (.cons rfl .nil)⟩), .inl rfl⟩, k4⟩
  have F5 : FunD K "of_data" "Bits.of_data" (defArgs s_Bits_of_data) (defBody s_Bits_of_data) (defScope s_Bits_of_data) [] [] A5 (PySem.W.fnOf "of_data" "Bits.of_data" (defArgs s_Bits_of_data) (defBody s_Bits_of_data) (defScope s_Bits_of_data) .none kV5 dc5 pm5 an5 cd5 ct5) :=
    ⟨⟨oc5, od5, .none, kV5, dc5, pm5, an5, cd5, ct5, sl5, rfl, l5, c5, (.inl ⟨rfl, rfl⟩), .inl rfl⟩, k5⟩
  have F6 : FunD K "__len__" "Bits.__len__" (defArgs s_Bits___len__) (defBody s_Bits___len__) (defScope s_Bits___len__) [] [] A6 (PySem.W.fnOf "__len__" "Bits.__len__" (defArgs s_Bits___len__) (defBody s_Bits___len__) (defScope s_Bits___len__) .none kV6 dc6 pm6 an6 cd6 ct6) :=
    ⟨⟨oc6, od6, .none, kV6, dc6, pm6, an6, cd6, ct6, sl6, rfl, l6, c6, (.inl ⟨rfl, rfl⟩), .inl rfl⟩, k6⟩
  have F7 : FunD K "__eq__" "Bits.__eq__" (defArgs s_Bits___eq__) (defBody s_Bits___eq__) (defScope s_Bits___eq__) [] [] A7 (PySem.W.fnOf "__eq__" "Bits.__eq__" (defArgs s_Bits___eq__) (defBody s_Bits___eq__) (defScope s_Bits___eq__) .none kV7 dc7 pm7 an7 cd7 ct7) :=
    ⟨⟨oc7, od7, .none, kV7, dc7, pm7, an7, cd7, ct7, sl7, rfl, l7, c7, (.inl ⟨rfl, rfl⟩), .inl rfl⟩, k7⟩
  have F8 : FunD K "__add__" "Bits.__add__" (defArgs s_Bits___add__) (defBody s_Bits___add__) (defScope s_Bits___add__) [] [] A8 (PySem.W.fnOf "__add__" "Bits.__add__" (defArgs s_Bits___add__) (defBody s_Bits___add__) (defScope s_Bits___add__) .none kV8 dc8 pm8 an8 cd8 ct8) :=
    ⟨⟨oc8, od8, .none, kV8, dc8, pm8, an8, cd8, ct8, sl8, rfl, l8, c8, (.inl ⟨rfl, rfl⟩), .inl rfl⟩, k8⟩
  have F9 : FunD K "__getitem__" "Bits.__getitem__" (defArgs s_Bits___getitem__) (defBody s_Bits___getitem__) (defScope s_Bits___getitem__) [] [] A9 (PySem.W.fnOf "__getitem__" "Bits.__getitem__" (defArgs s_Bits___getitem__) (defBody s_Bits___getitem__) (defScope s_Bits___getitem__) .none kV9 dc9 pm9 an9 cd9 ct9) :=
    ⟨⟨oc9, od9, .none, kV9, dc9, pm9, an9, cd9, ct9, sl9, rfl, l9, c9, (.inl ⟨rfl, rfl⟩), .inl rfl⟩, k9⟩
  have F10 : FunD K "__str__" "Bits.__str__" (defArgs s_Bits___str__) (defBody s_Bits___str__) (defScope s_Bits___str__) [] [] A10 (PySem.W.fnOf "__str__" "Bits.__str__" (defArgs s_Bits___str__) (defBody s_Bits___str__) (defScope s_Bits___str__) .none kV10 dc10 pm10 an10 cd10 ct10) :=
    ⟨⟨oc10, od10, .none, kV10, dc10, pm10, an10, cd10, ct10, sl10, rfl, l10, c10, (.inl ⟨rfl, rfl⟩), .inl rfl⟩, k10⟩
  have F11 : FunD K "each" "Bits.each" (defArgs s_Bits_each) (defBody s_Bits_each) (defScope s_Bits_each) [] [] A11 (PySem.W.fnOf "each" "Bits.each" (defArgs s_Bits_each) (defBody s_Bits_each) (defScope s_Bits_each) .none kV11 dc11 pm11 an11 cd11 ct11) :=
    ⟨⟨oc11, od11, .none, kV11, dc11, pm11, an11, cd11, ct11, sl11, rfl, l11, c11, (.inl ⟨rfl, rfl⟩), .inl rfl⟩, k11⟩
  have F12 : FunD K "first" "Bits.first" (defArgs s_Bits_first) (defBody s_Bits_first) (defScope s_Bits_first) [] [] A12 (PySem.W.fnOf "first" "Bits.first" (defArgs s_Bits_first) (defBody s_Bits_first) (defScope s_Bits_first) .none kV12 dc12 pm12 an12 cd12 ct12) :=
    ⟨⟨oc12, od12, .none, kV12, dc12, pm12, an12, cd12, ct12, sl12, rfl, l12, c12, (.inl ⟨rfl, rfl⟩), .inl rfl⟩, k12⟩
  have F13 : FunD K "data" "Bits.data" (defArgs s_Bits_data) (defBody s_Bits_data) (defScope s_Bits_data) [] [] A13 (PySem.W.fnOf "data" "Bits.data" (defArgs s_Bits_data) (defBody s_Bits_data) (defScope s_Bits_data) .none kV13 dc13 pm13 an13 cd13 ct13) :=
    ⟨⟨oc13, od13, .none, kV13, dc13, pm13, an13, cd13, ct13, sl13, rfl, l13, c13, (.inl ⟨rfl, rfl⟩), .inl rfl⟩, k13⟩
  have F14 : FunD K "_law_bag" "_law_bag" (defArgs s__law_bag) (defBody s__law_bag) (defScope s__law_bag) [] [] A14 (PySem.W.fnOf "_law_bag" "_law_bag" (defArgs s__law_bag) (defBody s__law_bag) (defScope s__law_bag) .none kV14 dc14 pm14 an14 cd14 ct14) :=
    ⟨⟨oc14, od14, .none, kV14, dc14, pm14, an14, cd14, ct14, sl14, rfl, l14, c14, (.inl ⟨rfl, rfl⟩), .inl rfl⟩, k14⟩
  have F15 : FunD K "_law_take" "_law_take" (defArgs s__law_take) (defBody s__law_take) (defScope s__law_take) [] [] A15 (PySem.W.fnOf "_law_take" "_law_take" (defArgs s__law_take) (defBody s__law_take) (defScope s__law_take) .none kV15 dc15 pm15 an15 cd15 ct15) :=
    ⟨⟨oc15, od15, .none, kV15, dc15, pm15, an15, cd15, ct15, sl15, rfl, l15, c15, (.inl ⟨rfl, rfl⟩), .inl rfl⟩, k15⟩
  have F16 : FunD K "_law_one" "_law_one" (defArgs s__law_one) (defBody s__law_one) (defScope s__law_one) [] [] A16 (PySem.W.fnOf "_law_one" "_law_one" (defArgs s__law_one) (defBody s__law_one) (defScope s__law_one) .none kV16 dc16 pm16 an16 cd16 ct16) :=
    ⟨⟨oc16, od16, .none, kV16, dc16, pm16, an16, cd16, ct16, sl16, rfl, l16, c16, (.inl ⟨rfl, rfl⟩), .inl rfl⟩, k16⟩
  have F17 : FunD K "_law_next" "_law_next" (defArgs s__law_next) (defBody s__law_next) (defScope s__law_next) [] [] A17 (PySem.W.fnOf "_law_next" "_law_next" (defArgs s__law_next) (defBody s__law_next) (defScope s__law_next) .none kV17 dc17 pm17 an17 cd17 ct17) :=
    ⟨⟨oc17, od17, .none, kV17, dc17, pm17, an17, cd17, ct17, sl17, rfl, l17, c17, (.inl ⟨rfl, rfl⟩), .inl rfl⟩, k17⟩
  have F18 : FunD K "_law_right" "_law_right" (defArgs s__law_right) (defBody s__law_right) (defScope s__law_right) [] [] A18 (PySem.W.fnOf "_law_right" "_law_right" (defArgs s__law_right) (defBody s__law_right) (defScope s__law_right) .none kV18 dc18 pm18 an18 cd18 ct18) :=
    ⟨⟨oc18, od18, .none, kV18, dc18, pm18, an18, cd18, ct18, sl18, rfl, l18, c18, (.inl ⟨rfl, rfl⟩), .inl rfl⟩, k18⟩
  have F19 : FunD K "law" "law" (defArgs s_law) (defBody s_law) (defScope s_law) [] [] fa (PySem.W.fnOf "law" "law" (defArgs s_law) (defBody s_law) (defScope s_law) .none kV19 dc19 pm19 an19 cd19 ct19) :=
    ⟨⟨oc19, od19, .none, kV19, dc19, pm19, an19, cd19, ct19, sl19, rfl, l19, c19, (.inl ⟨rfl, rfl⟩), .inl rfl⟩, k19⟩
  have T : Txt K mg ⟨A0, (PySem.W.fnOf "is_integer" "is_integer" (defArgs s_is_integer) (defBody s_is_integer) (defScope s_is_integer) .none kV0 dc0 pm0 an0 cd0 ct0),
      A1, (PySem.W.fnOf "in_range" "in_range" (defArgs s_in_range) (defBody s_in_range) (defScope s_in_range) .none kV1 dc1 pm1 an1 cd1 ct1),
      A2, (PySem.W.fnOf "is_byte" "is_byte" (defArgs s_is_byte) (defBody s_is_byte) (defScope s_is_byte) .none kV2 dc2 pm2 an2 cd2 ct2),
      A3, (PySem.W.fnOf "checked_data" "checked_data" (defArgs s_checked_data) (defBody s_checked_data) (defScope s_checked_data) .none kV3 dc3 pm3 an3 cd3 ct3),
      A4, (PySem.W.fnOf "__init__" "Bits.__init__" (defArgs s_Bits___init__) (defBody s_Bits___init__) (defScope s_Bits___init__) (.ref T4) kV4 dc4 pm4 an4 cd4 ct4),
      A5, (PySem.W.fnOf "of_data" "Bits.of_data" (defArgs s_Bits_of_data) (defBody s_Bits_of_data) (defScope s_Bits_of_data) .none kV5 dc5 pm5 an5 cd5 ct5),
      A6, (PySem.W.fnOf "__len__" "Bits.__len__" (defArgs s_Bits___len__) (defBody s_Bits___len__) (defScope s_Bits___len__) .none kV6 dc6 pm6 an6 cd6 ct6),
      A7, (PySem.W.fnOf "__eq__" "Bits.__eq__" (defArgs s_Bits___eq__) (defBody s_Bits___eq__) (defScope s_Bits___eq__) .none kV7 dc7 pm7 an7 cd7 ct7),
      A8, (PySem.W.fnOf "__add__" "Bits.__add__" (defArgs s_Bits___add__) (defBody s_Bits___add__) (defScope s_Bits___add__) .none kV8 dc8 pm8 an8 cd8 ct8),
      A9, (PySem.W.fnOf "__getitem__" "Bits.__getitem__" (defArgs s_Bits___getitem__) (defBody s_Bits___getitem__) (defScope s_Bits___getitem__) .none kV9 dc9 pm9 an9 cd9 ct9),
      A10, (PySem.W.fnOf "__str__" "Bits.__str__" (defArgs s_Bits___str__) (defBody s_Bits___str__) (defScope s_Bits___str__) .none kV10 dc10 pm10 an10 cd10 ct10),
      A11, (PySem.W.fnOf "each" "Bits.each" (defArgs s_Bits_each) (defBody s_Bits_each) (defScope s_Bits_each) .none kV11 dc11 pm11 an11 cd11 ct11),
      A12, (PySem.W.fnOf "first" "Bits.first" (defArgs s_Bits_first) (defBody s_Bits_first) (defScope s_Bits_first) .none kV12 dc12 pm12 an12 cd12 ct12),
      A13, (PySem.W.fnOf "data" "Bits.data" (defArgs s_Bits_data) (defBody s_Bits_data) (defScope s_Bits_data) .none kV13 dc13 pm13 an13 cd13 ct13),
      A14, (PySem.W.fnOf "_law_bag" "_law_bag" (defArgs s__law_bag) (defBody s__law_bag) (defScope s__law_bag) .none kV14 dc14 pm14 an14 cd14 ct14),
      A15, (PySem.W.fnOf "_law_take" "_law_take" (defArgs s__law_take) (defBody s__law_take) (defScope s__law_take) .none kV15 dc15 pm15 an15 cd15 ct15),
      A16, (PySem.W.fnOf "_law_one" "_law_one" (defArgs s__law_one) (defBody s__law_one) (defScope s__law_one) .none kV16 dc16 pm16 an16 cd16 ct16),
      A17, (PySem.W.fnOf "_law_next" "_law_next" (defArgs s__law_next) (defBody s__law_next) (defScope s__law_next) .none kV17 dc17 pm17 an17 cd17 ct17),
      A18, (PySem.W.fnOf "_law_right" "_law_right" (defArgs s__law_right) (defBody s__law_right) (defScope s__law_right) .none kV18 dc18 pm18 an18 cd18 ct18),
      fa, (PySem.W.fnOf "law" "law" (defArgs s_law) (defBody s_law) (defScope s_law) .none kV19 dc19 pm19 an19 cd19 ct19),
      KP4_0,
      CBits,
      P5,
      tkBits_BYTE,
      tc0⟩ :=
   ⟨F0,
    F0.bindsN fun _ _ _ _ _ _ us hl => match us, hl with | [_], _ => rfl,
    PySem.W.mg_of X G a0,
    F1,
    F1.bindsN fun _ _ _ _ _ _ us hl => match us, hl with | [_, _, _], _ => rfl,
    PySem.W.mg_of X G a1,
    F2,
    F2.bindsN fun _ _ _ _ _ _ us hl => match us, hl with | [_], _ => rfl,
    PySem.W.mg_of X G a2,
    F3,
    F3.bindsN fun _ _ _ _ _ _ us hl => match us, hl with | [_], _ => rfl,
    PySem.W.mg_of X G a3,
    F4,
    fun H => .inr ⟨_, #[], pn4_0, pl4_0, rfl, rfl, Nat.zero_le _, .nil⟩,
    bAll (F4.binds1 (ps := sP_Bits___init__) 2 1 (by simp) rfl fun _ _ _ _ _ _ _ us its hl hi => match us, its, hl, hi with | [_, _], [_], _, _ => ⟨_, rfl, rfl⟩),
    F5,
    F5.bindsN fun _ _ _ _ _ _ us hl => match us, hl with | [_, _], _ => rfl,
    F6,
    F6.bindsN fun _ _ _ _ _ _ us hl => match us, hl with | [_], _ => rfl,
    F7,
    F7.bindsN fun _ _ _ _ _ _ us hl => match us, hl with | [_, _], _ => rfl,
    F8,
    F8.bindsN fun _ _ _ _ _ _ us hl => match us, hl with | [_, _], _ => rfl,
    F9,
    F9.bindsN fun _ _ _ _ _ _ us hl => match us, hl with | [_, _], _ => rfl,
    F10,
    F10.bindsN fun _ _ _ _ _ _ us hl => match us, hl with | [_], _ => rfl,
    F11,
    F11.bindsN fun _ _ _ _ _ _ us hl => match us, hl with | [_], _ => rfl,
    F12,
    F12.bindsN fun _ _ _ _ _ _ us hl => match us, hl with | [_, _], _ => rfl,
    F13,
    F13.bindsN fun _ _ _ _ _ _ us hl => match us, hl with | [_], _ => rfl,
    F14,
    F14.bindsN fun _ _ _ _ _ _ us hl => match us, hl with | [_, _], _ => rfl,
    PySem.W.mg_of X G a14,
    F15,
    F15.bindsN fun _ _ _ _ _ _ us hl => match us, hl with | [_, _], _ => rfl,
    PySem.W.mg_of X G a15,
    F16,
    F16.bindsN fun _ _ _ _ _ _ us hl => match us, hl with | [_, _], _ => rfl,
    PySem.W.mg_of X G a16,
    F17,
    F17.bindsN fun _ _ _ _ _ _ us hl => match us, hl with | [_, _, _], _ => rfl,
    PySem.W.mg_of X G a17,
    F18,
    F18.bindsN fun _ _ _ _ _ _ us hl => match us, hl with | [_, _], _ => rfl,
    PySem.W.mg_of X G a18,
    F19,
    F19.bindsN fun _ _ _ _ _ _ us hl => match us, hl with | [_], _ => rfl,
    PySem.W.mg_of X G a19,
    F4.binds1 (ps := sP_Bits___init__) 1 0 (by simp) rfl fun _ _ _ _ _ _ _ us its hl hi => match us, its, hl, hi with | [_], [_], _, _ => ⟨_, rfl, rfl⟩,
    PySem.W.mg_of X G co0,
    PySem.W.mg_none_of X G z_isinstance,
    PySem.W.mg_none_of X G z_int,
    PySem.W.mg_none_of X G z_bool,
    PySem.W.mg_none_of X G z_enumerate,
    PySem.W.mg_none_of X G z_list,
    PySem.W.mg_none_of X G z_len,
    PySem.W.mg_none_of X G z_tuple,
    PySem.W.mg_none_of X G z_range,
    PySem.W.mg_none_of X G z_str,
    PySem.W.mg_none_of X G z_sum,
    PySem.W.mg_none_of X G z_abs,
    PySem.W.mg_none_of X G z_max,
    PySem.W.mg_none_of X G z_min,
    PySem.W.mg_of X G yg_Bits,
    ⟨ypg_Bits, yhd_Bits, ypo_Bits, ysa_Bits⟩,
    yf_row_Bits,
    ⟨yca_Bits, ecn, ect, ymr_Bits, yne_Bits, yb0_Bits, ysf_Bits, ⟨yci_Bits, ytt_Bits⟩⟩,
    ⟨ymk_Bits, a4, u4, ykc_Bits⟩,
    ⟨a5, ⟨_, u5⟩, w5⟩,
    ⟨a6, u6, k6⟩,
    ⟨a7, u7, k7⟩,
    ⟨a8, u8, k8⟩,
    ⟨a9, u9, k9⟩,
    v9,
    ⟨a10, u10, k10⟩,
    ⟨a11, u11, k11⟩,
    ⟨a12, u12, k12⟩,
    ⟨a13, u13, k13⟩,
    ⟨yrd_Bits, yra_Bits⟩,
    ⟨yv_BYTE_Bits, ⟨_, rfl⟩⟩⟩
  exact ⟨_, fun s v => F19.bindsA (ps := ["_law_script"]) (fun _ _ _ _ _ _ us hl => match us, hl with | [_], _ => rfl) s [v] rfl, fun base _ _ => ok_law T⟩
theorem walk {l : PySem.W.OpenLaw} {q : Program} {loose : List Str} {XP : (Str → Option Value) → Heap → Prop} {YP : World → Heap → Prop} {d : DefRec} {K : Params → PySem.W.Frag}
    (hn : l.most = some 63) (hdf : d.params.defaults = []) (hY : ∀ (w : World) (h : Heap), YP w h → (K w.params).In h)
    (F : ∀ (w : World) (mg : Str → Option Value) (fa : Addr) (h : Heap), (K w.params).In h → h.Ns mainGlobals mg → mg d.name = some (.ref fa) →
      ∃ fd : FuncData, (∀ (s : Shared) (u : Value), BindsTo s fd ⟨[u], []⟩ [("_law_script", u)]) ∧
        ∀ base : Heap, (K w.params).In base → base.Ns mainGlobals mg → FnG l.prog w (K w.params) mg base 8 fa fd ["_law_script"] (spLaw (K w.params))) :
    PySem.W.WalkO q loose XP YP l.row.toRowW d [] (fun f vs => PySem.call f vs) :=
  walk_G (n := 63) (k := 8) (x := "_law_script") (sp := fun w => spLaw (K w.params)) hn (by decide) hdf ⟨rfl, by decide, by decide⟩ hY F
    (fun _ _ a ns hl _ hS => ⟨a, ns, rfl, hS, hl, fun _ => rfl⟩)
end Z
open PySem PySem.W PyProof.Rows
set_option maxRecDepth 100000 in
set_option maxHeartbeats 0 in
theorem PySem.Challenge.cw_deflatehall_k04_whole_bits_by_a_model_holds : PySem.Challenge.rw_deflatehall_k04_whole_bits_by_a_model.Holds := by
  w_on; o_law; k_head; (case hw => w_witness2)
  k_fill
  refine Z.walk (l := PySem.Challenge.rw_deflatehall_k04_whole_bits_by_a_model) rfl rfl (fun w h Y => PySem.W.kIn_of Y) ?F
  case F =>
    intro w mg fa h KX G hmg
    refine' Z.all_mk KX G hmg ?a0 ?l0 ?c0 ?k0 ?a1 ?l1 ?c1 ?k1 ?a2 ?l2 ?c2 ?k2 ?a3 ?l3 ?c3 ?k3 ?yg_Bits ?ypg_Bits ?yhd_Bits ?ypo_Bits ?ysa_Bits ?ymk_Bits ?ykc_Bits ?yf_row_Bits ?yca_Bits ?ymr_Bits ?yne_Bits ?yb0_Bits ?ysf_Bits ?yci_Bits ?ytt_Bits ?yrd_Bits ?yra_Bits ?yv_BYTE_Bits ?a4 ?u4 ?l4 ?lT4 ?pl4_0 ?c4 ?k4 ?a5 ?u5 ?w5 ?l5 ?c5 ?k5 ?a6 ?u6 ?l6 ?c6 ?k6 ?a7 ?u7 ?l7 ?c7 ?k7 ?a8 ?u8 ?l8 ?c8 ?k8 ?a9 ?u9 ?v9 ?l9 ?c9 ?k9 ?a10 ?u10 ?l10 ?c10 ?k10 ?a11 ?u11 ?l11 ?c11 ?k11 ?a12 ?u12 ?l12 ?c12 ?k12 ?a13 ?u13 ?l13 ?c13 ?k13 ?a14 ?l14 ?c14 ?k14 ?a15 ?l15 ?c15 ?k15 ?a16 ?l16 ?c16 ?k16 ?a17 ?l17 ?c17 ?k17 ?a18 ?l18 ?c18 ?k18 ?a19 ?l19 ?c19 ?k19 ?co0 ?z_isinstance ?z_int ?z_bool ?z_enumerate ?z_list ?z_len ?z_tuple ?z_range ?z_str ?z_sum ?z_abs ?z_max ?z_min ?ecn ?ect ?evv
    (case a0 => k_is)
    (case l0 => k_is)
    (case c0 => k_is)
    (case k0 => k_is)
    (case a1 => k_is)
    (case l1 => k_is)
    (case c1 => k_is)
    (case k1 => k_is)
    (case a2 => k_is)
    (case l2 => k_is)
    (case c2 => k_is)
    (case k2 => k_is)
    (case a3 => k_is)
    (case l3 => k_is)
    (case c3 => k_is)
    (case k3 => k_is)
    (case yg_Bits => k_is)
    (case ypg_Bits => k_is)
    (case yhd_Bits => k_is)
    (case ypo_Bits => k_is)
    (case ysa_Bits => k_is)
    (case ymk_Bits => k_is)
    (case ykc_Bits => k_is)
    (case yf_row_Bits => k_is)
    (case yca_Bits => k_is)
    (case ymr_Bits => k_is)
    (case yne_Bits => k_is)
    (case yb0_Bits => k_is)
    (case ysf_Bits => k_is)
    (case yci_Bits => first | k_is | kernel_rfl)
    (case ytt_Bits => k_is)
    (case yrd_Bits => k_is)
    (case yra_Bits => k_is)
    (case yv_BYTE_Bits => k_is)
    (case a4 => k_is)
    (case u4 => k_is)
    (case l4 => k_is)
    (case lT4 => k_is)
    (case pl4_0 => k_is)
    (case c4 => k_is)
    (case k4 => k_is)
    (case a5 => k_is)
    (case u5 => k_is)
    (case w5 => k_is)
    (case l5 => k_is)
    (case c5 => k_is)
    (case k5 => k_is)
    (case a6 => k_is)
    (case u6 => k_is)
    (case l6 => k_is)
    (case c6 => k_is)
    (case k6 => k_is)
    (case a7 => k_is)
    (case u7 => k_is)
    (case l7 => k_is)
    (case c7 => k_is)
    (case k7 => k_is)
    (case a8 => k_is)
    (case u8 => k_is)
    (case l8 => k_is)
    (case c8 => k_is)
    (case k8 => k_is)
    (case a9 => k_is)
    (case u9 => k_is)
    (case v9 => k_is)
    (case l9 => k_is)
    (case c9 => k_is)
    (case k9 => k_is)
    (case a10 => k_is)
    (case u10 => k_is)
    (case l10 => k_is)
    (case c10 => k_is)
    (case k10 => k_is)
    (case a11 => k_is)
    (case u11 => k_is)
    (case l11 => k_is)
    (case c11 => k_is)
    (case k11 => k_is)
    (case a12 => k_is)
    (case u12 => k_is)
    (case l12 => k_is)
    (case c12 => k_is)
    (case k12 => k_is)
    (case a13 => k_is)
    (case u13 => k_is)
    (case l13 => k_is)
    (case c13 => k_is)
    (case k13 => k_is)
    (case a14 => k_is)
    (case l14 => k_is)
    (case c14 => k_is)
    (case k14 => k_is)
    (case a15 => k_is)
    (case l15 => k_is)
    (case c15 => k_is)
    (case k15 => k_is)
    (case a16 => k_is)
    (case l16 => k_is)
    (case c16 => k_is)
    (case k16 => k_is)
    (case a17 => k_is)
    (case l17 => k_is)
    (case c17 => k_is)
    (case k17 => k_is)
    (case a18 => k_is)
    (case l18 => k_is)
    (case c18 => k_is)
    (case k18 => k_is)
    (case a19 => k_is)
    (case l19 => k_is)
    (case c19 => k_is)
    (case k19 => k_is)
    (case co0 => k_is)
    (case z_isinstance => k_is)
    (case z_int => k_is)
    (case z_bool => k_is)
    (case z_enumerate => k_is)
    (case z_list => k_is)
    (case z_len => k_is)
    (case z_tuple => k_is)
    (case z_range => k_is)
    (case z_str => k_is)
    (case z_sum => k_is)
    (case z_abs => k_is)
    (case z_max => k_is)
    (case z_min => k_is)
    (case ecn => k_is)
    (case ect => k_is)
    (case evv => k_is)
