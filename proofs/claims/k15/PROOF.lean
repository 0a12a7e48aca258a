import PyProof.Rows.All
import PySem.Challenge.RW_walkbox_k15_whole_thing_texts
import Wide.All
import OpenK.AllK
import Wide.FinOn
import HandS.ForMost
import HandS.ForExc
import HandS.IsInst
import HandS.Wide
import HandS.TupAny
import HandS.Walk
import HandS.Defaults
import HandS.Strs
import HandS.SetFor
import HandS.CallLocal
import HandS.HeadHook3
import KE.GoesMore
import HandS.NoneIn
import HandS.HeadEnd
import PyProof.ReprRoads
import KE.KUnpackStar
import HandS.RaiseMore
import HandS.MakeKwOnly
import HandS.Text
import PyProof.ReprLen
import HandS.DictSub
import HandS.TupLe
import HandS.HeadHook2
import KE.KStateDown
import HandS.More
import HandS.Head0
import HandS.Head1
import HandS.Head2
import HandS.HeadHook1
import Wide.Once
set_option Elab.async false
set_option linter.all false
set_option maxRecDepth 100000
set_option maxHeartbeats 0
/-! WB1: a small logic over the hand layer: what is frozen (G), what may change (L); data; calls by name. -/
namespace WB
open PySem L2

/-! ### the heap: G what stands for good, L what may change, all apart -/
structure SH (G : Hp) (L : List (Addr × HO)) (H : Hp) : Prop where
  same : ∀ b o, G b = some o → H b = some o
  nd : (L.map (·.1)).Nodup
  at_ : ∀ c ∈ L, H c.1 = some c.2
  fr : ∀ c ∈ L, G c.1 = none
theorem same_upd {G : Hp} {p : Addr} {o : HO} (h : G p = none) : Same G (upd G p o) := fun b u e => by
  rw [upd_ne (ne_of_none e h)]; exact e
section
variable {G G' H H' : Hp} {L L' : List (Addr × HO)} {p : Addr} {o o' : HO} {c : Addr × HO}
theorem SH.free (s : SH G L H) (h : H p = none) : G p = none := by
  cases e : G p with
  | none => rfl
  | some u => rw [s.same p u e] at h; cases h
theorem SH.new (s : SH G L H) (h : H p = none) (o : HO) : SH G ((p, o) :: L) (upd H p o) := by
  have hp : ∀ c ∈ L, c.1 ≠ p := fun c hc z => by have := s.at_ c hc; rw [z, h] at this; cases this
  refine ⟨fun b u e => ?_, ?_, fun c hc => ?_, fun c hc => ?_⟩
  · rw [upd_ne (ne_of_none (s.same b u e) h)]; exact s.same b u e
  · rw [List.map_cons, List.nodup_cons]
    refine ⟨fun hm => ?_, s.nd⟩
    obtain ⟨c, hc, e⟩ := List.mem_map.mp hm
    exact hp c hc e
  · rcases List.mem_cons.mp hc with rfl | hc
    · exact upd_same
    · rw [upd_ne (hp c hc)]; exact s.at_ c hc
  · rcases List.mem_cons.mp hc with rfl | hc
    · exact s.free h
    · exact s.fr c hc
theorem SH.freeze (s : SH G ((p, o) :: L) H) : SH (upd G p o) L H := by
  have n := List.nodup_cons.mp s.nd
  refine ⟨fun b u e => ?_, n.2, fun c hc => s.at_ c (List.mem_cons_of_mem _ hc), fun c hc => ?_⟩
  · by_cases hb : b = p
    · subst hb; rw [upd_same] at e; cases e; exact s.at_ _ List.mem_cons_self
    · rw [upd_ne hb] at e; exact s.same b u e
  · have hcp : c.1 ≠ p := fun z => n.1 (List.mem_map.mpr ⟨c, hc, z⟩)
    rw [upd_ne hcp]; exact s.fr c (List.mem_cons_of_mem _ hc)
theorem SH.gnone (s : SH G ((p, o) :: L) H) : G p = none := s.fr _ List.mem_cons_self
theorem SH.froz (s : SH G L H) (h : H p = none) (o : HO) : SH (upd G p o) L (upd H p o) := (s.new h o).freeze
theorem SH.put (s : SH G ((p, o) :: L) H) (o' : HO) : SH G ((p, o') :: L) (upd H p o') := by
  have n := List.nodup_cons.mp s.nd
  refine ⟨fun b u e => ?_, s.nd, fun c hc => ?_, fun c hc => ?_⟩
  · rw [upd_ne (ne_of_none e (s.fr _ List.mem_cons_self))]; exact s.same b u e
  · rcases List.mem_cons.mp hc with rfl | hc
    · exact upd_same
    · have hcp : c.1 ≠ p := fun z => n.1 (List.mem_map.mpr ⟨c, hc, z⟩)
      rw [upd_ne hcp]; exact s.at_ c (List.mem_cons_of_mem _ hc)
  · rcases List.mem_cons.mp hc with rfl | hc
    · exact s.fr (p, o) List.mem_cons_self
    · exact s.fr c (List.mem_cons_of_mem _ hc)
theorem SH.perm (s : SH G L H) (h : L.Perm L') : SH G L' H :=
  ⟨s.same, (h.map _).nodup_iff.mp s.nd, fun c hc => s.at_ c (h.mem_iff.mpr hc), fun c hc => s.fr c (h.mem_iff.mpr hc)⟩
theorem SH.drop (s : SH G (c :: L) H) : SH G L H :=
  ⟨s.same, (List.nodup_cons.mp s.nd).2, fun d hd => s.at_ d (List.mem_cons_of_mem _ hd), fun d hd => s.fr d (List.mem_cons_of_mem _ hd)⟩
theorem SH.dropL (s : SH G (L' ++ L) H) : SH G L H := by
  induction L' with
  | nil => exact s
  | cons c r ih => exact ih s.drop
theorem SH.hd (s : SH G ((p, o) :: L) H) : H p = some o := s.at_ _ List.mem_cons_self
theorem SH.swap {d : Addr × HO} (s : SH G (c :: d :: L) H) : SH G (d :: c :: L) H := s.perm (List.Perm.swap ..)
theorem SH.rot (s : SH G (L ++ L') H) : SH G (L' ++ L) H := s.perm List.perm_append_comm
/-- a frozen thing that is not needed may be forgotten -/
theorem SH.fewer (s : SH G L H) (h : Same G' G) : SH G' L H :=
  ⟨fun b u e => s.same b u (h b u e), s.nd, s.at_, fun c hc => by
    cases e : G' c.1 with
    | none => rfl
    | some u => have := s.fr c hc; rw [h _ _ e] at this; cases this⟩
theorem SH.refl (H : Hp) : SH H [] H := ⟨fun _ _ e => e, List.nodup_nil, fun _ h => (by cases h), fun _ h => (by cases h)⟩
end

/-! ### data -/
section
variable {K : PySem.W.Frag} {G H : Hp}
theorem sqT_mono {a : Addr} {xs : List V} (e : Same G H) (h : SqT K G a xs) : SqT K H a xs := by
  rcases h with (h | ⟨o, h⟩) | h
  · exact .inl (.inl (e _ _ h))
  · exact .inl (.inr ⟨o, e _ _ h⟩)
  · exact .inr h
mutual
theorem dp_mono (e : Same G H) : ∀ (d : PyData) (v : V), Dp K G v d → Dp K H v d
  | .none, _, h => by cases h; exact .non
  | .bool b, _, h => by cases h; exact .bl b
  | .int i, _, h => by cases h; exact .int i
  | .str x, _, h => by cases h; exact .str x
  | .list ds, _, h => by
    cases h with
    | lst hs ha => exact .lst (e.seq hs) (dpAll_mono e ds _ ha)
  | .tuple ds, _, h => by
    cases h with
    | tup hs ha => exact .tup (sqT_mono e hs) (dpAll_mono e ds _ ha)
  | .dict _, _, h => by cases h
theorem dpAll_mono (e : Same G H) : ∀ (ds : List PyData) (vs : List V), DpAll K G vs ds → DpAll K H vs ds
  | [], _, h => by cases h; exact .nil
  | d :: ds, _, h => by
    cases h with
    | cons h1 h2 => exact .cons (dp_mono e d _ h1) (dpAll_mono e ds _ h2)
end
theorem Dpm {d : PyData} {v : V} (e : Same G H) (h : Dp K G v d) : Dp K H v d := dp_mono e d v h
theorem SH.dp {L : List (Addr × HO)} {d : PyData} {v : V} (s : SH G L H) (h : Dp K G v d) : Dp K H v d := dp_mono s.same d v h
theorem SH.sqL {L : List (Addr × HO)} {a : Addr} {xs : List V} (s : SH G L H) (h : SqL K G a xs) : SqL K H a xs := Same.seq s.same h
theorem SH.sqT {L : List (Addr × HO)} {a : Addr} {xs : List V} (s : SH G L H) (h : SqT K G a xs) : SqT K H a xs := sqT_mono s.same h
end

/-! ### calls by name -/
section
variable (P : Program) (w : World) (K : PySem.W.Frag) (mg : Str → Option Value) (base : Heap)
structure Cal (CX : CXT) (k : Nat) (x : Str) (ps : List Str) (sp : Sp) : Prop where
  ex : ∃ f fd, mg x = some (.ref f) ∧ PySem.W.keepIn K (.ref f) = true ∧ Binds K fd ps [] ∧ FnOk P w K mg base CX k f fd ps sp
end
section
variable {X : Cx} {CX : CXT} {k j : Nat} {x : Str} {ps : List Str} {sp : Sp} {E : XK} {p pos : Pos} {e : Expr} {es : List Expr} {t : TA}
theorem Cal.pe (c : Cal X.prog X.w X.K X.mg X.base CX0 k x ps sp) (hr : Room j X.A) (hg : Gl X x) (ha : PA X (e :: es) t) (hk : k ≤ j := by decide)
    (hdb : (x == ("__debug__" : Str)) = false := by decide) (he : starEach (e :: es) X.env = (false, eval e X.env) :: starEach es X.env := by rfl) (hpl : (backTo pos (starEach es X.env)).any (·.1) = false := by rfl) :
    PE X (.Call (.Name x p) (e :: es) [] pos) (tCall sp [] E0 t) := by
  obtain ⟨f, fd, h1, h2, h3, h4⟩ := c.ex
  exact pe_call h4 (hr.mono hk) hg h1 h2 h3 .nil pass0 ha hdb he hpl
end
end WB
/-! WB2: the readings, one turn a lemma. -/
namespace WB
open PySem L2
def NewL (xs : List V) (H : Hp) (Q : VK) : Prop := xs.length ≤ sizeLine ∧ ∀ p, H p = none → Q (.ref p) (upd H p (.lst xs))
def NewT (xs : List V) (H : Hp) (Q : VK) : Prop := xs.length ≤ sizeLine ∧ ∀ p, H p = none → Q (.ref p) (upd H p (.tup xs))
section
variable {σ : L2.St} {H : Hp} {Q : VK} {D : Ends} {K : PySem.W.Frag} {i : Nat} {v x y : V} {ta tb te tc : TE} {t u : TT} {ts us : TS} {tr : TA} {g : TG} {QB : Bool → Hp → Prop} {QA : List V → Hp → Prop} {QS : L2.St → Hp → Prop}
theorem w_var (h : σ[i]? = some (some v)) (q : Q v H) : tVar i σ H Q := ⟨v, h, q⟩
theorem w_c (q : Q v H) : tC v σ H Q := q
theorem w_op {r : R2} (h : ta σ H fun x H1 => tb σ H1 fun y H2 => r x y H2 Q) : tOp r ta tb σ H Q := h
theorem w_un {r : V → Hp → VK → Prop} (h : ta σ H fun x H1 => r x H1 Q) : tUn r ta σ H Q := h
theorem w_tup (h : tr σ H fun xs H1 => NewT xs H1 Q) : tTup tr σ H Q := h
theorem w_lst (h : tr σ H fun xs H1 => NewL xs H1 Q) : tLst tr σ H Q := h
theorem w_cons (h : ta σ H fun x H1 => tr σ H1 fun xs H2 => QA (x :: xs) H2) : tCons ta tr σ H QA := h
theorem w_nil (h : QA [] H) : tNil σ H QA := h
theorem w_call {sp : Sp} {E : XK} (h : tr σ H fun vs H1 => sp vs H1 Q E) : tCall sp [] E tr σ H Q := by
  show tr σ H fun vs H1 => sp (vs ++ []) H1 Q E
  have e : (fun vs H1 => sp (vs ++ []) H1 Q E) = fun vs H1 => sp vs H1 Q E := by funext vs H1; rw [List.append_nil]
  rw [e]; exact h
theorem w_cb {r : List V → Hp → VK → Prop} (h : tr σ H fun vs H1 => r vs H1 Q) : tCB r tr σ H Q := h
theorem w_test (h : te σ H fun x H1 => ∃ k, x = .bl k ∧ QB k H1) : tTest te σ H QB := h
theorem w_B (h : te σ H fun x H1 => ∃ k, x = .bl k ∧ QB k H1) : tB te σ H QB := h
theorem w_and (h : t σ H fun c H1 => if c = true then u σ H1 QB else QB false H1) : tAnd t u σ H QB := h
theorem w_or (h : t σ H fun c H1 => if c = true then QB true H1 else u σ H1 QB) : tOr t u σ H QB := h
theorem w_not (h : t σ H fun c H1 => QB (!c) H1) : tNot t σ H QB := h
theorem w_andV (h : ta σ H fun x H1 => ∃ c, x = .bl c ∧ if c = true then tb σ H1 Q else Q (.bl false) H1) : tAndV ta tb σ H Q := h
theorem w_orV (h : ta σ H fun x H1 => ∃ c, x = .bl c ∧ if c = true then Q (.bl true) H1 else tb σ H1 Q) : tOrV ta tb σ H Q := h
theorem w_notV (h : ta σ H fun x H1 => ∃ c, x = .bl c ∧ Q (.bl (!c)) H1) : tNotV ta σ H Q := h
theorem w_if (h : t σ H fun c H1 => if c = true then ta σ H1 Q else tb σ H1 Q) : tIf t ta tb σ H Q := h
theorem w_ifS (h : t σ H fun b H1 => if b = true then ts D σ H1 else us D σ H1) : tIfS t ts us D σ H := h
theorem w_seq (h : ts { D with nx := us D } σ H) : tSeq ts us D σ H := h
theorem w_next (h : D.nx σ H) : tNext D σ H := h
theorem w_asg (h : te σ H fun x H1 => g x σ H1 D.nx) : tAsg te g D σ H := h
theorem w_name (h : QS (σ.set i (some v)) H) : gName i v σ H QS := h
theorem w_ret (h : te σ H D.rt) : tRet te D σ H := h
theorem w_retN (h : D.rt .non H) : tRetN D σ H := h
theorem w_drop (h : te σ H fun _ H1 => D.nx σ H1) : tDrop te D σ H := h
theorem w_gsub {to ti : TE} {st : TSet} (h : to σ H fun o H1 => ti σ H1 fun i H2 => st o i v H2 fun H3 => QS σ H3) : gSub to ti st v σ H QS := h
theorem w_chain {r r' : R2} (h : ta σ H fun x H1 => tb σ H1 fun y H2 => r x y H2 fun z H3 => ∃ k, z = .bl k ∧ (if k = true then tc σ H3 fun w' H4 => r' y w' H4 Q else Q (.bl false) H3)) : tChain r r' ta tb tc σ H Q := h
theorem w_sl {r : V → Option Int → Option Int → Hp → VK → Prop} {tl th : TO} (h : te σ H fun x H1 => tl σ H1 fun l H2 => th σ H2 fun u H3 => r x l u H3 Q) : tSl r te tl th σ H Q := h
theorem w_noPart {QO : Option Int → Hp → Prop} (h : QO none H) : tNoPart σ H QO := h
theorem w_part {QO : Option Int → Hp → Prop} (h : te σ H fun x H1 => ∃ i, x = .int i ∧ QO (some i) H1) : tPart te σ H QO := h
theorem w_bm {T : String} {r : V → List V → Hp → VK → Prop} (h : te σ H fun x H1 => tyV K T x H1 ∧ tr σ H1 fun xs H2 => r x xs H2 Q) : tBM K T r te tr σ H Q := h
theorem w_bm0 {T : String} {r : V → List V → Hp → VK → Prop} (h : te σ H fun x H1 => tyV K T x H1 ∧ r x [] H1 Q) : tBM0 K T r te σ H Q := h
theorem nx_mk {a b d : L2.St → Hp → Prop} {r : VK} (h : a σ H) : (Ends.mk a r b d).nx σ H := h
theorem bk_mk {a b d : L2.St → Hp → Prop} {r : VK} (h : b σ H) : (Ends.mk a r b d).bk σ H := h
theorem ct_mk {a b d : L2.St → Hp → Prop} {r : VK} (h : d σ H) : (Ends.mk a r b d).ct σ H := h
theorem rt_mk {a b d : L2.St → Hp → Prop} {r : VK} (h : r v H) : (Ends.mk a r b d).rt v H := h
-- values
theorem bl_ex {P : Bool → Prop} {b : Bool} (h : P b) : ∃ k, V.bl b = .bl k ∧ P k := ⟨b, rfl, h⟩
theorem int_ex {P : Int → Prop} {b : Int} (h : P b) : ∃ k, V.int b = .int k ∧ P k := ⟨b, rfl, h⟩
theorem if_t {A B : Prop} (h : A) : if true = true then A else B := by rw [if_pos rfl]; exact h
theorem if_f {A B : Prop} (h : B) : if false = true then A else B := by rw [if_neg Bool.false_ne_true]; exact h
theorem if_nt {A B : Prop} (h : B) : if (!true) = true then A else B := if_f h
theorem if_nf {A B : Prop} (h : A) : if (!false) = true then A else B := if_t h
theorem if_nb {b : Bool} {A B : Prop} (h1 : b = false → A) (h2 : b = true → B) : if (!b) = true then A else B := by
  cases b with
  | true => exact if_nt (h2 rfl)
  | false => exact if_nf (h1 rfl)
theorem if_b {b : Bool} {A B : Prop} (h1 : b = true → A) (h2 : b = false → B) : if b = true then A else B := by
  cases b with
  | true => exact if_t (h1 rfl)
  | false => exact if_f (h2 rfl)
-- operators
theorem o_I0 {f : Int → Int → V} {a b : Int} (q : Q (f a b) H) : rI0 f (.int a) (.int b) H Q := ⟨a, b, rfl, rfl, q⟩
theorem o_I {C : Int → Int → Prop} {f : Int → Int → V} {a b : Int} (hc : C a b) (q : Q (f a b) H) : rI C f (.int a) (.int b) H Q := ⟨a, b, rfl, rfl, hc, q⟩
theorem o_U {f : Int → V} {a : Int} (q : Q (f a) H) : rU f (.int a) H Q := ⟨a, rfl, q⟩
theorem o_eqD {d e : PyData} (hd : Dp K H x d) (he : Dp K H y e) (sd : SeqAt.shaped d = true) (se : SeqAt.shaped e = true) (q : Q (.bl (PyData.eqv d e)) H) : rEqD K x y H Q := ⟨d, e, hd, he, sd, se, q⟩
theorem o_neD {d e : PyData} (hd : Dp K H x d) (he : Dp K H y e) (sd : SeqAt.shaped d = true) (se : SeqAt.shaped e = true) (q : Q (.bl (!PyData.eqv d e)) H) : rNeD K x y H Q := ⟨d, e, hd, he, sd, se, q⟩
theorem o_eq (hs : scal x y = true) (q : Q (.bl (decide (x = y))) H) : rEq x y H Q := ⟨hs, q⟩
theorem o_ne (hs : scal x y = true) (q : Q (.bl (!decide (x = y))) H) : rNe x y H Q := ⟨hs, q⟩
theorem o_ixL {p : Addr} {xs : List V} {k : Int} (h : SqL K H p xs) (a : atI xs k = some v) (q : Q v H) : rIx K (.ref p) (.int k) H Q := .inl ⟨p, xs, k, v, rfl, rfl, h, a, q⟩
theorem o_ixT {p : Addr} {xs : List V} {k : Int} (h : SqT K H p xs) (a : atI xs k = some v) (q : Q v H) : rIx K (.ref p) (.int k) H Q := .inr (.inl ⟨p, xs, k, v, rfl, rfl, h, a, q⟩)
theorem o_ixS {z : Str} {k : Int} {c : Nat} (h : z.length ≤ sizeLine) (a : atI z.cps.toList k = some c) (q : Q (.str ⟨#[c]⟩) H) : rIx K (.str z) (.int k) H Q := .inr (.inr ⟨z, k, c, rfl, rfl, h, a, q⟩)
theorem o_setL {p : Addr} {xs : List V} {k : Int} {j : Nat} {QH : Hp → Prop} (h : H p = some (.lst xs)) (a : ixN xs.length k = some j) (q : QH (upd H p (.lst (xs.set j v)))) : rSetL (.ref p) (.int k) v H QH := ⟨p, xs, k, j, rfl, rfl, h, a, q⟩
theorem o_append {p : Addr} {xs : List V} (h : H p = some (.lst xs)) (a : xs.length < sizeLine) (q : Q .non (upd H p (.lst (xs ++ [y])))) : rAppend (.ref p) [y] H Q := ⟨p, xs, y, rfl, rfl, h, a, q⟩
theorem sz (n : Nat) (h : n ≤ 16777216 := by first | decide | omega) : n ≤ sizeLine := by rw [sizeLine_eq]; exact h
theorem szl (n : Nat) (h : n < 16777216 := by first | decide | omega) : n < sizeLine := by rw [sizeLine_eq]; exact h
end
end WB
/-! WB3: data with empty dicts; their kinds; == with a text; in a row of texts. -/
namespace PySem.SeqAt
open PySem
theorem dict_eq_declines_str (l : Addr) (es : Array DictEntry) (n : Nat) (dd : Option Addr) (sl : Array (Option Value)) (b : Str) (u : Tok) :
    Meets (Builtin.«dict.__eq__» ⟨[.ref l, .str b u], []⟩) (fun _ R s => s.heap.get? l = some { cls := .type "dict", dict := dd, data := .dict es n, slots := sl } ∧ R (.ok (.ret .notImplemented)) s) :=
  .of_wp fun prog w A R s h => by obtain ⟨hp, g, d, tk, os⟩ := s; obtain ⟨hl, h⟩ := h; have f1 := F.sub_str_dict; wp_walk using wpAny_loadPart' hl; exact ⟨_, rfl, h⟩
theorem str_eq_declines_dict_str (b : Str) (u : Tok) (l : Addr) (c : Value) (es : Array DictEntry) (n : Nat) (dd : Option Addr) (sl : Array (Option Value)) :
    Meets (Builtin.«str.__eq__» ⟨[.str b u, .ref l], []⟩) (fun _ R s => s.heap.get? l = some { cls := c, dict := dd, data := .dict es n, slots := sl } ∧ R (.ok (.ret .notImplemented)) s) :=
  .of_wp fun prog w A R s h => by obtain ⟨hp, g, d, tk, os⟩ := s; obtain ⟨hl, h⟩ := h; wp_walk using wpAny_loadPart' hl, wpAny_load hl; exact ⟨_, rfl, h⟩
section
variable {A : Around} {s : Shared}
theorem sub_dict_str' : isSubtype (.type "dict") (.type "str") = pure false := by rw [isSubtype_type]; kernel_rfl
theorem RcAt.dict_str {l : Addr} {es : Array DictEntry} {n : Nat} {dd : Option Addr} {sl : Array (Option Value)} (b : Str) (u : Tok) (ho : s.heap.get? l = some { cls := .type "dict", dict := dd, data := .dict es n, slots := sl }) (hu : A.units < cLine) : RcAt A s (.ref l) (.str b u) false := fun prog w E Q h => by
  exact rc_eq_decline_or (k := false) ⟨_, ho, rfl⟩ (typeIs_str s b u) (by decide) F.sub_str_dict F.slot_dict_eq F.slot_str_eq_refl
    (fun _ hq => call_meets F.slot_dict_eq ⟨_, ho, rfl⟩ F.entry_dict_eq (F.args_dict_eq_2 _ _) (dict_eq_declines_str l es n dd sl b u) ⟨ho, hq⟩)
    (fun _ hq => call_meets F.slot_str_eq_refl (typeIs_str s b u) F.entry_str_eq (F.args_str_eq_2 _ _) (str_eq_declines_dict_str b u l (.type "dict") es n dd sl) ⟨ho, hq⟩)
    (fun _ hq => wpAny_of_eq (rfl : isSame (.ref l) (.str b u) = pure false) hq) (.inr hu) h
theorem EqAt.dict_str {l : Addr} {es : Array DictEntry} {n : Nat} {dd : Option Addr} {sl : Array (Option Value)} (b : Str) (u : Tok) (ho : s.heap.get? l = some { cls := .type "dict", dict := dd, data := .dict es n, slots := sl }) (hu : A.units < cLine) : EqAt A s (.ref l) (.str b u) false := fun prog w E Q h => by
  unfold eqBool
  refine wpAny_holding ?_
  refine wpAny_ite_split (fun hab => absurd (eq_of_beq hab) nofun) (fun _ => ?_)
  exact wpAny_bind (RcAt.dict_str b u ho hu prog w E _ (wpAny_truthy_bool h))
theorem RcAt.str_dict {l : Addr} {es : Array DictEntry} {n : Nat} {dd : Option Addr} {sl : Array (Option Value)} (b : Str) (u : Tok) (ho : s.heap.get? l = some { cls := .type "dict", dict := dd, data := .dict es n, slots := sl }) (hu : A.units < cLine) : RcAt A s (.str b u) (.ref l) false := fun prog w E Q h => by
  exact rc_eq_decline_or (k := false) (typeIs_str s b u) ⟨_, ho, rfl⟩ (by decide) sub_dict_str' F.slot_str_eq F.slot_dict_eq_refl
    (fun _ hq => call_meets F.slot_str_eq (typeIs_str s b u) F.entry_str_eq (F.args_str_eq_2 _ _) (str_eq_declines_dict_str b u l (.type "dict") es n dd sl) ⟨ho, hq⟩)
    (fun _ hq => call_meets F.slot_dict_eq_refl ⟨_, ho, rfl⟩ F.entry_dict_eq (F.args_dict_eq_2 _ _) (dict_eq_declines_str l es n dd sl b u) ⟨ho, hq⟩)
    (fun _ hq => wpAny_of_eq (rfl : isSame (.str b u) (.ref l) = pure false) hq) (.inr hu) h
theorem EqAt.str_dict {l : Addr} {es : Array DictEntry} {n : Nat} {dd : Option Addr} {sl : Array (Option Value)} (b : Str) (u : Tok) (ho : s.heap.get? l = some { cls := .type "dict", dict := dd, data := .dict es n, slots := sl }) (hu : A.units < cLine) : EqAt A s (.str b u) (.ref l) false := fun prog w E Q h => by
  unfold eqBool
  refine wpAny_holding ?_
  refine wpAny_ite_split (fun hab => absurd (eq_of_beq hab) nofun) (fun _ => ?_)
  exact wpAny_bind (RcAt.str_dict b u ho hu prog w E _ (wpAny_truthy_bool h))
end
end PySem.SeqAt
namespace WB
open PySem L2
/-! ### data, empty dicts among them -/
mutual
inductive Dq (K : PySem.W.Frag) (H : Hp) : V → PyData → Prop
  | non : Dq K H .non .none
  | bl (b : Bool) : Dq K H (.bl b) (.bool b)
  | int (i : Int) : Dq K H (.int i) (.int i)
  | str (x : Str) : Dq K H (.str x) (.str x)
  | lst {a : Addr} {xs : List V} {ds : List PyData} : SqL K H a xs → DqAll K H xs ds → Dq K H (.ref a) (.list ds)
  | tup {a : Addr} {xs : List V} {ds : List PyData} : SqT K H a xs → DqAll K H xs ds → Dq K H (.ref a) (.tuple ds)
  | dct {a : Addr} : H a = some (.dK []) → Dq K H (.ref a) (.dict [])
inductive DqAll (K : PySem.W.Frag) (H : Hp) : List V → List PyData → Prop
  | nil : DqAll K H [] []
  | cons {v : V} {vs : List V} {d : PyData} {ds : List PyData} : Dq K H v d → DqAll K H vs ds → DqAll K H (v :: vs) (d :: ds)
end
section
variable {K : PySem.W.Frag} {G H : Hp}
mutual
theorem dq_mono (e : Same G H) : ∀ (d : PyData) (v : V), Dq K G v d → Dq K H v d
  | .none, _, h => by cases h; exact .non
  | .bool b, _, h => by cases h; exact .bl b
  | .int i, _, h => by cases h; exact .int i
  | .str x, _, h => by cases h; exact .str x
  | .list ds, _, h => by
    cases h with
    | lst hs ha => exact .lst (e.seq hs) (dqAll_mono e ds _ ha)
  | .tuple ds, _, h => by
    cases h with
    | tup hs ha => exact .tup (sqT_mono e hs) (dqAll_mono e ds _ ha)
  | .dict _, _, h => by
    cases h with
    | dct hd => exact .dct (e _ _ hd)
theorem dqAll_mono (e : Same G H) : ∀ (ds : List PyData) (vs : List V), DqAll K G vs ds → DqAll K H vs ds
  | [], _, h => by cases h; exact .nil
  | d :: ds, _, h => by
    cases h with
    | cons h1 h2 => exact .cons (dq_mono e d _ h1) (dqAll_mono e ds _ h2)
end
mutual
theorem dq_of : ∀ (d : PyData) (v : V), Dp K G v d → Dq K G v d
  | .none, _, h => by cases h; exact .non
  | .bool b, _, h => by cases h; exact .bl b
  | .int i, _, h => by cases h; exact .int i
  | .str x, _, h => by cases h; exact .str x
  | .list ds, _, h => by
    cases h with
    | lst hs ha => exact .lst hs (dqAll_of ds _ ha)
  | .tuple ds, _, h => by
    cases h with
    | tup hs ha => exact .tup hs (dqAll_of ds _ ha)
  | .dict _, _, h => by cases h
theorem dqAll_of : ∀ (ds : List PyData) (vs : List V), DpAll K G vs ds → DqAll K G vs ds
  | [], _, h => by cases h; exact .nil
  | d :: ds, _, h => by
    cases h with
    | cons h1 h2 => exact .cons (dq_of d _ h1) (dqAll_of ds _ h2)
end
theorem SH.dq {L : List (Addr × HO)} {d : PyData} {v : V} (s : SH G L H) (h : Dq K G v d) : Dq K H v d := dq_mono s.same d v h
theorem Dqm {d : PyData} {v : V} (e : Same G H) (h : Dq K G v d) : Dq K H v d := dq_mono e d v h
theorem DqAll.length : ∀ {vs : List V} {ds : List PyData}, DqAll K G vs ds → vs.length = ds.length
  | _, _, .nil => rfl
  | _, _, .cons _ t => congrArg Nat.succ t.length
theorem DqAll.get : ∀ {vs : List V} {ds : List PyData} {i : Nat} {d : PyData}, DqAll K G vs ds → ds[i]? = some d → ∃ v, vs[i]? = some v ∧ Dq K G v d
  | _, _, i, _, .nil, h => by simp at h
  | _, _, 0, _, .cons h1 _, h => by cases h; exact ⟨_, rfl, h1⟩
  | _, _, i + 1, _, .cons _ h2, h => h2.get (i := i) h
theorem DqAll.append : ∀ {vs ws : List V} {ds es : List PyData}, DqAll K G vs ds → DqAll K G ws es → DqAll K G (vs ++ ws) (ds ++ es)
  | _, _, _, _, .nil, h => h
  | _, _, _, _, .cons h1 h2, h => .cons h1 (h2.append h)
theorem DqAll.take : ∀ {vs : List V} {ds : List PyData} (n : Nat), DqAll K G vs ds → DqAll K G (vs.take n) (ds.take n)
  | _, _, 0, _ => .nil
  | _, _, _ + 1, .nil => .nil
  | _, _, n + 1, .cons h1 h2 => .cons h1 (h2.take n)
theorem DqAll.drop : ∀ {vs : List V} {ds : List PyData} (n : Nat), DqAll K G vs ds → DqAll K G (vs.drop n) (ds.drop n)
  | _, _, 0, h => h
  | _, _, _ + 1, .nil => .nil
  | _, _, n + 1, .cons _ h2 => h2.drop n
end
/-! ### kinds -/
def tyName : PyData → String
  | .none => "NoneType" | .bool _ => "bool" | .int _ => "int" | .str _ => "str" | .list _ => "list" | .tuple _ => "tuple" | .dict _ => "dict"
theorem sqL_ty {K : PySem.W.Frag} {H : Hp} {a : Addr} {xs : List V} (h : SqL K H a xs) : TyX K H (.ref a) (.type "list") := by
  rcases h with (h | ⟨o, h⟩) | ⟨o, its, n, h1, h2, _⟩
  · exact .base (.lst h)
  · exact .base (.frz h)
  · exact .kList h1 h2
theorem sqT_ty {K : PySem.W.Frag} {H : Hp} {a : Addr} {xs : List V} (h : SqT K H a xs) : TyX K H (.ref a) (.type "tuple") := by
  rcases h with (h | ⟨o, h⟩) | ⟨o, its, n, h1, h2, _⟩
  · exact .base (.tup h)
  · exact .fTuple h
  · exact .kTuple h1 h2
theorem dq_ty {K : PySem.W.Frag} {H : Hp} {v : V} {d : PyData} (h : Dq K H v d) : TyX K H v (.type (tyName d)) := by
  cases h with
  | non => exact .base .non
  | bl b => exact .base (.bl b)
  | int i => exact .base (.int i)
  | str x => exact .base (.str x)
  | lst h _ => exact sqL_ty h
  | tup h _ => exact sqT_ty h
  | dct h => exact .base (.dK h)
/-- whether a thing is of a built-in kind -/
def isTyN (T n : String) : Bool := n == T || (n == "bool" && T == "int")
def isTy (T : String) (d : PyData) : Bool := isTyN T (tyName d)
theorem kit_all {T : String} (h : ∀ n ∈ ["NoneType", "bool", "int", "str", "list", "tuple", "dict"], kitB n T = some (isTyN T n)) (d : PyData) : kitB (tyName d) T = some (isTy T d) := by
  cases d <;> exact h _ (by simp [tyName])
theorem kit_str (d : PyData) : kitB (tyName d) "str" = some (isTy "str" d) := kit_all (by decide +kernel) d
theorem kit_int (d : PyData) : kitB (tyName d) "int" = some (isTy "int" d) := kit_all (by decide +kernel) d
theorem kit_bool (d : PyData) : kitB (tyName d) "bool" = some (isTy "bool" d) := kit_all (by decide +kernel) d
theorem kit_tuple (d : PyData) : kitB (tyName d) "tuple" = some (isTy "tuple" d) := kit_all (by decide +kernel) d
theorem kit_list (d : PyData) : kitB (tyName d) "list" = some (isTy "list" d) := kit_all (by decide +kernel) d
theorem o_isi {K : PySem.W.Frag} {H : Hp} {Q : VK} {v : V} {d : PyData} {T : String} (k : kitB (tyName d) T = some (isTy T d)) (h : Dq K H v d) (q : Q (.bl (isTy T d)) H) : rIsi K [v, .ty T] H Q :=
  ⟨v, .ty T, _, _, _, rfl, .ty T, dq_ty h, kit_ty k, q⟩
/-! ### == with a text -/
def isStrOf (d : PyData) (z : Str) : Bool := match d with | .str x => x == z | _ => false
section
variable {X : Cx} {pins : List (Addr × Obj)} {σ : L2.St} {H : Hp} {s : Shared} {A : Around}
theorem dK_at {a : Addr} {kvs : List (Key × V)} (I : Inv X pins σ H s) (h : H a = some (.dK kvs)) : ∃ es n dd sl, s.heap.get? a = some { cls := .type "dict", dict := dd, data := .dict es n, slots := sl } := by
  obtain ⟨_, _, vs, _, o, es, ep, e, c, hd, _⟩ := (show ObjOk X.prog X.w H s.heap a (.dK kvs) from I.hok a _ h)
  obtain ⟨oc, od, dt, sl⟩ := o
  obtain ⟨c1, c2⟩ := c
  simp only at hd c1
  subst hd c1
  exact ⟨es, ep, od, sl, e⟩
theorem eqS_l (I : Inv X pins σ H s) {v : V} {u : Value} {d : PyData} (h : Dq X.K H v d) (r : RelV v u) (hu : A.units < cLine) (z : Str) (t : Tok) : SeqAt.EqAt A s u (.str z t) (isStrOf d z) := by
  cases h with
  | non => cases (show u = Value.none from r); exact SeqAt.EqAt.none_str z t
  | bl b => cases (show u = Value.bool b from r); exact SeqAt.EqAt.bool_str b z t
  | int i => obtain ⟨t1, q⟩ := (show ∃ t, u = Value.int i t from r); cases q; exact SeqAt.EqAt.int_str i t1 z t
  | str x => obtain ⟨t1, q⟩ := (show ∃ t, u = Value.str x t from r); cases q; exact SeqAt.EqAt.str_str x t1 z t
  | @lst a xs ds hs _ => cases (show u = Value.ref a from r); obtain ⟨its, _, pl, _⟩ := I.list hs; exact SeqAt.EqAt.list_str z t pl.isList hu
  | @tup a xs ds hs _ => cases (show u = Value.ref a from r); obtain ⟨its, _, pl, _⟩ := I.tuple hs; exact SeqAt.EqAt.tuple_str z t pl hu
  | @dct a hd => cases (show u = Value.ref a from r); obtain ⟨es, n, dd, sl, e⟩ := dK_at I hd; exact SeqAt.EqAt.dict_str z t e hu
theorem eqS_r (I : Inv X pins σ H s) {v : V} {u : Value} {d : PyData} (h : Dq X.K H v d) (r : RelV v u) (hu : A.units < cLine) (z : Str) (t : Tok) : SeqAt.EqAt A s (.str z t) u (isStrOf d z) := by
  cases h with
  | non => cases (show u = Value.none from r); exact SeqAt.EqAt.str_none z t
  | bl b => cases (show u = Value.bool b from r); exact SeqAt.EqAt.str_bool z t b
  | int i => obtain ⟨t1, q⟩ := (show ∃ t, u = Value.int i t from r); cases q; exact SeqAt.EqAt.str_int z t i t1
  | str x =>
    obtain ⟨t1, q⟩ := (show ∃ t, u = Value.str x t from r); cases q
    have e : isStrOf (.str x) z = (z == x) := by
      show (x == z) = (z == x)
      by_cases h : x = z
      · subst h; rfl
      · rw [beq_eq_false_iff_ne.mpr h, beq_eq_false_iff_ne.mpr (fun q => h q.symm)]
    rw [e]; exact SeqAt.EqAt.str_str z t x t1
  | @lst a xs ds hs _ => cases (show u = Value.ref a from r); obtain ⟨its, _, pl, _⟩ := I.list hs; exact SeqAt.EqAt.str_list z t pl.isList hu
  | @tup a xs ds hs _ => cases (show u = Value.ref a from r); obtain ⟨its, _, pl, _⟩ := I.tuple hs; exact SeqAt.EqAt.str_tuple z t pl hu
  | @dct a hd => cases (show u = Value.ref a from r); obtain ⟨es, n, dd, sl, e⟩ := dK_at I hd; exact SeqAt.EqAt.str_dict z t e hu
theorem rcS_l (I : Inv X pins σ H s) {v : V} {u : Value} {d : PyData} (h : Dq X.K H v d) (r : RelV v u) (hu : A.units < cLine) (z : Str) (t : Tok) : SeqAt.RcAt A s u (.str z t) (isStrOf d z) := by
  cases h with
  | non => cases (show u = Value.none from r); exact SeqAt.RcAt.none_str z t
  | bl b => cases (show u = Value.bool b from r); exact SeqAt.RcAt.bool_str b z t
  | int i => obtain ⟨t1, q⟩ := (show ∃ t, u = Value.int i t from r); cases q; exact SeqAt.RcAt.int_str i t1 z t
  | str x => obtain ⟨t1, q⟩ := (show ∃ t, u = Value.str x t from r); cases q; exact SeqAt.RcAt.str_str x t1 z t
  | @lst a xs ds hs _ => cases (show u = Value.ref a from r); obtain ⟨its, _, pl, _⟩ := I.list hs; exact SeqAt.RcAt.list_str z t pl.isList hu
  | @tup a xs ds hs _ => cases (show u = Value.ref a from r); obtain ⟨its, _, pl, _⟩ := I.tuple hs; exact SeqAt.RcAt.tuple_str z t pl hu
  | @dct a hd => cases (show u = Value.ref a from r); obtain ⟨es, n, dd, sl, e⟩ := dK_at I hd; exact SeqAt.RcAt.dict_str z t e hu
end
/-! ### the rules -/
def rEqS (K : PySem.W.Frag) : R2 := fun x y H Q => ∃ d z, Dq K H x d ∧ y = .str z ∧ Q (.bl (isStrOf d z)) H
/-- x in ys, ys a list or a tuple of texts -/
def inS (d : PyData) (zs : List Str) : Bool := zs.any fun z => isStrOf d z
def rInSt (K : PySem.W.Frag) (neg : Bool) : R2 := fun x y H Q => ∃ d p zs, Dq K H x d ∧ y = .ref p ∧ (SqL K H p (zs.map V.str) ∨ SqT K H p (zs.map V.str)) ∧ Q (.bl (if neg then !inS d zs else inS d zs)) H
theorem any_inS {d : PyData} : ∀ {zs : List Str} {us : List Value}, Vals (zs.map V.str) us → us.any (fun u => match u with | .str z _ => isStrOf d z | _ => false) = inS d zs
  | [], _, .nil => rfl
  | z :: zs, _, .cons r t => by
    obtain ⟨t1, q⟩ := (show ∃ t, _ = Value.str z t from r)
    cases q
    rw [List.any_cons]
    show (isStrOf d z || _) = (isStrOf d z || inS d zs)
    rw [any_inS t]
theorem mem_inS {zs : List Str} {us : List Value} (r : Vals (zs.map V.str) us) : ∀ u ∈ us, ∃ z t, u = Value.str z t := by
  induction zs generalizing us with
  | nil => cases r; intro u hu; cases hu
  | cons z zs ih =>
    cases r with
    | cons r1 r2 =>
      intro u hu
      rcases List.mem_cons.mp hu with rfl | hu
      · obtain ⟨t1, q⟩ := (show ∃ t, _ = Value.str z t from r1); exact ⟨z, t1, q⟩
      · exact ih r2 u hu
section
variable {X : Cx}
theorem op_eqS (hu : X.A.units + 64 < cLine) : OpR X (compareOp .Eq) (rEqS X.K) := by
  intro pins s σ H x y v u Q I rx ry h
  obtain ⟨d, z, hd, rfl, q⟩ := h
  obtain ⟨t, rfl⟩ := ry
  exact rcS_l I hd rx (by omega) z t X.prog X.w X.xe _ ⟨.bl _, H, I, rfl, q⟩
theorem inSt_run (hu : X.A.units + 64 < cLine) {pins : List (Addr × Obj)} {s : Shared} {σ : L2.St} {H : Hp} {x : V} {v : Value} {zs : List Str} {d : PyData} (I : Inv X pins σ H s) (rx : RelV x v) (hd : Dq X.K H x d) {its : List Value} (r : Vals (zs.map V.str) its) :
    ∀ y, y ∈ its.toArray → SeqAt.EqAt X.A.in1 s y v ((fun u => match u with | Value.str z _ => isStrOf d z | _ => false) y) := by
  intro y hy
  obtain ⟨z, t, rfl⟩ := mem_inS r y (by simpa using hy)
  exact eqS_r I hd rx (by show X.A.units + 1 < cLine; omega) z t
theorem op_inSt (hu : X.A.units + 64 < cLine) : OpR X (compareOp .In) (rInSt X.K false) := by
  intro pins s σ H x y v u Q I rx ry h
  obtain ⟨d, p, zs, hd, rfl, hq, q⟩ := h
  cases ry
  rcases hq with hq | hq
  · obtain ⟨its, r, pl, hz⟩ := I.list hq
    refine SeqAt.in_listAt _ pl.isList (inSt_run hu I rx hd r) ⟨.bl _, H, I, rfl, ?_⟩
    rw [show its.toArray.any (fun u => match u with | Value.str z _ => isStrOf d z | _ => false) = its.any (fun u => match u with | Value.str z _ => isStrOf d z | _ => false) by simp, any_inS r]
    exact q
  · obtain ⟨its, r, pl, hz⟩ := I.tuple hq
    refine SeqAt.in_tupleAt _ pl (inSt_run hu I rx hd r) ⟨.bl _, H, I, rfl, ?_⟩
    rw [show its.toArray.any (fun u => match u with | Value.str z _ => isStrOf d z | _ => false) = its.any (fun u => match u with | Value.str z _ => isStrOf d z | _ => false) by simp, any_inS r]
    exact q
theorem op_notInSt (hu : X.A.units + 64 < cLine) : OpR X (compareOp .NotIn) (rInSt X.K true) := by
  intro pins s σ H x y v u Q I rx ry h
  obtain ⟨d, p, zs, hd, rfl, hq, q⟩ := h
  cases ry
  rcases hq with hq | hq
  · obtain ⟨its, r, pl, hz⟩ := I.list hq
    refine SeqAt.notIn_listAt _ pl.isList (inSt_run hu I rx hd r) ⟨.bl _, H, I, rfl, ?_⟩
    rw [show its.toArray.any (fun u => match u with | Value.str z _ => isStrOf d z | _ => false) = its.any (fun u => match u with | Value.str z _ => isStrOf d z | _ => false) by simp, any_inS r]
    exact q
  · obtain ⟨its, r, pl, hz⟩ := I.tuple hq
    refine SeqAt.notIn_tupleAt _ pl (inSt_run hu I rx hd r) ⟨.bl _, H, I, rfl, ?_⟩
    rw [show its.toArray.any (fun u => match u with | Value.str z _ => isStrOf d z | _ => false) = its.any (fun u => match u with | Value.str z _ => isStrOf d z | _ => false) by simp, any_inS r]
    exact q
end
section
variable {K : PySem.W.Frag} {H : Hp} {Q : VK} {x : V} {d : PyData} {z : Str} {p : Addr} {zs : List Str}
theorem o_eqS (h : Dq K H x d) (q : Q (.bl (isStrOf d z)) H) : rEqS K x (.str z) H Q := ⟨d, z, h, rfl, q⟩
theorem o_inL (h : Dq K H x d) (hl : SqL K H p (zs.map V.str)) (q : Q (.bl (inS d zs)) H) : rInSt K false x (.ref p) H Q := ⟨d, p, zs, h, rfl, .inl hl, q⟩
theorem o_inT (h : Dq K H x d) (hl : SqT K H p (zs.map V.str)) (q : Q (.bl (inS d zs)) H) : rInSt K false x (.ref p) H Q := ⟨d, p, zs, h, rfl, .inr hl, q⟩
theorem o_ninL (h : Dq K H x d) (hl : SqL K H p (zs.map V.str)) (q : Q (.bl (!inS d zs)) H) : rInSt K true x (.ref p) H Q := ⟨d, p, zs, h, rfl, .inl hl, q⟩
theorem o_ninT (h : Dq K H x d) (hl : SqT K H p (zs.map V.str)) (q : Q (.bl (!inS d zs)) H) : rInSt K true x (.ref p) H Q := ⟨d, p, zs, h, rfl, .inr hl, q⟩
end
end WB
/-! WB4: constants of the module; the law's digits. -/
namespace WB
open PySem L2
section
variable {X : Cx} {x : Str} {pos : Pos}
theorem pe_gs {z : Str} (h : ∃ t, X.mg x = some (.str z t)) (hg : Gl X x := by rfl) (hd : (x == ("__debug__" : Str)) = false := by decide) : PE X (.Name x pos) (tC (.str z)) := by
  obtain ⟨t, h⟩ := h
  exact pe_glob hg h ⟨t, rfl⟩ hd
theorem pe_gi {z : Int} (h : ∃ t, X.mg x = some (.int z t)) (hg : Gl X x := by rfl) (hd : (x == ("__debug__" : Str)) = false := by decide) : PE X (.Name x pos) (tC (.int z)) := by
  obtain ⟨t, h⟩ := h
  exact pe_glob hg h ⟨t, rfl⟩ hd
theorem pe_gr {a : Addr} (h : X.mg x = some (.ref a)) (hg : Gl X x := by rfl) (hd : (x == ("__debug__" : Str)) = false := by decide) : PE X (.Name x pos) (tC (.ref a)) := pe_glob hg h rfl hd
theorem pe_ty {T : String} (hm : X.mg x = none) (hv : bootBuiltins x = some (.type T)) (hg : Gl X x := by rfl) (hn : x ≠ "__name__" := by decide) (hd : (x == ("__debug__" : Str)) = false := by decide) : PE X (.Name x pos) (tC (.ty T)) :=
  pe_bltn hg hm hv rfl hn hd
end
/-! ### the law's digits -/
/-- a pot: two numbers -/
def PotB (a b : Int) : Prop := 0 ≤ a ∧ 0 ≤ b ∧ b < 2 ^ 33
abbrev potO (a b : Int) : HO := .lst [.int a, .int b]
/-- of a pot a digit, below m -/
def spDigit : Sp := fun vs H Q _ => ∃ (p : Addr) (a b m : Int), vs = [.ref p, .int m] ∧ H p = some (potO a b) ∧ PotB a b ∧ 0 < m ∧ m.natAbs.log2 < 9000 ∧
  ∀ (d a' b' : Int), 0 ≤ d → d < m → PotB a' b' → Q (.int d) (upd H p (potO a' b'))
theorem log2_lt {m : Int} (h0 : 0 < m) (h : m < 2 ^ 200) : m.natAbs.log2 < 9000 := by
  have h1 : m.natAbs ≠ 0 := by omega
  have h2 : m.natAbs < 2 ^ 200 := by
    have e : ((m.natAbs : Nat) : Int) = m := Int.natAbs_of_nonneg (Int.le_of_lt h0)
    have : ((m.natAbs : Nat) : Int) < ((2 ^ 200 : Nat) : Int) := by rw [e]; exact_mod_cast h
    exact Int.ofNat_lt.mp this
  have := (Nat.log2_lt h1).mpr h2
  omega
end WB
/-! WB5: names, words; joining signs; a place among 26. -/
namespace WB
open PySem L2 TL
/-- the text of one sign -/
abbrev sgn (c : Nat) : Str := ⟨#[c]⟩
def strOf (l : List Nat) : Str := ⟨l.toArray⟩
theorem tl_strOf (l : List Nat) : tl (strOf l) = l := rfl
theorem strOf_tl (z : Str) : strOf (tl z) = z := ext_tl rfl
def isLow (c : Nat) : Bool := 97 ≤ c && c ≤ 122
def isFig (c : Nat) : Bool := 48 ≤ c && c ≤ 57
def nameB (z : Str) : Bool := 1 ≤ (tl z).length && (tl z).length ≤ 8 && (tl z).all isLow
def wordB (z : Str) : Bool := 1 ≤ (tl z).length && (tl z).length ≤ 12 && (tl z).all fun c => isLow c || isFig c
theorem nameB_iff {z : Str} : nameB z = true ↔ 1 ≤ (tl z).length ∧ (tl z).length ≤ 8 ∧ ∀ c ∈ tl z, isLow c = true := by
  unfold nameB
  simp only [Bool.and_eq_true, decide_eq_true_eq, List.all_eq_true, and_assoc]
theorem wordB_iff {z : Str} : wordB z = true ↔ 1 ≤ (tl z).length ∧ (tl z).length ≤ 12 ∧ ∀ c ∈ tl z, (isLow c || isFig c) = true := by
  unfold wordB
  simp only [Bool.and_eq_true, decide_eq_true_eq, List.all_eq_true, and_assoc]
theorem joinL_sgn (cs : List Nat) : joinL [] (cs.map fun c => [c]) = cs := by
  induction cs with
  | nil => rfl
  | cons c cs ih =>
    cases cs with
    | nil => rfl
    | cons d r =>
      show [c] ++ ([] ++ joinL [] (List.map (fun c => [c]) (d :: r))) = c :: d :: r
      rw [ih]; rfl
theorem join_sgn (cs : List Nat) : Txt.join (Str.ofString "") (cs.map sgn) = strOf cs := by
  refine ext_tl ?_
  rw [join_eq, tl_join]
  have e1 : tl (Str.ofString "") = [] := by rw [tl_ofString]; rfl
  have e2 : (cs.map sgn).map tl = cs.map fun c => [c] := by rw [List.map_map]; rfl
  rw [e1, e2, joinL_sgn, tl_strOf]
theorem sum_sgn (cs : List Nat) : ((cs.map sgn).map (·.length)).sum = cs.length := by
  induction cs with
  | nil => rfl
  | cons c cs ih =>
    rw [List.map_cons, List.map_cons, List.sum_cons, ih, List.length_cons]
    show 1 + cs.length = cs.length + 1
    omega
theorem sum_join0 (cs : List Nat) (h : cs.length ≤ 1000) : ((cs.map sgn).map (·.length)).sum + (cs.map sgn).length * (Str.ofString "").length ≤ 16777216 := by
  rw [sum_sgn, show (Str.ofString "").length = 0 by decide +kernel]; omega
theorem wipe1 {σ : L2.St} {x : V} {i : Nat} : wipe ((wipe σ [i]).set i (some x)) [i] = wipe σ [i] := by
  show ((σ.set i none).set i (some x)).set i none = σ.set i none
  simp [List.set_set]
theorem at0 {v : V} {vs : List V} : atI (v :: vs) 0 = some v := atI_nat (j := 0) rfl
theorem tl_len (z : Str) : (tl z).length = z.length := by show z.cps.toList.length = z.cps.size; simp
theorem tl_cut (z : Str) (lo hi : Option Int) : tl (cutS z lo hi) = ((tl z).drop (HT.sIx z.length 0 lo)).take (HT.sIx z.length z.length hi - HT.sIx z.length 0 lo) := rfl
theorem tl_cut_to (z : Str) (k : Nat) : tl (cutS z none (some (k : Int))) = (tl z).take k := by
  rw [tl_cut, HT.sIx_none, HT.sIx_nat, List.drop_zero, Nat.sub_zero]
  by_cases h : k ≤ z.length
  · rw [Nat.min_eq_left h]
  · have h' : z.length ≤ k := by omega
    rw [Nat.min_eq_right h', List.take_of_length_le (by rw [tl_len]; exact Nat.le_refl _), List.take_of_length_le (by rw [tl_len]; exact h')]
/-- fewer than 26 texts leave one of 26 signs free -/
theorem sub_len {α : Type} [DecidableEq α] : ∀ {l m : List α}, l.Nodup → (∀ x ∈ l, x ∈ m) → l.length ≤ m.length
  | [], _, _, _ => Nat.zero_le _
  | a :: l, m, hn, h => by
    have ha : a ∈ m := h a List.mem_cons_self
    have n := List.nodup_cons.mp hn
    have ih := sub_len (m := m.erase a) n.2 fun x hx => by
      have hxa : x ≠ a := fun e => n.1 (e ▸ hx)
      exact (List.mem_erase_of_ne hxa).mpr (h x (List.mem_cons_of_mem _ hx))
    rw [List.length_erase_of_mem ha] at ih
    have : 0 < m.length := List.length_pos_of_mem ha
    simp only [List.length_cons]; omega
def lets : List Nat := (List.range 26).map (97 + ·)
theorem lets_nodup : (lets.map sgn).Nodup := by decide +kernel
theorem free_letter {zs : List Str} (h : zs.length < 26) : ∃ c ∈ lets, sgn c ∉ zs := by
  apply Classical.byContradiction
  intro hn
  have : (lets.map sgn).length ≤ zs.length := sub_len lets_nodup fun x hx => by
    obtain ⟨c, hc, rfl⟩ := List.mem_map.mp hx
    exact Classical.byContradiction fun q => hn ⟨c, hc, q⟩
  have e : (lets.map sgn).length = 26 := by decide +kernel
  omega
theorem low_lets {c : Nat} (h : c ∈ lets) : isLow c = true := by
  obtain ⟨i, hi, rfl⟩ := List.mem_map.mp h
  have := List.mem_range.mp hi
  simp only [isLow, Bool.and_eq_true, decide_eq_true_eq]; omega
theorem letters_tl : tl (Str.ofString "abcdefghijklmnopqrstuvwxyz") = lets := by rw [tl_ofString]; decide +kernel
theorem nameB_sgn {c : Nat} (h : isLow c = true) : nameB (sgn c) = true := nameB_iff.mpr ⟨Nat.le_refl _, by show 1 ≤ 8; decide, fun d hd => by
  have : d = c := by simpa [tl] using hd
  rw [this]; exact h⟩
/-! ### texts as data -/
theorem dpAll_strs {K : PySem.W.Frag} {H : Hp} : ∀ zs : List Str, DpAll K H (zs.map V.str) (zs.map PyData.str)
  | [] => .nil
  | z :: zs => .cons (.str z) (dpAll_strs zs)
theorem dp_strsL {K : PySem.W.Frag} {H : Hp} {a : Addr} {zs : List Str} (h : SqL K H a (zs.map V.str)) : Dp K H (.ref a) (.list (zs.map PyData.str)) := .lst h (dpAll_strs zs)
theorem eqv_strs : ∀ xs ys : List Str, PyData.eqvAll (xs.map PyData.str) (ys.map PyData.str) = decide (xs = ys)
  | [], [] => rfl
  | [], _ :: _ => rfl
  | _ :: _, [] => rfl
  | x :: xs, y :: ys => by
    show (PyData.eqv (.str x) (.str y) && PyData.eqvAll (xs.map PyData.str) (ys.map PyData.str)) = _
    rw [eqv_strs xs ys]
    show ((x == y) && decide (xs = ys)) = decide (x :: xs = y :: ys)
    by_cases h : x = y
    · subst h; simp
    · rw [beq_eq_false_iff_ne.mpr h]; simp [h]
end WB
/-! WB6: turns over SH. -/
namespace WB
open PySem L2 TL
section
variable {K : PySem.W.Frag} {G H : Hp} {L : List (Addr × HO)} {Q : VK} {E : XK} {xs : List V}
/-- a new thing, frozen at once -/
theorem w_newF (sh : SH G L H) (o : HO) (k : ∀ p G' H', Same G G' → G' p = some o → SH G' L H' → Q (.ref p) H') : ∀ p, H p = none → Q (.ref p) (upd H p o) := fun p hp =>
  k p (upd G p o) (upd H p o) (same_upd (sh.free hp)) upd_same (sh.froz hp o)
theorem w_newM (sh : SH G L H) (o : HO) (k : ∀ p H', SH G ((p, o) :: L) H' → Q (.ref p) H') : ∀ p, H p = none → Q (.ref p) (upd H p o) := fun p hp => k p _ (sh.new hp o)
theorem w_nL (sh : SH G L H) (k : ∀ p G' H', Same G G' → G' p = some (.lst xs) → SH G' L H' → Q (.ref p) H') (hl : xs.length ≤ 16777216 := by first | decide | omega) : NewL xs H Q := ⟨sz _ hl, w_newF sh _ k⟩
theorem w_nLm (sh : SH G L H) (k : ∀ p H', SH G ((p, .lst xs) :: L) H' → Q (.ref p) H') (hl : xs.length ≤ 16777216 := by first | decide | omega) : NewL xs H Q := ⟨sz _ hl, w_newM sh _ k⟩
theorem w_nT (sh : SH G L H) (k : ∀ p G' H', Same G G' → G' p = some (.tup xs) → SH G' L H' → Q (.ref p) H') (hl : xs.length ≤ 16777216 := by first | decide | omega) : NewT xs H Q := ⟨sz _ hl, w_newF sh _ k⟩
theorem w_digit {p : Addr} {a b m : Int} (sh : SH G ((p, potO a b) :: L) H) (hb : PotB a b) (hm : 0 < m) (hl : m.natAbs.log2 < 9000)
    (k : ∀ d a' b' H', 0 ≤ d → d < m → PotB a' b' → SH G ((p, potO a' b') :: L) H' → Q (.int d) H') : spDigit [.ref p, .int m] H Q E :=
  ⟨p, a, b, m, rfl, sh.hd, hb, hm, hl, fun d a' b' h1 h2 h3 => k d a' b' _ h1 h2 h3 (sh.put _)⟩
-- reading lists
def LcGo (J : It) (g : TG) (tt : TT) (te : TE) (vs : List Nat) (σ : L2.St) (Q : VK) (H1 : Hp) : Prop := ∀ D, H1 D = none → ∃ W : Nat → Nat → Hp → Prop, (∃ m, W 0 m (upd H1 D (.lst []))) ∧ ∀ i m H, W i m H →
  (J.stop i H ∧ Q (.ref D) H) ∨ (J.go i H ∧ ∃ Nx : Hp → Prop, (∀ H', Nx H' → ∃ m', m' < m ∧ W (i + 1) m' H') ∧ ∀ x H', J.yld i H x H' → g x (wipe σ vs) H' fun σ2 H2 => wipe σ2 vs = wipe σ vs ∧ tt σ2 H2 fun b H3 =>
    if b = true then te σ2 H3 fun y H4 => ∃ acc, H4 D = some (.lst acc) ∧ acc.length < sizeLine ∧ Nx (upd H4 D (.lst (acc ++ [y]))) else Nx H3)
theorem w_lc {wi : TI} {g : TG} {tt : TT} {te : TE} {vs : List Nat} {σ : L2.St} (h : wi σ H fun J H1 => LcGo J g tt te vs σ Q H1) : tLc wi g tt te vs σ H Q := h
def ForGo (J : It) (g : TG) (tb : TS) (D : Ends) (σ : L2.St) (H1 : Hp) : Prop := ∃ W : Nat → Nat → L2.St → Hp → Prop, (∃ m, W 0 m σ H1) ∧ ∀ i m σ H, W i m σ H →
  (J.stop i H ∧ D.nx σ H) ∨ (J.go i H ∧ ∃ N : L2.St → Hp → Prop, (∀ σ' H', N σ' H' → ∃ m', m' < m ∧ W (i + 1) m' σ' H') ∧ ∀ x H', J.yld i H x H' → g x σ H' fun σ2 H2 => tb { D with nx := N, ct := N, bk := D.nx } σ2 H2)
theorem w_for {wi : TI} {g : TG} {tb : TS} {D : Ends} {σ : L2.St} (h : wi σ H fun J H1 => ForGo J g tb D σ H1) : tFor wi g tb D σ H := h
def Rng1 (vs : List V) (H : Hp) (R : It → Hp → Prop) : Prop := ∃ j : Int, vs = [.int j] ∧ -(2 ^ 62) ≤ j ∧ j < 2 ^ 62 ∧ R (Itr 0 j.toNat) H
theorem w_rng1 {ta : TA} {R : It → Hp → Prop} {σ : L2.St} (h : ta σ H fun vs H1 => Rng1 vs H1 R) : iRng1 ta σ H R := h
theorem w_rng1i {m : Int} {R : It → Hp → Prop} (h0 : 0 ≤ m) (hn : m < 2 ^ 62) (h : ∀ n : Nat, m = n → R (Itr 0 n) H) : Rng1 [V.int m] H R :=
  ⟨m, rfl, by omega, by omega, h _ (by omega)⟩
def Rng2 (vs : List V) (H : Hp) (R : It → Hp → Prop) : Prop := ∃ i j : Int, vs = [.int i, .int j] ∧ (-(2 ^ 62) ≤ i ∧ i < 2 ^ 62 ∧ -(2 ^ 62) ≤ j ∧ j < 2 ^ 62) ∧ R (Itr i (j - i).toNat) H
theorem w_rng2 {ta : TA} {R : It → Hp → Prop} {σ : L2.St} (h : ta σ H fun vs H1 => Rng2 vs H1 R) : iRng2 ta σ H R := h
theorem w_rng2i {i m : Int} {R : It → Hp → Prop} (h0 : 0 ≤ i) (h1 : i ≤ m) (hn : m < 2 ^ 62) (h : ∀ n : Nat, m = i + n → R (Itr i n) H) : Rng2 [V.int i, V.int m] H R :=
  ⟨i, m, rfl, ⟨by omega, by omega, by omega, by omega⟩, h _ (by omega)⟩
def IStrV (x : V) (H : Hp) (R : It → Hp → Prop) : Prop := ∃ z, x = .str z ∧ R (Its z) H
theorem w_iStr {te : TE} {R : It → Hp → Prop} {σ : L2.St} (h : te σ H fun v H1 => IStrV v H1 R) : iStr te σ H R := h
theorem w_iStr' {z : Str} {R : It → Hp → Prop} (h : R (Its z) H) : IStrV (.str z) H R := ⟨z, rfl, h⟩
def IListV (K : PySem.W.Frag) (x : V) (H : Hp) (R : It → Hp → Prop) : Prop := ∃ a, x = .ref a ∧ (∃ xs, SqL K H a xs) ∧ R (Itl K a) H
theorem w_iList {tl : TE} {R : It → Hp → Prop} {σ : L2.St} (h : tl σ H fun x H1 => IListV K x H1 R) : iList K tl σ H R := h
theorem w_iList' {a : Addr} {R : It → Hp → Prop} (h1 : SqL K H a xs) (h : R (Itl K a) H) : IListV K (.ref a) H R := ⟨a, rfl, ⟨_, h1⟩, h⟩
def ITupV (K : PySem.W.Frag) (x : V) (H : Hp) (R : It → Hp → Prop) : Prop := ∃ a, x = .ref a ∧ (∃ xs, SqT K H a xs) ∧ R (Itt K a) H
theorem w_iTup {tl : TE} {R : It → Hp → Prop} {σ : L2.St} (h : tl σ H fun x H1 => ITupV K x H1 R) : iTup K tl σ H R := h
theorem w_iTup' {a : Addr} {R : It → Hp → Prop} (h1 : SqT K H a xs) (h : R (Itt K a) H) : ITupV K (.ref a) H R := ⟨a, rfl, ⟨_, h1⟩, h⟩
theorem w_yes {σ : L2.St} {QB : Bool → Hp → Prop} (h : QB true H) : tYes σ H QB := h
theorem w_tm1 {r : V → List V → Hp → VK → Prop} {to te : TE} {σ : L2.St} (h : to σ H fun x H1 => (∃ a, x = .str a) ∧ te σ H1 fun y H2 => r x [y] H2 Q) : tM1 r to te σ H Q := h
def rJoinK (K : PySem.W.Frag) : V → List V → Hp → VK → Prop := fun x xs H Q => ∃ a p, ∃ ys : List Str, x = .str a ∧ xs = [.ref p] ∧ (SqL K H p (ys.map V.str) ∨ SqT K H p (ys.map V.str)) ∧ (ys.map (·.length)).sum + ys.length * a.length ≤ 16777216 ∧ Q (.str (Txt.join a ys)) H
theorem o_join {a : Str} {p : Addr} {ys : List Str} (h : SqL K H p (ys.map V.str)) (hs : (ys.map (·.length)).sum + ys.length * a.length ≤ 16777216) (q : Q (.str (Txt.join a ys)) H) : rJoinK K (.str a) [.ref p] H Q :=
  ⟨a, p, ys, rfl, rfl, .inl h, hs, q⟩
def rInSg (neg : Bool) : R2 := fun x y H Q => ∃ (c : Nat) (z : Str), x = .str ⟨#[c]⟩ ∧ y = .str z ∧ Q (.bl (if neg then !decide (c ∈ z.cps.toList) else decide (c ∈ z.cps.toList))) H
theorem o_inSg {c : Nat} {z : Str} (q : Q (.bl (decide (c ∈ tl z))) H) : rInSg false (.str ⟨#[c]⟩) (.str z) H Q := ⟨c, z, rfl, rfl, q⟩
theorem o_ninSg {c : Nat} {z : Str} (q : Q (.bl (!decide (c ∈ tl z))) H) : rInSg true (.str ⟨#[c]⟩) (.str z) H Q := ⟨c, z, rfl, rfl, q⟩
def rAddS : R2 := fun x y H Q => ∃ i j, x = .str i ∧ y = .str j ∧ i.length + j.length ≤ sizeLine ∧ Q (.str (i ++ j)) H
theorem o_addS {x y : Str} (hs : x.length + y.length ≤ 16777216) (q : Q (.str (x ++ y)) H) : rAddS (.str x) (.str y) H Q := ⟨x, y, rfl, rfl, sz _ hs, q⟩
theorem o_slS {z : Str} {lo hi : Option Int} (hs : z.length ≤ 16777216) (q : Q (.str (cutS z lo hi)) H) : rSlS (.str z) lo hi H Q := ⟨z, rfl, sz _ hs, q⟩
def rLenK (K : PySem.W.Frag) : List V → Hp → VK → Prop := fun xs H Q => ∃ x n, xs = [x] ∧ LenV K x H n ∧ Q (.int n) H
theorem o_len {v : V} {n : Nat} (h : LenV K v H n) (q : Q (.int n) H) : rLenK K [v] H Q := ⟨v, n, rfl, h, q⟩
def rAbs : List V → Hp → VK → Prop := fun xs H Q => ∃ i, xs = [.int i] ∧ Q (.int (if i < 0 then -i else i)) H
theorem o_abs {i : Int} (q : Q (.int (if i < 0 then -i else i)) H) : rAbs [.int i] H Q := ⟨i, rfl, q⟩
def rMax2 : List V → Hp → VK → Prop := fun xs H Q => ∃ i j, xs = [.int i, .int j] ∧ Q (.int (if j > i then j else i)) H
theorem o_max2 {i j : Int} (q : Q (.int (if j > i then j else i)) H) : rMax2 [.int i, .int j] H Q := ⟨i, j, rfl, q⟩
def rMin2 : List V → Hp → VK → Prop := fun xs H Q => ∃ i j, xs = [.int i, .int j] ∧ Q (.int (if j < i then j else i)) H
theorem o_min2 {i j : Int} (q : Q (.int (if j < i then j else i)) H) : rMin2 [.int i, .int j] H Q := ⟨i, j, rfl, q⟩
def rListOf (K : PySem.W.Frag) : List V → Hp → VK → Prop := fun xs H Q => ∃ p ys, xs = [.ref p] ∧ (SqL K H p ys ∨ SqT K H p ys) ∧ ∀ l, H l = none → Q (.ref l) (upd H l (.lst ys))
def rTupOf (K : PySem.W.Frag) : List V → Hp → VK → Prop := fun xs H Q => ∃ p ys, xs = [.ref p] ∧ ((SqL K H p ys ∧ ∀ l, H l = none → Q (.ref l) (upd H l (.tup ys))) ∨ (SqT K H p ys ∧ Q (.ref p) H))
theorem o_listOfL {p : Addr} (sh : SH G L H) (h : SqL K G p xs) (k : ∀ p G' H', Same G G' → G' p = some (.lst xs) → SH G' L H' → Q (.ref p) H') : rListOf K [.ref p] H Q := ⟨p, xs, rfl, .inl (sh.sqL h), w_newF sh _ k⟩
theorem o_listOfT {p : Addr} (sh : SH G L H) (h : SqT K G p xs) (k : ∀ p G' H', Same G G' → G' p = some (.lst xs) → SH G' L H' → Q (.ref p) H') : rListOf K [.ref p] H Q := ⟨p, xs, rfl, .inr (sh.sqT h), w_newF sh _ k⟩
theorem o_tupOfL {p : Addr} (sh : SH G L H) (h : SqL K G p xs) (k : ∀ p G' H', Same G G' → G' p = some (.tup xs) → SH G' L H' → Q (.ref p) H') : rTupOf K [.ref p] H Q := ⟨p, xs, rfl, .inl ⟨sh.sqL h, w_newF sh _ k⟩⟩
theorem o_tupOfM {p : Addr} (sh : SH G L H) (h : H p = some (.lst xs)) (k : ∀ p G' H', Same G G' → G' p = some (.tup xs) → SH G' L H' → Q (.ref p) H') : rTupOf K [.ref p] H Q := ⟨p, xs, rfl, .inl ⟨SqL.of h, w_newF sh _ k⟩⟩
theorem o_cat {p q : Addr} {ys : List V} (sh : SH G L H) (h1 : H p = some (.lst xs)) (h2 : H q = some (.lst ys)) (hl : xs.length + ys.length ≤ 16777216) (k : ∀ p G' H', Same G G' → G' p = some (.lst (xs ++ ys)) → SH G' L H' → Q (.ref p) H') : rCat (.ref p) (.ref q) H Q :=
  ⟨p, q, xs, ys, rfl, rfl, h1, h2, sz _ hl, w_newF sh _ k⟩
theorem lenS {z : Str} (h : z.length ≤ 16777216) : LenV K (.str z) H z.length := ⟨sz _ h, rfl⟩
theorem lenL {a : Addr} (h : SqL K H a xs) : LenV K (.ref a) H xs.length := .inl ⟨xs, h, rfl⟩
theorem lenT {a : Addr} (h : SqT K H a xs) : LenV K (.ref a) H xs.length := .inr ⟨xs, h, rfl⟩
theorem o_all {a : Addr} {bs : List Bool} (h : SqL K H a (bs.map V.bl)) (q : Q (.bl (bs.all id)) H) : rAll K [.ref a] H Q := ⟨a, bs, rfl, h, q⟩
theorem o_any {a : Addr} {bs : List Bool} (h : SqL K H a (bs.map V.bl)) (q : Q (.bl (bs.any id)) H) : rAny K [.ref a] H Q := ⟨a, bs, rfl, h, q⟩
end
section
variable {X : Cx} {k j : Nat} {x : Str}
end
/-- a name that is none of those that are there -/
def spName (K : PySem.W.Frag) : Sp := fun vs H Q _ => ∃ (G : Hp) (L : List (Addr × HO)) (p u : Addr) (a b : Int) (zs : List Str), vs = [.ref p, .ref u] ∧ SH G ((p, potO a b) :: L) H ∧ PotB a b ∧ SqL K G u (zs.map V.str) ∧ (∀ z ∈ zs, nameB z = true) ∧ zs.length < 26 ∧
  ∀ (G' H' : Hp) (z : Str) (a' b' : Int), Same G G' → SH G' ((p, potO a' b') :: L) H' → PotB a' b' → nameB z = true → z ∉ zs → Q (.str z) H'
theorem shaped_strs {zs : List Str} (h : ∀ z ∈ zs, nameB z = true) : SeqAt.shaped (.list (zs.map PyData.str)) = true := by
  have h1 : PyData.canLayAll0 (zs.map PyData.str) = true ∧ PyData.depthAll (zs.map PyData.str) ≤ 1 := by
    induction zs with
    | nil => exact ⟨by simp [PyData.canLayAll0], by simp [PyData.depthAll]⟩
    | cons z zs ih =>
      obtain ⟨i1, i2⟩ := ih fun y hy => h y (List.mem_cons_of_mem _ hy)
      have hz := nameB_iff.mp (h z List.mem_cons_self)
      have e : PyData.strOk z = true := by
        unfold PyData.strOk
        rw [Array.all_eq_true']
        intro c hc
        have hl := hz.2.2 c (by simpa [tl] using hc)
        simp only [isLow, Bool.and_eq_true, decide_eq_true_eq] at hl
        exact decide_eq_true (by omega)
      refine ⟨?_, ?_⟩
      · simp only [List.map_cons, PyData.canLayAll0, PyData.canLay0, i1, e, Bool.and_self]
      · simp only [List.map_cons, PyData.depthAll, PyData.depth]; omega
  have h2 : PyData.depth (.list (zs.map PyData.str)) ≤ 64 := by
    simp only [PyData.depth]; omega
  show (PyData.canLay0 (.list (zs.map PyData.str)) && decide (PyData.depth (.list (zs.map PyData.str)) ≤ 64)) = true
  rw [Bool.and_eq_true]
  exact ⟨by simp only [PyData.canLay0]; exact h1.1, decide_eq_true h2⟩
theorem inS_strs (z : Str) (zs : List Str) : inS (.str z) zs = decide (z ∈ zs) := by
  induction zs with
  | nil => rfl
  | cons y zs ih =>
    show ((z == y) || inS (.str z) zs) = _
    rw [ih]
    by_cases h : z = y
    · subst h; simp
    · rw [beq_eq_false_iff_ne.mpr h]; simp [h]
end WB
/-! WB7: rules with the written part K said (they go within comprehensions). -/
namespace WB
open PySem L2 TL
section
variable {X : Cx} {K : PySem.W.Frag}
theorem kEqD (hu : X.A.units + 64 < cLine) (hK : X.K = K := by rfl) : OpR X (compareOp .Eq) (rEqD K) := hK ▸ op_eqD hu
theorem kNeD (hu : X.A.units + 64 < cLine) (hK : X.K = K := by rfl) : OpR X (compareOp .NotEq) (rNeD K) := hK ▸ op_neD hu
theorem kEqS (hu : X.A.units + 64 < cLine) (hK : X.K = K := by rfl) : OpR X (compareOp .Eq) (rEqS K) := hK ▸ op_eqS hu
theorem kIn (hu : X.A.units + 64 < cLine) (hK : X.K = K := by rfl) : OpR X (compareOp .In) (rInSt K false) := hK ▸ op_inSt hu
theorem kNotIn (hu : X.A.units + 64 < cLine) (hK : X.K = K := by rfl) : OpR X (compareOp .NotIn) (rInSt K true) := hK ▸ op_notInSt hu
theorem kIx (hK : X.K = K := by rfl) : IxR X (rIx K) := hK ▸ ix_seq
theorem kLen (hK : X.K = K := by rfl) : CallR X (.builtin "len") (rLenK K) := hK ▸ call_len
theorem kIsi (hK : X.K = K := by rfl) : CallR X (.builtin "isinstance") (rIsi K) := hK ▸ call_isi
theorem kAll (hc : X.calm = true) (hK : X.K = K := by rfl) : CallR X (.builtin "all") (rAll K) := hK ▸ cr_all hc
theorem kAny (hc : X.calm = true) (hK : X.K = K := by rfl) : CallR X (.builtin "any") (rAny K) := hK ▸ cr_any hc
theorem kListOf (hK : X.K = K := by rfl) : CallR X (.type "list") (rListOf K) := hK ▸ call_list_of
theorem kTupOf (hK : X.K = K := by rfl) : CallR X (.type "tuple") (rTupOf K) := hK ▸ call_tuple_of
theorem kAbs : CallR X (.builtin "abs") rAbs := call_abs
theorem kMax2 (hc : X.calm = true) : CallR X (.builtin "max") rMax2 := call_max2 hc
theorem kMin2 (hc : X.calm = true) : CallR X (.builtin "min") rMin2 := call_min2 hc
theorem kInSg : OpR X (compareOp .In) (rInSg false) := op_in_sign
theorem kNotInSg : OpR X (compareOp .NotIn) (rInSg true) := op_notIn_sign
theorem kAddS : OpR X (binaryOp .Add) WB.rAddS := op_add_str
theorem kCatA (hK : X.K = K := by rfl) : OpR X (binaryOp .Add) (rCatA K) := hK ▸ op_catA
theorem kSlL (hK : X.K = K := by rfl) : SlR X (rSlL K) := hK ▸ sl_list
theorem kSlT (hK : X.K = K := by rfl) : SlR X (rSlA K) := hK ▸ sl_tupA
theorem kiList {tg l : Expr} {tl : TE} (h : PE X l tl) (hK : X.K = K := by rfl) : PI X tg l (iList K tl) := hK ▸ pi_list h
theorem kiTup {tg l : Expr} {tl : TE} (h : PE X l tl) (hK : X.K = K := by rfl) : PI X tg l (iTup K tl) := hK ▸ pi_tup h
variable {e o : Expr} {es : List Expr} {f name : Str} {pos apos cpos : Pos} {ta to : TE} {t : TA} {T : String} {id : String} {r : V → List V → Hp → VK → Prop} {k n : Nat} {ts : TGs}
theorem kFld (he : PE X e ta) (hb : attributeBase e f X.env (eval e X.env) = eval e X.env) (hK : X.K = K := by rfl) : PE X (.Attribute e f pos) (tFld K ta f) := hK ▸ pe_fld he hb
theorem kBm0 (pa : PlainAttrs T) (slot : Slot T name id) (hty : typeOf (.builtin id) = pure (.type "method_descriptor")) (hm : MtR X id r) (ho : PE X o to)
    (hK : X.K = K := by rfl) (hbase : attributeBase o name X.env (eval o X.env) = eval o X.env := by rfl) (hline : (apos.endLine == cpos.line) = true := by rfl) : PE X (.Call (.Attribute o name apos) [] [] cpos) (tBM0 K T r to) := hK ▸ pe_bm0 pa slot hty hm ho hbase hline
theorem kBm (pa : PlainAttrs T) (slot : Slot T name id) (hty : typeOf (.builtin id) = pure (.type "method_descriptor")) (hm : MtR X id r) (ho : PE X o to) (ha : PA X (e :: es) t)
    (hK : X.K = K := by rfl) (hbase : attributeBase o name X.env (eval o X.env) = eval o X.env := by rfl)
    (hfew : ((backTo cpos (starEach (e :: es) X.env)).all (fun x => !x.1) && (backToKw cpos (keywordEach [] X.env)).all (fun x => x.1.isSome)
      && decide ((e :: es).length + ([] : List Keyword).length + (if ([] : List Keyword).isEmpty then 0 else 1) < 30)) = true := by rfl) (hline : (apos.endLine == cpos.line) = true := by rfl) (hs : starEach (e :: es) X.env = (false, eval e X.env) :: starEach es X.env := by rfl) (hplain : (backTo cpos (starEach es X.env)).any (·.1) = false := by rfl) : PE X (.Call (.Attribute o name apos) (e :: es) [] cpos) (tBM K T r to t) := by
  subst hK
  exact pe_bm pa slot hty hm ho ha hbase hfew hline hs hplain
theorem kJoin {te : TE} (ho : PE X o to) (he : PE X e te) (hK : X.K = K := by rfl) (hs : starEach [e] X.env = [(false, eval e X.env)] := by rfl) (hbase : attributeBase o "join" X.env (eval o X.env) = eval o X.env := by rfl) (hline : (apos.endLine == pos.line) = true := by rfl) :
    PE X (.Call (.Attribute o "join" apos) [e] [] pos) (tM1 (rJoinK K) to te) := hK ▸ pe_join ho he hs hbase hline
theorem kgTup {es : List Expr} (hc : X.calm = true) (h : PGs X es ts) (hK : X.K = K := by rfl)
    (hn : (assignEach es X.env).length = n := by rfl) (hst : (assignEach es X.env).findIdx? (·.1) = none := by rfl) : PG X (.Tuple es k pos) (gTup K n ts) := hK ▸ pg_tup hc h hn hst
end
end WB
/-! WB8: comprehensions and for loops over SH. -/
namespace WB
open PySem L2 TL
theorem str_ty {z : Str} {R : Prop} (h : R) : (∃ a, V.str z = .str a) ∧ R := ⟨⟨_, rfl⟩, h⟩
/-- behind i turns the new list at D holds acc -/
def LcInv (D : Addr) (I : Nat → List V → Hp → List (Addr × HO) → Prop) (i : Nat) (H : Hp) : Prop := ∃ acc G L, SH G ((D, .lst acc) :: L) H ∧ I i acc G L
def LcPut (D : Addr) (P : Hp → Prop) (y : V) (H : Hp) : Prop := ∃ acc, H D = some (.lst acc) ∧ acc.length < sizeLine ∧ P (upd H D (.lst (acc ++ [y])))
section
variable {G H : Hp} {L : List (Addr × HO)} {Q : VK} {g : TG} {tt : TT} {te : TE} {vs : List Nat} {σ : L2.St}
theorem lc_end {D : Addr} {I : Nat → List V → Hp → List (Addr × HO) → Prop} {i : Nat} {acc : List V} {y : V} (sh : SH G ((D, .lst acc) :: L) H) (hI : I i (acc ++ [y]) G L) (hl : acc.length < 16777216 := by omega) : LcPut D (LcInv D I i) y H :=
  ⟨acc, sh.hd, szl _ hl, acc ++ [y], G, L, sh.put _, hI⟩
theorem lc_skip {D : Addr} {I : Nat → List V → Hp → List (Addr × HO) → Prop} {i : Nat} {acc : List V} (sh : SH G ((D, .lst acc) :: L) H) (hI : I i acc G L) : LcInv D I i H := ⟨acc, G, L, sh, hI⟩
theorem w_lcW {J : It} {n : Nat} {Gd : Hp → Prop} {Y : Nat → Hp → V → Hp → Prop} (w : Walk J n Gd Y) (sh : SH G L H) (I : Nat → List V → Hp → List (Addr × HO) → Prop) (h0 : I 0 [] G L)
    (hG : ∀ i acc G' L' H', i ≤ n → I i acc G' L' → SH G' L' H' → Gd H')
    (hs : ∀ D i x H1 H2 acc G' L', i < n → I i acc G' L' → SH G' ((D, .lst acc) :: L') H1 → Y i H1 x H2 → g x (wipe σ vs) H2 fun σ2 H2 => wipe σ2 vs = wipe σ vs ∧ tt σ2 H2 fun b H3 =>
      if b = true then te σ2 H3 fun y H4 => LcPut D (LcInv D I (i + 1)) y H4 else LcInv D I (i + 1) H3)
    (hd : ∀ D acc G' L' H', I n acc G' L' → SH G' ((D, .lst acc) :: L') H' → Q (.ref D) H') :
    LcGo J g tt te vs σ Q H := by
  intro D hD
  refine lc_it w (LcInv D I) ⟨[], G, L, sh.new hD _, h0⟩ (fun i H1 hi ⟨acc, G', L', s1, i1⟩ => hG i acc G' L' H1 hi i1 s1.drop) ?_ (fun H1 ⟨acc, G', L', s1, i1⟩ => hd D acc G' L' H1 i1 s1)
  rintro i x H1 H2 hi ⟨acc, G', L', s1, i1⟩ y
  exact hs D i x H1 H2 acc G' L' hi i1 s1 y
/-- behind i turns of a for -/
def ForInv (I : Nat → L2.St → Hp → List (Addr × HO) → Prop) (i : Nat) (σ : L2.St) (H : Hp) : Prop := ∃ G L, SH G L H ∧ I i σ G L
theorem for_end {I : Nat → L2.St → Hp → List (Addr × HO) → Prop} {i : Nat} (sh : SH G L H) (hI : I i σ G L) : ForInv I i σ H := ⟨G, L, sh, hI⟩
theorem w_forW {J : It} {n : Nat} {Gd : Hp → Prop} {Y : Nat → Hp → V → Hp → Prop} {tb : TS} {D : Ends} (w : Walk J n Gd Y) (sh : SH G L H) (I : Nat → L2.St → Hp → List (Addr × HO) → Prop) (h0 : I 0 σ G L)
    (hG : ∀ i σ' G' L' H', i ≤ n → I i σ' G' L' → SH G' L' H' → Gd H')
    (hs : ∀ i x σ' H1 H2 G' L', i < n → I i σ' G' L' → SH G' L' H1 → Y i H1 x H2 → g x σ' H2 fun σ2 H2 => tb { D with nx := ForInv I (i + 1), ct := ForInv I (i + 1), bk := D.nx } σ2 H2)
    (hd : ∀ σ' G' L' H', I n σ' G' L' → SH G' L' H' → D.nx σ' H') :
    ForGo J g tb D σ H := by
  refine for_it w (ForInv I) ⟨G, L, sh, h0⟩ (fun i σ' H1 hi ⟨G', L', s1, i1⟩ => hG i σ' G' L' H1 hi i1 s1) ?_ (fun σ' H1 ⟨G', L', s1, i1⟩ => hd σ' G' L' H1 i1 s1)
  rintro i x σ' H1 H2 hi ⟨G', L', s1, i1⟩ y
  exact hs i x σ' H1 H2 G' L' hi i1 s1 y
end
end WB
namespace WB
open PySem L2 TL
/-- m names, all unlike, none of those that are there -/
def spNames : Sp := fun vs H Q _ => ∃ (G : Hp) (L : List (Addr × HO)) (p u : Addr) (a b m : Int) (zs : List Str), vs = [.ref p, .int m, .ref u] ∧ SH G ((p, potO a b) :: L) H ∧ PotB a b ∧ G u = some (.lst (zs.map V.str)) ∧ (∀ z ∈ zs, nameB z = true) ∧ (0 ≤ m ∧ (zs.length : Int) + m ≤ 26) ∧
  ∀ (G' H' : Hp) (q : Addr) (ys : List Str) (a' b' : Int), Same G G' → SH G' ((p, potO a' b') :: L) H' → G' q = some (.lst (ys.map V.str)) → PotB a' b' → (ys.length : Int) = m → (∀ y ∈ ys, nameB y = true ∧ y ∉ zs) → ys.Nodup → Q (.ref q) H'
end WB
/-! WB9: things: what they are, in plain Lean; promises of tests. -/
namespace WB
open PySem L2 TL
/-! ### small data -/
mutual
def smD : PyData → Bool
  | .none => true | .bool _ => true | .int _ => true
  | .str z => decide (z.length ≤ 1000000) && (tl z).all fun c => decide (c < 0x110000)
  | .list ds => decide (ds.length ≤ 1000000) && smAll ds
  | .tuple ds => decide (ds.length ≤ 1000) && smAll ds
  | .dict _ => true
def smAll : List PyData → Bool
  | [] => true
  | d :: ds => smD d && smAll ds
end
theorem smAll_iff : ∀ {ds : List PyData}, smAll ds = true ↔ ∀ d ∈ ds, smD d = true
  | [] => by simp [smAll]
  | d :: ds => by simp [smAll, smAll_iff (ds := ds)]
theorem sm_len {z : Str} (h : smD (.str z) = true) : z.length ≤ 1000000 := by
  simp only [smD, Bool.and_eq_true, decide_eq_true_eq] at h; exact h.1
/-! ### what is what -/
def lettersT : Str := Str.ofString "abcdefghijklmnopqrstuvwxyz"
def figuresT : Str := Str.ofString "0123456789"
def madeB (d : PyData) (S : Str) (m : Int) : Bool := match d with
  | .str z => decide (1 ≤ (z.length : Int)) && decide ((z.length : Int) ≤ m) && (tl z).all fun c => decide (c ∈ tl S)
  | _ => false
def nameD (d : PyData) : Bool := match d with | .str z => nameB z | _ => false
def wordD (d : PyData) : Bool := match d with | .str z => wordB z | _ => false
theorem mem_letters (c : Nat) : decide (c ∈ tl lettersT) = isLow c := by
  unfold lettersT
  rw [letters_tl]
  by_cases h : isLow c = true
  · rw [h, decide_eq_true]
    simp only [isLow, Bool.and_eq_true, decide_eq_true_eq] at h
    exact List.mem_map.mpr ⟨c - 97, List.mem_range.mpr (by omega), by omega⟩
  · rw [decide_eq_false fun q => h (low_lets q)]
    simpa using h
theorem figures_tl : tl figuresT = (List.range 10).map (48 + ·) := by unfold figuresT; rw [tl_ofString]; decide +kernel
theorem mem_figures (c : Nat) : decide (c ∈ tl figuresT) = isFig c := by
  rw [figures_tl]
  by_cases h : isFig c = true
  · rw [h, decide_eq_true]
    simp only [isFig, Bool.and_eq_true, decide_eq_true_eq] at h
    exact List.mem_map.mpr ⟨c - 48, List.mem_range.mpr (by omega), by omega⟩
  · rw [decide_eq_false fun q => h ?_]
    · simpa using h
    · obtain ⟨i, hi, rfl⟩ := List.mem_map.mp q
      have := List.mem_range.mp hi
      simp only [isFig, Bool.and_eq_true, decide_eq_true_eq]; omega
theorem mem_both (c : Nat) : decide (c ∈ tl (lettersT ++ figuresT)) = (isLow c || isFig c) := by
  rw [tl_append, ← mem_letters, ← mem_figures]
  simp only [List.mem_append, Bool.decide_or]
theorem made_name (d : PyData) : madeB d lettersT 8 = nameD d := by
  cases d <;> try rfl
  rename_i z
  show (_ && _ && _) = nameB z
  unfold nameB
  rw [tl_len]
  congr 1
  · congr 1 <;> exact decide_eq_decide.mpr (by omega)
  · congr 1; funext c; exact mem_letters c
theorem made_word (d : PyData) : madeB d (lettersT ++ figuresT) 12 = wordD d := by
  cases d <;> try rfl
  rename_i z
  show (_ && _ && _) = wordB z
  unfold wordB
  rw [tl_len]
  congr 1
  · congr 1 <;> exact decide_eq_decide.mpr (by omega)
  · congr 1; funext c; exact mem_both c
def wholeD (d : PyData) (m : Int) : Bool := match d with | .int i => decide (m ≤ i) | _ => false
def pairD (d : PyData) (m : Int) : Bool := match d with | .tuple [a, b] => nameD a && wholeD b m | _ => false
def sortsT : List Str := ["came", "short", "ask", "row"]
def sortD (d : PyData) : Bool := inS d sortsT
def letterD (ds : List PyData) : Bool := match ds with | [_, b, c, d] => nameD b && nameD c && wordD d | _ => false
def echoD (ds : List PyData) : Bool := match ds with | [_, b, c, d, e] => nameD b && nameD c && sortD d && pairD e 0 | _ => false
def answerD (ds : List PyData) : Bool := match ds with | [_, b, c, d, e] => nameD b && sortD c && pairD d 0 && pairD e 1 | _ => false
def unlike : List PyData → Bool
  | [] => true
  | d :: ds => !(ds.any fun e => PyData.eqv d e) && unlike ds
def shutD (d : PyData) : Bool := match d with | .tuple ds => ds.all nameD && unlike ds | _ => false
def goerD (ds : List PyData) : Bool := match ds with | [_, b, c, d] => nameD b && wholeD c 2 && shutD d | _ => false
def thingD (d : PyData) : Bool := match d with
  | .tuple (a :: r) => (isStrOf a "letter" && letterD (a :: r)) || (isStrOf a "echo" && echoD (a :: r)) || (isStrOf a "answer" && answerD (a :: r)) || (isStrOf a "goer" && goerD (a :: r))
  | _ => false
/-! ### a test of one thing -/
def spT1 (K : PySem.W.Frag) (f : PyData → Bool) : Sp := fun vs H Q _ => ∃ (G : Hp) (L : List (Addr × HO)) (v : V) (d : PyData), vs = [v] ∧ SH G L H ∧ Dq K G v d ∧ smD d = true ∧ ∀ G' H', Same G G' → SH G' L H' → Q (.bl (f d)) H'
def spT2 (K : PySem.W.Frag) (f : PyData → Int → Bool) : Sp := fun vs H Q _ => ∃ (G : Hp) (L : List (Addr × HO)) (v : V) (d : PyData) (m : Int), vs = [v, .int m] ∧ SH G L H ∧ Dq K G v d ∧ smD d = true ∧ ∀ G' H', Same G G' → SH G' L H' → Q (.bl (f d m)) H'
def spMade (K : PySem.W.Frag) : Sp := fun vs H Q _ => ∃ (G : Hp) (L : List (Addr × HO)) (v : V) (d : PyData) (S : Str) (m : Int), vs = [v, .str S, .int m] ∧ SH G L H ∧ Dq K G v d ∧ smD d = true ∧ ∀ G' H', Same G G' → SH G' L H' → Q (.bl (madeB d S m)) H'
/-- a test of a tuple -/
def spTt (K : PySem.W.Frag) (f : List PyData → Bool) : Sp := fun vs H Q _ => ∃ (G : Hp) (L : List (Addr × HO)) (a : Addr) (xs : List V) (ds : List PyData), vs = [.ref a] ∧ SH G L H ∧ SqT K G a xs ∧ DqAll K G xs ds ∧ smD (.tuple ds) = true ∧
  ∀ G' H', Same G G' → SH G' L H' → Q (.bl (f ds)) H'
theorem w_T1 {K : PySem.W.Frag} {f : PyData → Bool} {G H : Hp} {L : List (Addr × HO)} {v : V} {d : PyData} {Q : VK} {E : XK} (sh : SH G L H) (hd : Dq K G v d) (hs : smD d = true) (k : ∀ G' H', Same G G' → SH G' L H' → Q (.bl (f d)) H') : spT1 K f [v] H Q E := ⟨G, L, v, d, rfl, sh, hd, hs, k⟩
theorem w_T2 {K : PySem.W.Frag} {f : PyData → Int → Bool} {m : Int} {G H : Hp} {L : List (Addr × HO)} {v : V} {d : PyData} {Q : VK} {E : XK} (sh : SH G L H) (hd : Dq K G v d) (hs : smD d = true) (k : ∀ G' H', Same G G' → SH G' L H' → Q (.bl (f d m)) H') : spT2 K f [v, .int m] H Q E := ⟨G, L, v, d, m, rfl, sh, hd, hs, k⟩
theorem dq_str {K : PySem.W.Frag} {G : Hp} {v : V} {d : PyData} (h : Dq K G v d) (t : isTy "str" d = true) : ∃ z, d = .str z ∧ v = .str z := by
  cases h with
  | str z => exact ⟨_, rfl, rfl⟩
  | _ => exact absurd t (by simp [isTy, isTyN, tyName])
theorem dq_tup {K : PySem.W.Frag} {G : Hp} {v : V} {d : PyData} (h : Dq K G v d) (t : isTy "tuple" d = true) : ∃ a xs ds, d = .tuple ds ∧ v = .ref a ∧ SqT K G a xs ∧ DqAll K G xs ds := by
  cases h with
  | tup h1 h2 => exact ⟨_, _, _, rfl, rfl, h1, h2⟩
  | _ => exact absurd t (by simp [isTy, isTyN, tyName])
theorem dq_int {K : PySem.W.Frag} {G : Hp} {v : V} {d : PyData} (h : Dq K G v d) (t : isTy "int" d = true) (n : isTy "bool" d = false) : ∃ i, d = .int i ∧ v = .int i := by
  cases h with
  | int i => exact ⟨_, rfl, rfl⟩
  | bl b => exact absurd n (by simp [isTy, isTyN, tyName])
  | _ => exact absurd t (by simp [isTy, isTyN, tyName])
end WB
/-! WBset: len(set(t)), t a tuple of texts: how many unlike ones there are. -/
namespace WB
open PySem L2 TL
/-- the unlike ones, in the order in which they are met -/
def dst (l : List Str) : List Str := l.foldl (fun acc x => if x ∈ acc then acc else acc ++ [x]) []
theorem dst_snoc (l : List Str) (x : Str) : dst (l ++ [x]) = if x ∈ dst l then dst l else dst l ++ [x] := by unfold dst; rw [List.foldl_append]; rfl
theorem snoc_ind {P : List Str → Prop} (h0 : P []) (h1 : ∀ l x, P l → P (l ++ [x])) (l : List Str) : P l := by
  have : ∀ n (l : List Str), l.length = n → P l := by
    intro n
    induction n with
    | zero => intro l hl; rw [List.length_eq_zero_iff.mp hl]; exact h0
    | succ n ih =>
      intro l hl
      have hne : l ≠ [] := by intro q; rw [q] at hl; cases hl
      rw [← List.dropLast_concat_getLast hne]
      exact h1 _ _ (ih _ (by rw [List.length_dropLast]; omega))
  exact this _ l rfl
theorem mem_dst (l : List Str) : ∀ x, x ∈ dst l ↔ x ∈ l := by
  refine snoc_ind (P := fun l => ∀ x, x ∈ dst l ↔ x ∈ l) (fun x => Iff.rfl) (fun l y ih x => ?_) l
  rw [dst_snoc]
  split
  · rename_i h
    rw [ih, List.mem_append, List.mem_singleton]
    exact ⟨.inl, fun q => q.elim id fun e => e ▸ (ih y).mp h⟩
  · rw [List.mem_append, List.mem_append, ih]
theorem dst_len (l : List Str) : (dst l).length ≤ l.length ∧ ((dst l).length = l.length ↔ l.Nodup) := by
  refine snoc_ind (P := fun l => (dst l).length ≤ l.length ∧ ((dst l).length = l.length ↔ l.Nodup)) ⟨Nat.le_refl _, fun _ => List.nodup_nil, fun _ => rfl⟩ (fun l y ih => ?_) l
  obtain ⟨i1, i2⟩ := ih
  have hn : (l ++ [y]).Nodup ↔ l.Nodup ∧ y ∉ l := by
    rw [List.nodup_append]
    constructor
    · rintro ⟨h1, _, h3⟩
      exact ⟨h1, fun q => h3 y q y List.mem_cons_self rfl⟩
    · rintro ⟨h1, h2⟩
      exact ⟨h1, by simp, fun a ha b hb => by have : b = y := by simpa using hb
                                              subst this; exact fun e => h2 (e ▸ ha)⟩
  rw [dst_snoc, hn, List.length_append, List.length_singleton]
  split
  · rename_i h
    have hl := (mem_dst l y).mp h
    exact ⟨by omega, fun q => by omega, fun q => absurd hl q.2⟩
  · rename_i h
    have hl : y ∉ l := fun q => h ((mem_dst l y).mpr q)
    rw [List.length_append, List.length_singleton]
    exact ⟨by omega, fun q => ⟨i2.mp (by omega), hl⟩, fun q => by rw [i2.mpr q.1]⟩
section
open PySem.Spec PyProof.Rows
variable {P : Program} {w : World} {A : Around} {E : Value → Shared → Prop}
/-- the set's loop over texts -/
theorem setLoop {I : Addr} {fp wr : List Addr} {G : Array GenState → Array GenState → Prop} {n : Nat} {Pv : Nat → Value → Prop} {Sv : Nat → Shared → Prop} {R : Result → Shared → Prop}
    (W : WalksS P w A.in1 I fp wr G n Pv Sv) (a : Addr) (ha : a ∉ fp) (zs : List Str) (hn : n = zs.length) (hb : zs.length + 1 < scanBound) (hv : ∀ i v, Pv i v → ∃ z t, zs[i]? = some z ∧ v = .str z t) :
    ∀ (m i : Nat) (s : Shared), n - i = m → i ≤ n → Sv i s → s.heap.SetOf (PySem.strKind P w) a (fun j => decide (j ∈ dst (zs.take i))) (dst (zs.take i)).length →
      (∀ s', Moved (a :: wr) G s s' → s'.heap.SetOf (PySem.strKind P w) a (fun j => decide (j ∈ dst zs)) (dst zs).length → R (.ok (.ret .none)) s') →
      codeAny (model P w) A (.builtin "set.update.loop" ⟨[.ref a, .ref I], []⟩) R s := by
  have a_wr : a ∉ wr := fun q => ha (W.sub _ q)
  have more : ∀ b ∈ wr, b ∈ a :: wr := fun b q => List.mem_cons_of_mem _ q
  intro m
  induction m with
  | zero =>
    intro i s hm hi st so fin
    have e : zs.take i = zs := List.take_of_length_le (by omega)
    obtain rfl : i = n := by omega
    refine codeAny_builtin F.entry_set_update_loop ?_
    rw [Around.under_plainId F.plain_set_update_loop _]
    refine wpAny_bind (W.done s _ _ st fun s' mv => ?_)
    rw [e] at so
    obtain ⟨o, es, ep, t, ho, r⟩ := so
    exact wpAny_pure (fin s' (mv.mono more) ⟨o, es, ep, t, mv.heap a _ a_wr ho, r⟩)
  | succ m ih =>
    intro i s hm hi st so fin
    have lt : i < n := by omega
    refine codeAny_builtin F.entry_set_update_loop ?_
    rw [Around.under_plainId F.plain_set_update_loop _]
    refine wpAny_bind (W.item i s _ _ lt st fun v s' pv st' mv => ?_)
    obtain ⟨z, t, hz, rfl⟩ := hv i v pv
    have so' : s'.heap.SetOf (PySem.strKind P w) a (fun j => decide (j ∈ dst (zs.take i))) (dst (zs.take i)).length := by
      obtain ⟨o, es, ep, tb, ho, r⟩ := so
      exact ⟨o, es, ep, tb, mv.heap a _ a_wr ho, r⟩
    show wpAny _ A.in1 (holding [Value.str z t] (setAdd a (.str z t)) >>= _) _ _ s'
    refine wpAny_bind (wpAny_holding ?_)
    unfold setAdd
    refine wpAny_holding (wpAny_bind ((PySem.strKind P w).pyHash (k := z) (strKind_is _ _ _ _) ?_))
    have hlen := (dst_len (zs.take i)).1
    refine wpAny_setAddHashed_of (knd := PySem.strKind P w) (s := { s' with toks := s'.toks + 1 }) (strKind_is _ _ _ _) rfl so' (by rw [List.length_take] at hlen; omega) fun h' sb so2 => ?_
    have e2 : zs.take (i + 1) = zs.take i ++ [z] := by rw [List.take_add_one, hz]; rfl
    have so3 : h'.SetOf (PySem.strKind P w) a (fun j => decide (j ∈ dst (zs.take (i + 1)))) (dst (zs.take (i + 1))).length := by
      refine SetOf_congr so2 (fun j => ?_) ?_
      · rw [e2]
        simp only [mem_dst, List.mem_append, List.mem_singleton, Bool.decide_or]
      · rw [e2, dst_snoc]
        by_cases q : z ∈ dst (zs.take i) <;> simp [q]
    have step := ih (i + 1) { s' with heap := h', toks := s'.toks + 1 } (by omega) lt (W.frame _ s' _ _ st' (Nat.le_succ _) fun b hb o e => by
      rw [sb.2 b fun q => ha (q ▸ hb)]; exact e) so3 fun s'' mv2 so4 => fin s'' (Moved.trans W.gtrans ((mv.mono more).then_heap (Nat.le_succ _) fun b o hb e => by
      rw [sb.2 b fun q => hb (q ▸ List.mem_cons_self)]; exact e) mv2) so4
    exact wpAny_pure ⟨plainId_quiet F.plain_set_update_loop _, step⟩
end
section
open PySem.Spec PyProof.Rows
variable {P : Program} {w : World} {A : Around} {E : Value → Shared → Prop} {s : Shared}
/-- the new set, at the heap's end -/
abbrev newSet (led : Bool) : Obj := { cls := .type "set", dict := none, data := .set #[] 0 (.fresh 0 0 led) }
/-- set(t), t a tuple of texts -/
theorem setOfTup {l : Addr} {items : Array Value} (zs : List Str) {Q : Value → Shared → Prop} (hh : A.handled = none) (hl : s.heap.IsTuple l items) (hit : Vals (zs.map V.str) items.toList) (hb : zs.length + 1 < scanBound)
    (h : ∀ (h' : Heap) (tk : Nat), h'.SetOf (PySem.strKind P w) s.heap.objs.size (fun j => decide (j ∈ dst zs)) (dst zs).length → (∀ b o, s.heap.get? b = some o → h'.get? b = some o) → Q (.ref s.heap.objs.size) { s with heap := h', toks := tk }) :
    wpAny (model P w) A (call (.type "set") [.ref l]) Q E s := by
  have isz : items.size = zs.length := by
    have q := hit.length
    rw [List.length_map, Array.length_toList] at q
    exact q.symm
  have vals : ∀ (i : Nat) (v : Value), items[i]? = some v → ∃ z t, zs[i]? = some z ∧ v = .str z t := fun i v hv => by
    have hi : i < zs.length := by rw [← isz]; exact (Array.getElem?_eq_some_iff.mp hv).1
    obtain ⟨u, e1, e2⟩ := hit.get (i := i) (x := V.str zs[i]) (by rw [List.getElem?_map, List.getElem?_eq_getElem hi]; rfl)
    rw [Array.getElem?_toList, hv] at e1
    cases e1
    obtain ⟨t, e⟩ := (show ∃ t, v = Value.str zs[i] t from e2)
    exact ⟨zs[i], t, List.getElem?_eq_getElem hi, e⟩
  obtain ⟨c, tail, hmro⟩ := F.called_set.mro
  have made := F.called_set.made
  have subs := F.called_set.sub
  refine wpAny_call (codeAny_of_tree ?_)
  show wpAny _ _ (callAny (.type "set") _) _ _ _
  refine wpAny_pure ⟨Code.quiet_builtin _ (by decide +kernel), codeAny_builtin F.entry_type_call ?_⟩
  rw [Around.under_plain (weight_type_call_type "set" [.ref l] []) rfl]
  have f1 := F.called_set.notType
  have f2 := F.called_set.canCreate
  have f3 := F.typeCall_set_1 (.ref l)
  repeat (any_goals (first | assumption | wp_step))
  refine codeAny_mono (code_set_new_1 (.ref l) (E := E) (Q₁ := fun x s₁ => ∃ led, x = .ref s.heap.objs.size ∧ s₁ = { s with heap := s.heap.push (newSet led) }) fun led => ⟨led, rfl, rfl⟩) fun r s₁ hr => ?_
  cases r with
  | error e => exact hr
  | ok fl =>
    cases fl with
    | next => exact hr
    | brk => exact hr
    | cont => exact hr
    | ret x =>
      obtain ⟨led, rfl, rfl⟩ := hr
      have at0 : (s.heap.push (newSet led)).get? s.heap.objs.size = some (newSet led) := Heap.get?_push_size _ rfl
      have ty0 : Shared.TypeIs { s with heap := s.heap.push (newSet led) } (.ref s.heap.objs.size) "set" := ⟨_, at0, rfl⟩
      have g1 := F.called_set.init.lookup
      have g2 := F.called_set.init.bind (.ref s.heap.objs.size)
      repeat (any_goals (first | assumption | wp_step))
      refine codeAny_mono (codeAny_call_builtin (R := wants (fun r s₂ => r = .none ∧ ∃ h' tk, s₂ = { s with heap := h', toks := tk } ∧ h'.SetOf (PySem.strKind P w) s.heap.objs.size (fun j => decide (j ∈ dst zs)) (dst zs).length ∧
          (∀ b o, s.heap.get? b = some o → h'.get? b = some o)) E) F.called_set.init.plain F.entry_set_init (check_set_init_1 ty0 ?_)) fun r₂ s₂ hr₂ => ?_
      · obtain ⟨⟨oc, od, dt, sl⟩, ho, hc, nn, hd⟩ := hl
        simp only at hc hd
        subst hc hd
        have ho1 : (s.heap.push (newSet led)).get? l = some ⟨.type "tuple", od, .seq items nn, sl⟩ := Heap.get?_push_of_some _ ho
        have k1 := F.sub_tuple_set
        have k2 := F.sub_tuple_frozenset
        have k3 : (Value.type "tuple" == Value.type "dict") = false := by decide
        have tup1 : (s.heap.push (newSet led)).IsTuple l items := ⟨_, ho1, rfl, nn, rfl⟩
        unfold Builtin.«set.__init__» noKeywords Builtin.Frozenset.updateFrom
        generalize hPI : pyIter = PI
        wp_walk
        subst hPI
        refine wpAny_pyIter_tuple tup1 (wpAny_bind (wpAny_runValue ?_))
        have below : l < s.heap.objs.size := Heap.lt_size ho
        have hh3 : A.in1.in1.in1.handled = none := by simp [hh]
        have size1 : (s.heap.push (newSet led)).objs.size = s.heap.objs.size + 1 := Heap.size_push ..
        have ne1 : l ≠ (s.heap.push (newSet led)).objs.size := by rw [size1]; exact Nat.ne_of_lt (Nat.lt_succ_of_lt below)
        have notIn : s.heap.objs.size ∉ [(s.heap.push (newSet led)).objs.size, l] := by
          rw [size1]
          simp only [List.mem_cons, List.not_mem_nil, or_false, not_or]
          exact ⟨Nat.ne_of_lt (Nat.lt_succ_self _), Nat.ne_of_gt below⟩
        refine setLoop ((Walks.tuple hh3 _ l ne1 items).toS) s.heap.objs.size notIn zs isz hb vals (items.size - 0) 0 _ (by omega) (Nat.zero_le _) ⟨⟨_, Heap.get?_push_size _ rfl, rfl, rfl⟩, tup1.push _⟩ ?so ?fin
        case so =>
          have at1 : ((s.heap.push (newSet led)).push { cls := .type "tuple_iterator", data := .fields #[.ref l, .int 0 0] }).get? s.heap.objs.size = some (newSet led) := Heap.get?_push_of_some _ at0
          exact SetOf_congr ((setObjOf_fresh (knd := PySem.strKind P w) led).setOf at1 (by unfold scanBound; omega)) (fun j => by simp [dst]) rfl
        case fin =>
          intro s' mv so
          obtain ⟨h', g', d', tk', os'⟩ := s'
          obtain rfl : g' = s.gens := mv.gens
          obtain rfl : d' = s.drawn := mv.drawn
          obtain rfl : os' = s.os := mv.os
          refine wpAny_pure ?_
          show wpAny _ _ (ret Value.none) _ _ _
          refine wpAny_pure ⟨rfl, h', tk', rfl, so, fun b o e => ?_⟩
          have lt0 : b < s.heap.objs.size := Heap.lt_size e
          refine mv.heap b o ?_ (Heap.get?_push_of_some _ (Heap.get?_push_of_some _ e))
          rw [size1]
          simp only [List.mem_cons, List.not_mem_nil, or_false, not_or]
          exact ⟨Nat.ne_of_lt lt0, Nat.ne_of_lt (Nat.lt_succ_of_lt lt0)⟩
      · cases r₂ with
        | error e => exact hr₂
        | ok fl₂ =>
          cases fl₂ with
          | next => exact hr₂.elim
          | brk => exact hr₂.elim
          | cont => exact hr₂.elim
          | ret r =>
            obtain ⟨rfl, h', tk, rfl, so, kp⟩ := hr₂
            repeat (any_goals (first | assumption | wp_step))
            exact h _ _ so kp
end
section
open PySem.Spec PyProof.Rows
variable {X : Cx} {K : PySem.W.Frag}
/-- len(set(t)) -/
def tLenSetT (K : PySem.W.Frag) (ta : TE) : TE := fun σ H Q => ta σ H fun x H1 => ∃ l, ∃ zs : List Str, x = .ref l ∧ SqT K H1 l (zs.map V.str) ∧ zs.length ≤ 1000 ∧ Q (.int (dst zs).length) H1
theorem pe_lenSetT {a : Expr} {ta : TE} {p p2 q pos : Pos} (hc : X.calm = true) (hm : X.mg "len" = none) (hm2 : X.mg "set" = none) (ha : PE X a ta) (hK : X.K = K := by rfl) (hg : Gl X "len" := by rfl) (hg2 : Gl X "set" := by rfl)
    (na : starEach [a] X.env = (false, eval a X.env) :: starEach [] X.env := by rfl) : PE X (.Call (.Name "len" p) [.Call (.Name "set" p2) [a] [] q] [] pos) (tLenSetT K ta) := by
  subst hK
  refine ⟨fun pins s σ H Q I h => Call_ (ld_blt I hg hm boot_len ?_)⟩
  refine callWith_builtin1 (args_cons (Call_ (ld_blt I hg2 hm2 boot_set ?_)) rfl) rfl rfl
  refine callWith_type1 (args_cons (thn (ha.run pins s σ H _ I h) fun v s1 ⟨x, H1, I1, r1, l, zs, ex, hq, hz, q1⟩ => args_nil ?_) na) na rfl
  subst ex
  cases r1
  obtain ⟨its, r, pl, _⟩ := I1.tuple hq
  refine setOfTup zs (I1.ok.hd hc) pl (by simpa using r) (by unfold scanBound; omega) fun h' tk so kp => args_nil ?_
  obtain ⟨o, es, ep, t, ho, hex, hd, _, _, hsb, hf, hn⟩ := so
  have I2 : Inv X pins σ H1 { s1 with heap := h', toks := tk } := I1.kept kp
  have hd1 := (dst_len zs).1
  exact call_len_set ho hex hd hf (by rw [hn]; omega) ⟨.int (dst zs).length, H1, I2.tok _, ⟨_, by rw [hn]⟩, q1⟩
end
end WB
/-! WB10: written dicts with text keys, by what they hold; the head's hook with one more test. -/
namespace WB
open PySem L2 TL
/-- at d stands a written dict of these -/
structure StrTab (K : PySem.W.Frag) (w : World) (d : Addr) (kvs : List (Str × V)) : Prop where
  kd : ∃ es n, KDict K w d es n
  yes : ∀ z v, kvs.lookup z = some v → ∃ u, PySem.W.nsIn K d z = some (some u) ∧ RelV v u
  no : ∀ z, kvs.lookup z = none → PySem.W.nsIn K d z = some none
def entB : List DictEntry → List (Str × V) → Bool
  | [], [] => true
  | e :: es, p :: ps => (match e.key with | .str k _ => decide (k = p.1) | _ => false) && (He.relB p.2 e.val && entB es ps)
  | _, _ => false
def tabB (K : PySem.W.Frag) (d : Addr) (kvs : List (Str × V)) : Bool := match K.lookup d with
  | some ⟨_, _, .dict es _, _⟩ => entB es.toList kvs
  | _ => false
theorem ent_find : ∀ {es : List DictEntry} {kvs : List (Str × V)}, entB es kvs = true → ∀ z, (es.any (·.refKey) = false) ∧ (match kvs.lookup z with | some v => ∃ e, es.find? (·.key.isStr z) = some e ∧ RelV v e.val | none => es.find? (·.key.isStr z) = none)
  | [], [], _, z => ⟨rfl, rfl⟩
  | [], _ :: _, h, _ => by cases h
  | _ :: _, [], h, _ => by cases h
  | e :: es, p :: ps, h, z => by
    obtain ⟨h1, h2⟩ := Bool.and_eq_true_iff.mp (show ((match e.key with | .str k _ => decide (k = p.1) | _ => false) && (He.relB p.2 e.val && entB es ps)) = true from h)
    obtain ⟨h3, h4⟩ := Bool.and_eq_true_iff.mp h2
    obtain ⟨i1, i2⟩ := ent_find h4 z
    obtain ⟨eh, ek, ev⟩ := e
    cases ek with
    | str k t =>
      have hk : k = p.1 := of_decide_eq_true h1
      obtain ⟨p1, p2⟩ := p
      subst hk
      refine ⟨by rw [List.any_cons, i1]; rfl, ?_⟩
      by_cases e : z = k
      · subst e
        have q : List.lookup z ((z, p2) :: ps) = some p2 := by simp [List.lookup]
        rw [q]
        refine ⟨_, by rw [List.find?_cons]; simp [Value.isStr], He.relB_ok h3⟩
      · have q : List.lookup z ((k, p2) :: ps) = ps.lookup z := by
          have : (z == k) = false := by simpa using e
          simp [List.lookup, this]
        rw [q]
        have q2 : (Value.str k t).isStr z = false := by simp [Value.isStr]; exact fun h => e h.symm
        rw [List.find?_cons]
        simp only [q2]
        exact i2
    | _ => cases h1
theorem tab_ok {K : PySem.W.Frag} {w : World} {d : Addr} {kvs : List (Str × V)} (kd : ∃ es n, KDict K w d es n) (h : tabB K d kvs = true) : StrTab K w d kvs := by
  obtain ⟨es, n, D⟩ := kd
  have h' : entB es.toList kvs = true := by
    unfold tabB at h
    rw [D.at_] at h
    exact h
  refine ⟨⟨es, n, D⟩, fun z v hv => ?_, fun z hv => ?_⟩
  · have := (ent_find h' z).2
    rw [hv] at this
    obtain ⟨e, he, r⟩ := this
    exact ⟨e.val, by unfold PySem.W.nsIn; rw [D.at_]; show (match es.toList.find? _ with | some e => some (some e.val) | none => _) = _; rw [he], r⟩
  · have hh := ent_find h' z
    have := hh.2
    rw [hv] at this
    unfold PySem.W.nsIn
    rw [D.at_]
    show (match es.toList.find? _ with | some e => some (some e.val) | none => if es.toList.any (·.refKey) then none else some none) = _
    rw [this]
    show (if es.toList.any (·.refKey) then none else some none) = _
    rw [hh.1]; rfl
def rInTab (K : PySem.W.Frag) (w : World) (neg : Bool) : R2 := fun x y H Q => ∃ z d kvs, x = .str z ∧ y = .ref d ∧ StrTab K w d kvs ∧ Q (.bl (if neg then !(kvs.lookup z).isSome else (kvs.lookup z).isSome)) H
def rIxTab (K : PySem.W.Frag) (w : World) : R2 := fun x y H Q => ∃ z d kvs v, x = .ref d ∧ y = .str z ∧ StrTab K w d kvs ∧ kvs.lookup z = some v ∧ Q v H
section
variable {X : Cx} {K : PySem.W.Frag} {w : World}
theorem kInTab (hK : X.K = K := by rfl) (hw : X.w = w := by rfl) : OpR X (compareOp .In) (rInTab K w false) := by
  subst hK hw
  intro pins s σ H x y v u Q I rx ry h
  obtain ⟨z, d, kvs, rfl, rfl, S, q⟩ := h
  obtain ⟨es, n, D⟩ := S.kd
  cases hl : kvs.lookup z with
  | none => exact op_in_kd D pins s σ H _ _ v u Q I rx ry ⟨z, none, rfl, rfl, S.no z hl, by rw [hl] at q; exact q⟩
  | some v0 =>
    obtain ⟨u0, e, _⟩ := S.yes z v0 hl
    exact op_in_kd D pins s σ H _ _ v u Q I rx ry ⟨z, some u0, rfl, rfl, e, by rw [hl] at q; exact q⟩
theorem kNotInTab (hK : X.K = K := by rfl) (hw : X.w = w := by rfl) : OpR X (compareOp .NotIn) (rInTab K w true) := by
  subst hK hw
  intro pins s σ H x y v u Q I rx ry h
  obtain ⟨z, d, kvs, rfl, rfl, S, q⟩ := h
  obtain ⟨es, n, D⟩ := S.kd
  cases hl : kvs.lookup z with
  | none => exact op_notIn_kd D pins s σ H _ _ v u Q I rx ry ⟨z, none, rfl, rfl, S.no z hl, by rw [hl] at q; exact q⟩
  | some v0 =>
    obtain ⟨u0, e, _⟩ := S.yes z v0 hl
    exact op_notIn_kd D pins s σ H _ _ v u Q I rx ry ⟨z, some u0, rfl, rfl, e, by rw [hl] at q; exact q⟩
theorem kIxTab (hK : X.K = K := by rfl) (hw : X.w = w := by rfl) : IxR X (rIxTab K w) := by
  subst hK hw
  intro value slice pins s σ H x y v u Q I rx ry h hs
  obtain ⟨z, d, kvs, v0, rfl, rfl, S, hl, q⟩ := h
  obtain ⟨es, n, D⟩ := S.kd
  obtain ⟨u0, e, r⟩ := S.yes z v0 hl
  exact ix_kdict value slice pins s σ H _ _ v u Q I rx ry ⟨d, z, v0, rfl, rfl, ⟨es, n, u0, D.at_, D.lit, e, r⟩, q⟩ hs
end
section
variable {K : PySem.W.Frag} {w : World} {H : Hp} {Q : VK} {z : Str} {d : Addr} {kvs : List (Str × V)} {v : V}
theorem o_inTab (S : StrTab K w d kvs) (q : Q (.bl (kvs.lookup z).isSome) H) : rInTab K w false (.str z) (.ref d) H Q := ⟨z, d, kvs, rfl, rfl, S, q⟩
theorem o_ninTab (S : StrTab K w d kvs) (q : Q (.bl (!(kvs.lookup z).isSome)) H) : rInTab K w true (.str z) (.ref d) H Q := ⟨z, d, kvs, rfl, rfl, S, q⟩
theorem o_ixTab (S : StrTab K w d kvs) (e : kvs.lookup z = some v) (q : Q v H) : rIxTab K w (.ref d) (.str z) H Q := ⟨z, d, kvs, v, rfl, rfl, S, e, q⟩
end
end WB
namespace He
open PySem PySem.Spec PyProof.Rows L2
/-- facts, defs, tables, one more test -/
abbrev AlZ : Type := AlT × Bool
def obsZ (fa : List Fa) (fn : List DefD) (ts : List Tab) (ex : PySem.W.Frag → Bool) (K : PySem.W.Frag) : AlZ := (obsT fa fn ts K, ex K)
def obsZG (n : Nat) (fa : List Fa) (fn : List DefD) (ts : List Tab) (ex : PySem.W.Frag → Bool) (g : Addr → Option Obj) : AlZ := obsZ fa fn ts ex (frG g (asD g n))
structure SaysZ (fa : List Fa) (fn : List DefD) (ts : List Tab) (ex : PySem.W.Frag → Bool) (w : World) (K : PySem.W.Frag) : Prop where
  t : SaysT fa fn ts w K
  ex : ex K = true
def hookZ (n : Nat) (fa : List Fa) (fn : List DefD) (ts : List Tab) (ex : PySem.W.Frag → Bool) : PySem.W.Hook where
  α := AlZ
  obs := fun s => obsZG n fa fn ts ex s.heap.get?
  val := fun w => (valT fn ts w, true)
  says := fun w h => ∃ K : PySem.W.Frag, K.In h ∧ SaysZ fa fn ts ex w K
  of := fun _ _ e => ⟨_, frG_in, ⟨congrArg (fun z : AlZ => z.1) e, congrArg (fun z : AlZ => z.2) e⟩⟩
  keeps := fun _ _ _ ⟨K, hK, c⟩ k => ⟨K, PySem.W.Frag.In.keeps hK k, c⟩
theorem obsZG_eq {n : Nat} {fa : List Fa} {fn : List DefD} {ts : List Tab} {ex : PySem.W.Frag → Bool} {g : Addr → Option Obj} {s : Shared} (h : ∀ a, g a = s.heap.get? a) : obsZG n fa fn ts ex g = (hookZ n fa fn ts ex).obs s := by
  have e : g = s.heap.get? := funext h
  rw [e] <;> rfl
theorem defs_mem {fa : List Fa} {fn : List DefD} {K : PySem.W.Frag} (c : SaysD fa fn K) {d : DefD} (h : d ∈ fn) : ∃ fd, FunD K d.name d.qual d.params d.body d.scope (d.dvs K) (d.kws K) (fAd K d.at_) fd := by
  obtain ⟨i, hi, e⟩ := List.getElem_of_mem h
  exact c.def_ i (by rw [List.getElem?_eq_getElem hi, e])
end He
/-! WB11: small facts of things. -/
namespace WB
open PySem L2 TL
theorem w_kb {Q : VK} {H : Hp} {b c : Bool} (e : c = b) (q : Q (.bl c) H) : Q (.bl b) H := e ▸ q
theorem dq_len4 {K : PySem.W.Frag} {G : Hp} {xs : List V} {ds : List PyData} (h : DqAll K G xs ds) (e : ds.length = 4) : ∃ x1 x2 x3 x4 d1 d2 d3 d4, xs = [x1, x2, x3, x4] ∧ ds = [d1, d2, d3, d4] ∧ Dq K G x1 d1 ∧ Dq K G x2 d2 ∧ Dq K G x3 d3 ∧ Dq K G x4 d4 := by
  match h with
  | .cons h1 (.cons h2 (.cons h3 (.cons h4 .nil))) => exact ⟨_, _, _, _, _, _, _, _, rfl, rfl, h1, h2, h3, h4⟩
  | .nil => cases e
  | .cons _ .nil => cases e
  | .cons _ (.cons _ .nil) => cases e
  | .cons _ (.cons _ (.cons _ .nil)) => cases e
  | .cons _ (.cons _ (.cons _ (.cons _ (.cons _ _)))) => simp at e
theorem dq_len5 {K : PySem.W.Frag} {G : Hp} {xs : List V} {ds : List PyData} (h : DqAll K G xs ds) (e : ds.length = 5) : ∃ x1 x2 x3 x4 x5 d1 d2 d3 d4 d5, xs = [x1, x2, x3, x4, x5] ∧ ds = [d1, d2, d3, d4, d5] ∧ Dq K G x1 d1 ∧ Dq K G x2 d2 ∧ Dq K G x3 d3 ∧ Dq K G x4 d4 ∧ Dq K G x5 d5 := by
  match h with
  | .cons h1 (.cons h2 (.cons h3 (.cons h4 (.cons h5 .nil)))) => exact ⟨_, _, _, _, _, _, _, _, _, _, rfl, rfl, h1, h2, h3, h4, h5⟩
  | .nil => cases e
  | .cons _ .nil => cases e
  | .cons _ (.cons _ .nil) => cases e
  | .cons _ (.cons _ (.cons _ .nil)) => cases e
  | .cons _ (.cons _ (.cons _ (.cons _ .nil))) => cases e
  | .cons _ (.cons _ (.cons _ (.cons _ (.cons _ (.cons _ _))))) => simp at e
theorem dq_len2 {K : PySem.W.Frag} {G : Hp} {xs : List V} {ds : List PyData} (h : DqAll K G xs ds) (e : ds.length = 2) : ∃ x1 x2 d1 d2, xs = [x1, x2] ∧ ds = [d1, d2] ∧ Dq K G x1 d1 ∧ Dq K G x2 d2 := by
  match h with
  | .cons h1 (.cons h2 .nil) => exact ⟨_, _, _, _, rfl, rfl, h1, h2⟩
  | .nil => cases e
  | .cons _ .nil => cases e
  | .cons _ (.cons _ (.cons _ _)) => simp at e
theorem eqv_int (i j : Int) : PyData.eqv (.int i) (.int j) = (i == j) := by simp [PyData.eqv]
theorem letterD_ne {ds : List PyData} (h : ds.length ≠ 4) : letterD ds = false := by
  match ds with
  | [] | [_] | [_, _] | [_, _, _] => rfl
  | [_, _, _, _] => exact absurd rfl h
  | _ :: _ :: _ :: _ :: _ :: _ => rfl
theorem goerD_ne {ds : List PyData} (h : ds.length ≠ 4) : goerD ds = false := by
  match ds with
  | [] | [_] | [_, _] | [_, _, _] => rfl
  | [_, _, _, _] => exact absurd rfl h
  | _ :: _ :: _ :: _ :: _ :: _ => rfl
theorem echoD_ne {ds : List PyData} (h : ds.length ≠ 5) : echoD ds = false := by
  match ds with
  | [] | [_] | [_, _] | [_, _, _] | [_, _, _, _] => rfl
  | [_, _, _, _, _] => exact absurd rfl h
  | _ :: _ :: _ :: _ :: _ :: _ :: _ => rfl
theorem answerD_ne {ds : List PyData} (h : ds.length ≠ 5) : answerD ds = false := by
  match ds with
  | [] | [_] | [_, _] | [_, _, _] | [_, _, _, _] => rfl
  | [_, _, _, _, _] => exact absurd rfl h
  | _ :: _ :: _ :: _ :: _ :: _ :: _ => rfl
theorem pairD_ne {ds : List PyData} {m : Int} (h : ds.length ≠ 2) : pairD (.tuple ds) m = false := by
  match ds with
  | [] | [_] => rfl
  | [_, _] => exact absurd rfl h
  | _ :: _ :: _ :: _ => rfl
theorem sm_mem {ds : List PyData} (h : smD (.tuple ds) = true) : ∀ d ∈ ds, smD d = true := by
  simp only [smD, Bool.and_eq_true] at h
  exact smAll_iff.mp h.2
theorem sm_tlen {ds : List PyData} (h : smD (.tuple ds) = true) : ds.length ≤ 1000 := by
  simp only [smD, Bool.and_eq_true, decide_eq_true_eq] at h
  exact h.1
theorem at1 {α : Type} {v w : α} {vs : List α} : atI (v :: w :: vs) 1 = some w := atI_nat (j := 1) rfl
theorem at2 {α : Type} {v w x : α} {vs : List α} : atI (v :: w :: x :: vs) 2 = some x := atI_nat (j := 2) rfl
theorem at3 {α : Type} {v w x y : α} {vs : List α} : atI (v :: w :: x :: y :: vs) 3 = some y := atI_nat (j := 3) rfl
theorem at4 {α : Type} {v w x y z : α} {vs : List α} : atI (v :: w :: x :: y :: z :: vs) 4 = some z := atI_nat (j := 4) rfl

theorem w_Tt {K : PySem.W.Frag} {f : List PyData → Bool} {G H : Hp} {L : List (Addr × HO)} {a : Addr} {xs : List V} {ds : List PyData} {Q : VK} {E : XK} (sh : SH G L H) (ha : SqT K G a xs) (hd : DqAll K G xs ds) (hs : smD (.tuple ds) = true) (k : ∀ G' H', Same G G' → SH G' L H' → Q (.bl (f ds)) H') : spTt K f [.ref a] H Q E := ⟨G, L, a, xs, ds, rfl, sh, ha, hd, hs, k⟩
theorem w_lenSetT {K : PySem.W.Frag} {σ : L2.St} {H : Hp} {ta : TE} {Q : VK} (h : ta σ H fun x H1 => ∃ l, ∃ zs : List Str, x = .ref l ∧ SqT K H1 l (zs.map V.str) ∧ zs.length ≤ 1000 ∧ Q (.int (dst zs).length) H1) : tLenSetT K ta σ H Q := h
end WB
/-! WB12: a tuple of anything == (); calls of a local; more. -/
namespace WB
open PySem L2 TL
def rEqT0 (K : PySem.W.Frag) : R2 := fun x y H Q => ∃ a b xs, x = .ref a ∧ y = .ref b ∧ SqT K H a xs ∧ SqT K H b [] ∧ Q (.bl xs.isEmpty) H
def rNeT0 (K : PySem.W.Frag) : R2 := fun x y H Q => ∃ a b xs, x = .ref a ∧ y = .ref b ∧ SqT K H a xs ∧ SqT K H b [] ∧ Q (.bl (!xs.isEmpty)) H
section
variable {X : Cx} {K : PySem.W.Frag}
theorem kEqT0 (hu : X.A.units + 64 < cLine) (hK : X.K = K := by rfl) : OpR X (compareOp .Eq) (rEqT0 K) := by
  subst hK
  intro pins s σ H x y v u Q I rx ry h
  obtain ⟨a, b, xs, rfl, rfl, ha, hb, q⟩ := h
  cases rx; cases ry
  obtain ⟨its, r, pl, hz⟩ := I.tuple ha
  obtain ⟨its2, r2, pl2, hz2⟩ := I.tuple hb
  cases r2
  refine SeqAt.RcAt.tuples (e := fun _ => true) pl pl2 (by omega) (fun j h1 h2 => by simp at h2) X.prog X.w X.xe _ ⟨.bl xs.isEmpty, H, I, ?_, q⟩
  cases r <;> rfl
theorem kNeT0 (hu : X.A.units + 64 < cLine) (hK : X.K = K := by rfl) : OpR X (compareOp .NotEq) (rNeT0 K) := by
  subst hK
  intro pins s σ H x y v u Q I rx ry h
  obtain ⟨a, b, xs, rfl, rfl, ha, hb, q⟩ := h
  cases rx; cases ry
  obtain ⟨its, r, pl, hz⟩ := I.tuple ha
  obtain ⟨its2, r2, pl2, hz2⟩ := I.tuple hb
  cases r2
  refine SeqAt.RcNeAt.tuples (e := fun _ => true) pl pl2 (by omega) (fun j h1 h2 => by simp at h2) X.prog X.w X.xe _ ⟨.bl (!xs.isEmpty), H, I, ?_, q⟩
  cases r <;> rfl
end
section
variable {K : PySem.W.Frag} {H : Hp} {Q : VK} {a b : Addr} {xs : List V} {σ : L2.St} {i : Nat}
theorem o_eqT0 (ha : SqT K H a xs) (hb : SqT K H b []) (q : Q (.bl xs.isEmpty) H) : rEqT0 K (.ref a) (.ref b) H Q := ⟨a, b, xs, rfl, rfl, ha, hb, q⟩
theorem o_neT0 (ha : SqT K H a xs) (hb : SqT K H b []) (q : Q (.bl (!xs.isEmpty)) H) : rNeT0 K (.ref a) (.ref b) H Q := ⟨a, b, xs, rfl, rfl, ha, hb, q⟩
theorem w_callA {S : Addr → Option Sp} {t : TA} {f : Addr} {sp : Sp} (h : σ[i]? = some (some (.ref f))) (e : S f = some sp) (k : t σ H fun vs H1 => sp vs H1 Q (fun _ _ _ => False)) : tCallA i S t σ H Q := ⟨f, sp, h, e, k⟩
end
end WB
/-! WB13: enumerate over a tuple. -/
namespace WB
open PySem L2 TL PySem.Spec PyProof.Rows
open AutoSeq1 (wpAny_loadPart')
theorem meets_enumerate_newT (l : Addr) (items : Array Value) (n : Nat) (dct : Option Addr) (sl : Array (Option Value)) :
    Meets (Builtin.«enumerate.__new__» ⟨[.type "enumerate", .ref l], []⟩) (fun _ R s => s.heap.get? l = some { cls := .type "tuple", dict := dct, data := .seq items n, slots := sl } ∧
      R (.ok (.ret (.ref (s.heap.push { cls := .type "tuple_iterator", data := .fields #[.ref l, .int 0 0] }).objs.size)))
        { s with heap := (s.heap.push { cls := .type "tuple_iterator", data := .fields #[.ref l, .int 0 0] }).push { cls := .type "enumerate", data := .fields #[.none, .bool false, .ref s.heap.objs.size, rawInt 0, .none, .none] } }) :=
  .of_wp fun prog w A R s h => by
    obtain ⟨hp, g, d, tk, os⟩ := s; obtain ⟨hl, h⟩ := h
    have hsub := sub_enumerate
    have hL : Heap.IsTuple (Shared.heap ⟨hp, g, d, tk, os⟩) l items := ⟨_, hl, rfl, n, rfl⟩
    wp_walk using wpAny_loadPart' hl
    refine wpAny_stack_any fun st => wpAny_pure ?_
    split
    · rename_i c _ _ _ _ _
      cases (c == Value.type "enumerate")
      · wp_walk using wpAny_loadPart' hl, wpAny_pyIter_tuple hL
        exact ⟨_, rfl, h⟩
      · wp_walk using wpAny_loadPart' hl, wpAny_pyIter_tuple hL
        exact ⟨_, rfl, h⟩
    · wp_walk using wpAny_loadPart' hl, wpAny_pyIter_tuple hL
      exact ⟨_, rfl, h⟩
section
variable {prog : Program} {w : World} {A : Around} {E : Value → Shared → Prop} {s : Shared}
theorem call_enumerate_tuple {l : Addr} {items : Array Value} {Q : Value → Shared → Prop} (hL : s.heap.IsTuple l items)
    (h : ∀ h', IsEnum h' (s.heap.objs.size + 1) s.heap.objs.size 0 .none → h'.IsTupleIter s.heap.objs.size l 0 → h'.objs.size = s.heap.objs.size + 2 →
      (∀ b o, s.heap.get? b = some o → h'.get? b = some o) → Q (.ref (s.heap.objs.size + 1)) { s with heap := h' }) :
    wpAny (model prog w) A (call (.type "enumerate") [.ref l]) Q E s := by
  obtain ⟨⟨c, dct, dt, sl⟩, hl, hc, n, hd⟩ := hL
  replace hc : c = .type "tuple" := hc
  replace hd : dt = .seq items n := hd
  subst hc hd
  refine callType_new F.called_enumerate (by decide) (F.typeCall_enumerate_1 _) (F.newCall_enumerate_1 _) (fun obj => F.args_object_init_2 obj _) F.entry_enumerate_new
    (meets_enumerate_newT l items n dct sl) ⟨hl, ?_⟩
  have hz : (s.heap.push { cls := .type "tuple_iterator", data := .fields #[.ref l, .int 0 0] }).objs.size = s.heap.objs.size + 1 := Heap.size_push ..
  show _ ∧ _
  rw [hz]
  have he : IsEnum ((s.heap.push { cls := .type "tuple_iterator", data := .fields #[.ref l, .int 0 0] }).push
      { cls := .type "enumerate", data := .fields #[.none, .bool false, .ref s.heap.objs.size, rawInt 0, .none, .none] }) (s.heap.objs.size + 1) s.heap.objs.size 0 .none := by
    have := Heap.get?_push_size (s.heap.push { cls := .type "tuple_iterator", data := .fields #[.ref l, .int 0 0] })
      (o := { cls := .type "enumerate", data := .fields #[.none, .bool false, .ref s.heap.objs.size, rawInt 0, .none, .none] }) rfl
    rw [hz] at this; exact this
  refine ⟨⟨_, he, rfl⟩, h _ he ⟨_, Heap.get?_push_of_some _ (Heap.get?_push_size _ rfl), rfl, rfl⟩ (by rw [Heap.size_push, hz]) fun b o x => Heap.get?_push_of_some _ (Heap.get?_push_of_some _ x)⟩
end
/-- the tuple at a, each item in a new pair -/
def Iten (K : PySem.W.Frag) (a : Addr) : It :=
  ⟨fun i H => ∃ (xs : List V) (x : V), SqT K H a xs ∧ xs[i]? = some x, fun i H v H' => ∃ T x, v = .ref T ∧ H T = none ∧ H' = upd H T (.tup [.int (i : Nat), x]) ∧ ∀ xs, SqT K H a xs → xs[i]? = some x, fun i H => ∃ xs : List V, SqT K H a xs ∧ xs.length = i⟩
theorem turn_enumT {P : Program} {w : World} {K : PySem.W.Frag} {elts : List Expr} {kk : Nat} {tpos : Pos} (a e it : Addr) :
    Turn P w K (.Tuple elts kk tpos) (Iten K a) [e, it] e (fun i h => (∃ old, IsEnum h e it ((i : Nat) : Int) old) ∧ h.IsTupleIter it a i ∧ e ≠ it ∧ a ≠ it ∧ e ≠ a) where
  mem := by simp
  obj := fun i h st b hb => by
    obtain ⟨⟨old, he⟩, ⟨o, ho, hc, hd⟩, _⟩ := st
    have e' : b = e ∨ b = it := by simpa using hb
    rcases e' with z | z
    · rw [z]; exact ⟨_, he, fun v q => nomatch q⟩
    · rw [z]; exact ⟨o, ho, fun v q => by rw [hd] at q; cases q⟩
  keep := fun i h h' st k => let ⟨⟨old, he⟩, hi, hne⟩ := st; ⟨⟨old, k e (by simp) _ he⟩, hi.at fun o q => k it (by simp) o q, hne⟩
  item := by
    intro X hP hw hK hc i pins s σ H E I hf st hg
    subst hP hw hK
    obtain ⟨⟨old, he⟩, hit, hne, hai, hea⟩ := st
    obtain ⟨xs, x, hq, hx⟩ := hg
    obtain ⟨its, rv, p, hz⟩ := I.tuple hq
    obtain ⟨u, hu, ru⟩ := rv.get hx
    have hel : e < s.heap.objs.size := Heap.lt_size he
    have hil : it < s.heap.objs.size := by obtain ⟨_, q, _⟩ := hit; exact Heap.lt_size q
    have hi : i < its.toArray.size := by
      rw [List.size_toArray]
      exact (List.getElem?_eq_some_iff.mp hu).1
    refine wpAny_pyNext_enum_itemD (Draws.tuple (A := X.A.in1) (show X.A.handled = none from I.ok.hd hc) it a hai its.toArray) he ⟨hit, p⟩ hi hne (by simp [hne, hea]) fun y h' tk hy ho hit' hT hsz hk => ?_
    have e2 : y = u := by
      have : its[i]? = some y := by simpa using hy
      rw [hu] at this; exact (Option.some.inj this).symm
    subst e2
    refine ⟨_, rfl, wpAny_letOwnedTupleGo_enum (s := { s with heap := h', toks := tk + 1 }) ho fun h'' he' sb => ?_⟩
    have hT2 : h''.get? s.heap.objs.size = some { cls := .type "tuple", data := .seq #[.int i tk, y] } := (sb.2 _ (Nat.ne_of_gt hel)).trans hT
    have new : ObjOk X.prog X.w (upd H s.heap.objs.size (.tup [.int (i : Nat), x])) h'' s.heap.objs.size (.tup [.int (i : Nat), x]) :=
      ⟨by show 2 ≤ sizeLine; decide, [.int i tk, y], .cons ⟨_, rfl⟩ (.cons ru .nil), ⟨_, hT2, rfl, _, rfl⟩⟩
    have I1 : Inv X pins σ (upd H s.heap.objs.size (.tup [.int (i : Nat), x])) { s with heap := h'', toks := tk + 1 } :=
      I.turnedNew (ch := [e, it]) (fun b ob hb q => (sb.2 b (fun z => hb (by simp [z]))).trans (hk b ob (fun z => hb (by simp [z])) (fun z => hb (by simp [z])) q)) hf (Nat.le_refl _) new
    refine ⟨.ref s.heap.objs.size, _, I1, rfl, ⟨_, x, rfl, I.hok.fresh (Nat.le_refl _), rfl, fun ys hy => by rw [I.tuple_inj hy hq]; exact hx⟩, ⟨⟨y, ?_⟩, hit'.1.at fun o q => (sb.2 it (Ne.symm hne)).trans q, hne, hai, hea⟩, fun b hb => ?_⟩
    · have e1 : ((i + 1 : Nat) : Int) = (i : Int) + 1 := by omega
      rw [e1]; exact he'
    · have hb' : b < s.heap.objs.size := by
        have e' : b = e ∨ b = it := by simpa using hb
        rcases e' with z | z
        · rw [z]; exact hel
        · rw [z]; exact hil
      rw [upd_ne (Nat.ne_of_lt hb')]
      exact (hf b hb).1
  done := by
    intro X hP hw hK hc i pins s σ H E I hf st hg
    subst hP hw hK
    obtain ⟨⟨old, he⟩, hit, hne, hai, hea⟩ := st
    obtain ⟨xs, hq, hx⟩ := hg
    obtain ⟨its, rv, p, hz⟩ := I.tuple hq
    obtain ⟨f0, f1, f2, f3, f4, f5⟩ := hf it (by simp)
    have hl := rv.length
    exact wpAny_pyNext_enum_endD (Draws.tuple (A := X.A.in1) (show X.A.handled = none from I.ok.hd hc) it a hai its.toArray) he ⟨by rw [List.size_toArray, ← hl, hx]; exact hit, p⟩ fun h' eb => ⟨rfl, I.turned (t' := s.toks) (fun b o hb q => eb b o hb q) f0 f1 f3 f4 f5⟩
  self := fun A i s Q E st h => let ⟨⟨_, he⟩, _⟩ := st; wpAny_pyIter_enum he h
def iEnumT (K : PySem.W.Frag) (ta : TA) : TI := fun σ H R => ta σ H fun vs H1 => ∃ a xs, vs = [.ref a] ∧ SqT K H1 a xs ∧ R (Iten K a) H1
theorem pi_enumT {X : Cx} {K : PySem.W.Frag} {e : Expr} {ta : TA} {p pos tpos : Pos} {elts : List Expr} {kk : Nat} (hg : Gl X "enumerate") (hm : X.mg "enumerate" = none) (ha : PA X [e] ta) (hK : X.K = K := by rfl) (hs : starEach [e] X.env = [(false, eval e X.env)] := by rfl) :
    PI X (.Tuple elts kk tpos) (.Call (.Name "enumerate" p) [e] [] pos) (iEnumT K ta) := by
  subst hK
  refine ⟨fun pins s σ H R I h => ?_⟩
  refine Call_ (ld_blt I hg hm boot_enumerate (PyProof.Rows.callWith_type1 (thn (ha.run pos pins s σ H _ I h) fun us s1 ⟨vs, H1, I1, r1, q1⟩ => ?_) hs rfl))
  obtain ⟨a, xs, ex, hq, q⟩ := q1
  subst ex
  cases r1 with
  | cons r rr =>
    cases rr
    cases r
    obtain ⟨its, rv, p', hz⟩ := I1.tuple hq
    have hal : a < s1.heap.objs.size := by obtain ⟨_, q, _⟩ := p'; exact Heap.lt_size q
    refine call_enumerate_tuple p' fun h' he hit hsz hk => wpAny_pyIter_enum he ?_
    have I2 : Inv X pins σ H1 { s1 with heap := h' } := I1.kept (t' := s1.toks) hk
    refine ⟨s1.heap.objs.size + 1, [s1.heap.objs.size + 1, s1.heap.objs.size], _, _, H1, rfl, I2, turn_enumT a (s1.heap.objs.size + 1) s1.heap.objs.size, ⟨⟨.none, he⟩, hit, Nat.succ_ne_self _, Nat.ne_of_lt hal, Nat.ne_of_gt (Nat.lt_succ_of_lt hal)⟩, fun b hb => ?_, q⟩
    have e' : b = s1.heap.objs.size + 1 ∨ b = s1.heap.objs.size := by simpa using hb
    have hle : s1.heap.objs.size ≤ b := by
      rcases e' with z | z
      · rw [z]; exact Nat.le_add_right _ _
      · rw [z]; exact Nat.le_refl _
    exact I1.fpOk hle (I1.hok.fresh hle)
theorem walk_enT {K : PySem.W.Frag} {a : Addr} {xs : List V} : Walk (Iten K a) xs.length (fun H => SqT K H a xs) (fun i H v H' => ∃ T x, v = .ref T ∧ H T = none ∧ H' = upd H T (.tup [.int (i : Nat), x]) ∧ xs[i]? = some x) :=
  ⟨fun i _ hi q => ⟨xs, xs[i], q, by simp [hi]⟩, fun _ q => ⟨xs, q, rfl⟩, fun i H v H' _ q ⟨T, x, h1, h2, h3, h4⟩ => ⟨T, x, h1, h2, h3, h4 xs q⟩⟩
def EnumV (K : PySem.W.Frag) (vs : List V) (H : Hp) (R : It → Hp → Prop) : Prop := ∃ a xs, vs = [.ref a] ∧ SqT K H a xs ∧ R (Iten K a) H
theorem w_enumT {K : PySem.W.Frag} {ta : TA} {σ : L2.St} {H : Hp} {R : It → Hp → Prop} (h : ta σ H fun vs H1 => EnumV K vs H1 R) : iEnumT K ta σ H R := h
theorem w_enumV {K : PySem.W.Frag} {a : Addr} {xs : List V} {H : Hp} {R : It → Hp → Prop} (h1 : SqT K H a xs) (h : R (Iten K a) H) : EnumV K [.ref a] H R := ⟨a, xs, rfl, h1, h⟩
end WB
/-! WB14: repr(bool); a list unpacked; {}; tuples cut and joined; turns. -/
namespace WB
open PySem L2 TL
def rReprB : List V → Hp → VK → Prop := fun xs H Q => ∃ b, xs = [.bl b] ∧ Q (.str (if b then "True" else "False")) H
theorem kReprB {X : Cx} : CallR X (.builtin "repr") rReprB := by
  intro pins s σ H xs us Q I r h
  obtain ⟨b, rfl, q⟩ := h
  obtain ⟨u, rfl, r1⟩ := vals1 r
  obtain rfl : u = Value.bool b := r1
  exact PySem.P.repr_of_bool ⟨.str _, H, I.tok _, ⟨_, rfl⟩, q⟩
theorem o_reprB {b : Bool} {H : Hp} {Q : VK} (q : Q (.str (if b then "True" else "False")) H) : rReprB [.bl b] H Q := ⟨b, rfl, q⟩
theorem kgUnl {X : Cx} {K : PySem.W.Frag} {es : List Expr} {k n : Nat} {ts : TGs} {pos : Pos} (hc : X.calm = true) (h : PGs X es ts) (hK : X.K = K := by rfl)
    (hn : (assignEach es X.env).length = n := by rfl) (hst : (assignEach es X.env).findIdx? (·.1) = none := by rfl) : PG X (.Tuple es k pos) (gUnl K n ts) := hK ▸ pg_unl hc h hn hst
section
variable {σ : L2.St} {H : Hp} {Q : VK} {K : PySem.W.Frag} {v : V} {QS : L2.St → Hp → Prop} {G : Hp} {L : List (Addr × HO)}
theorem w_unl {a : Addr} {xs : List V} {n : Nat} {ts : TGs} (h : SqL K H a xs) (hn : xs.length = n) (k : ts xs σ H QS) : gUnl K n ts (.ref a) σ H QS := ⟨a, xs, rfl, h, hn, k⟩
theorem w_gtup {a : Addr} {xs : List V} {n : Nat} {ts : TGs} (h : SqT K H a xs) (hn : xs.length = n) (k : ts xs σ H QS) : gTup K n ts (.ref a) σ H QS := ⟨a, xs, rfl, h, hn, k⟩
theorem w_gcons {xs : List V} {t : TG} {u : TGs} (h : t v σ H fun σ' H' => u xs σ' H' QS) : gCons t u (v :: xs) σ H QS := ⟨v, xs, rfl, h⟩
theorem w_gnil (h : QS σ H) : gNil [] σ H QS := ⟨rfl, h⟩
def NewD (H : Hp) (Q : VK) : Prop := ∀ p, H p = none → Q (.ref p) (upd H p (.dK []))
theorem w_dnew (h : NewD H Q) : tDNewK σ H Q := h
theorem w_nD (sh : SH G L H) (k : ∀ p G' H', Same G G' → G' p = some (.dK []) → SH G' L H' → Q (.ref p) H') : NewD H Q := w_newF sh _ k
/-- t[lo:hi], frozen -/
theorem o_slT {a : Addr} {xs : List V} {lo hi : Option Int} (sh : SH G L H) (ha : SqT K G a xs) (hn : xs.length ≤ 16777216 := by omega)
    (k : ∀ p G' H', Same G G' → SqT K G' p (cutV xs lo hi) → SH G' L H' → Q (.ref p) H') : rSlA K (.ref a) lo hi H Q := by
  refine ⟨a, xs, rfl, sh.sqT ha, fun h => ?_, fun _ => w_newF sh _ fun p G' H' s e sh' => k p G' H' s (.inl (.inl e)) sh'⟩
  refine k a G H (Same.refl _) ?_ sh
  have e : cutV xs lo hi = xs := by
    unfold cutV
    rw [h.1, h.2]
    simp
  rw [e]; exact ha
/-- t + u, frozen -/
theorem o_catT {a b : Addr} {xs ys : List V} (sh : SH G L H) (ha : SqT K G a xs) (hb : SqT K G b ys) (hn : xs.length + ys.length ≤ 16777216 := by omega)
    (k : ∀ p G' H', Same G G' → SqT K G' p (xs ++ ys) → SH G' L H' → Q (.ref p) H') : rCatA K (.ref a) (.ref b) H Q := by
  refine ⟨a, b, xs, ys, rfl, rfl, sh.sqT ha, sh.sqT hb, sz _ hn, fun h => ?_, fun _ h => ?_, fun _ _ => w_newF sh _ fun p G' H' s e sh' => k p G' H' s (.inl (.inl e)) sh'⟩
  · subst h; exact k b G H (Same.refl _) hb sh
  · subst h; exact k a G H (Same.refl _) (by rw [List.append_nil]; exact ha) sh
end
theorem cut_to (xs : List V) (i : Nat) : cutV xs none (some (i : Int)) = xs.take i := by
  unfold cutV
  rw [HT.sIx_nat, HT.sIx_none, List.drop_zero]
  by_cases h : i ≤ xs.length
  · rw [Nat.min_eq_left h, Nat.sub_zero]
  · rw [Nat.min_eq_right (by omega), Nat.sub_zero, List.take_length, List.take_of_length_le (by omega)]
theorem cut_from (xs : List V) (i : Nat) : cutV xs (some (i : Int)) none = xs.drop i := by
  unfold cutV
  rw [HT.sIx_nat, HT.sIx_none]
  by_cases h : i ≤ xs.length
  · rw [Nat.min_eq_left h, List.take_of_length_le (by rw [List.length_drop]; exact Nat.le_refl _)]
  · rw [Nat.min_eq_right (by omega), List.drop_length, List.drop_of_length_le (by omega), List.take_nil]
theorem cut_butlast (xs : List V) : cutV xs none (some (-1)) = xs.dropLast := by
  unfold cutV
  have e : HT.sIx xs.length xs.length (some (-1)) = xs.length - 1 := by
    show (if (-1 : Int) < 0 then ((-1 : Int) + (xs.length : Int)).toNat else min (-1 : Int).toNat xs.length) = _
    rw [if_pos (by decide)]; omega
  rw [e, HT.sIx_none, List.drop_zero, Nat.sub_zero, List.dropLast_eq_take]
theorem dq_len3 {K : PySem.W.Frag} {G : Hp} {xs : List V} {ds : List PyData} (h : DqAll K G xs ds) (e : ds.length = 3) : ∃ x1 x2 x3 d1 d2 d3, xs = [x1, x2, x3] ∧ ds = [d1, d2, d3] ∧ Dq K G x1 d1 ∧ Dq K G x2 d2 ∧ Dq K G x3 d3 := by
  match h with
  | .cons h1 (.cons h2 (.cons h3 .nil)) => exact ⟨_, _, _, _, _, _, rfl, rfl, h1, h2, h3⟩
  | .nil => cases e
  | .cons _ .nil => cases e
  | .cons _ (.cons _ .nil) => cases e
  | .cons _ (.cons _ (.cons _ (.cons _ _))) => simp at e
/-! ### what the law makes -/
/-- a new pot, of the k-th number -/
def spPot (K : PySem.W.Frag) : Sp := fun vs H Q _ => ∃ (G : Hp) (L : List (Addr × HO)) (s : Addr) (ns : List Int) (k : Int), vs = [.ref s, .int k] ∧ SH G L H ∧ SqL K G s (ns.map V.int) ∧ 0 ≤ k ∧ k ≤ 1000 ∧
  ∀ (p : Addr) (a b : Int) (H' : Hp), PotB a b → SH G ((p, potO a b) :: L) H' → Q (.ref p) H'
def spWord : Sp := fun vs H Q _ => ∃ (G : Hp) (L : List (Addr × HO)) (p : Addr) (a b : Int), vs = [.ref p] ∧ SH G ((p, potO a b) :: L) H ∧ PotB a b ∧
  ∀ (G' H' : Hp) (z : Str) (a' b' : Int), Same G G' → SH G' ((p, potO a' b') :: L) H' → PotB a' b' → wordB z = true → Q (.str z) H'
def spWhole : Sp := fun vs H Q _ => ∃ (G : Hp) (L : List (Addr × HO)) (p : Addr) (a b m : Int), vs = [.ref p, .int m] ∧ SH G ((p, potO a b) :: L) H ∧ PotB a b ∧
  ∀ (G' H' : Hp) (i a' b' : Int), Same G G' → SH G' ((p, potO a' b') :: L) H' → PotB a' b' → m ≤ i → Q (.int i) H'
def spThing (K : PySem.W.Frag) : Sp := fun vs H Q _ => ∃ (G : Hp) (L : List (Addr × HO)) (p : Addr) (a b : Int), vs = [.ref p] ∧ SH G ((p, potO a b) :: L) H ∧ PotB a b ∧
  ∀ (G' H' : Hp) (t : Addr) (ds : List PyData) (a' b' : Int), Same G G' → SH G' ((p, potO a' b') :: L) H' → PotB a' b' → Dq K G' (.ref t) (.tuple ds) → smD (.tuple ds) = true → ds ≠ [] → ds.length ≤ 100 → Q (.ref t) H'
theorem at_ints {ns : List Int} {k : Int} (h0 : 0 ≤ k) (h : k.toNat < ns.length) : atI (ns.map V.int) k = some (.int (ns[k.toNat]'h)) := by
  have e : k = ((k.toNat : Nat) : Int) := by omega
  have h2 : (ns.map V.int)[k.toNat]? = some (.int (ns[k.toNat]'h)) := by rw [List.getElem?_map, List.getElem?_eq_getElem h]; rfl
  have := atI_nat h2
  rw [← e] at this
  exact this
def spOdd (K : PySem.W.Frag) : Sp := fun vs H Q _ => ∃ (G : Hp) (L : List (Addr × HO)) (p : Addr) (a b : Int) (x : V) (d : PyData), vs = [.ref p, x] ∧ SH G ((p, potO a b) :: L) H ∧ PotB a b ∧ Dq K G x d ∧ smD d = true ∧
  ∀ (G' H' : Hp) (v : V) (e : PyData) (a' b' : Int), Same G G' → SH G' ((p, potO a' b') :: L) H' → PotB a' b' → Dq K G' v e → smD e = true → Q v H'
def spSpoilt (K : PySem.W.Frag) : Sp := fun vs H Q _ => ∃ (G : Hp) (L : List (Addr × HO)) (p t : Addr) (a b : Int) (ds : List PyData), vs = [.ref p, .ref t] ∧ SH G ((p, potO a b) :: L) H ∧ PotB a b ∧ Dq K G (.ref t) (.tuple ds) ∧ smD (.tuple ds) = true ∧ ds ≠ [] ∧ ds.length ≤ 100 ∧
  ∀ (G' H' : Hp) (v : V) (e : PyData) (a' b' : Int), Same G G' → SH G' ((p, potO a' b') :: L) H' → PotB a' b' → Dq K G' v e → smD e = true → Q v H'
theorem w_odd {K : PySem.W.Frag} {G H : Hp} {L : List (Addr × HO)} {p : Addr} {a b : Int} {x : V} {d : PyData} {Q : VK} {E : XK} (sh : SH G ((p, potO a b) :: L) H) (hb : PotB a b) (hd : Dq K G x d) (hs : smD d = true)
    (k : ∀ (G' H' : Hp) (v : V) (e : PyData) (a' b' : Int), Same G G' → SH G' ((p, potO a' b') :: L) H' → PotB a' b' → Dq K G' v e → smD e = true → Q v H') : spOdd K [.ref p, x] H Q E := ⟨G, L, p, a, b, x, d, rfl, sh, hb, hd, hs, k⟩
theorem sm_name {z : Str} (h : nameB z = true) : smD (.str z) = true := by
  obtain ⟨h1, h2, h3⟩ := nameB_iff.mp h
  simp only [smD, Bool.and_eq_true, decide_eq_true_eq, List.all_eq_true]
  refine ⟨by rw [← tl_len]; omega, fun c hc => ?_⟩
  have := h3 c hc
  simp only [isLow, Bool.and_eq_true, decide_eq_true_eq] at this
  omega
theorem sm_word {z : Str} (h : wordB z = true) : smD (.str z) = true := by
  obtain ⟨h1, h2, h3⟩ := wordB_iff.mp h
  simp only [smD, Bool.and_eq_true, decide_eq_true_eq, List.all_eq_true]
  refine ⟨by rw [← tl_len]; omega, fun c hc => ?_⟩
  have := h3 c hc
  simp only [isLow, isFig, Bool.and_eq_true, Bool.or_eq_true, decide_eq_true_eq] at this
  omega
theorem sm_tup {ds : List PyData} (h : ∀ d ∈ ds, smD d = true) (hl : ds.length ≤ 1000) : smD (.tuple ds) = true := by
  simp only [smD, Bool.and_eq_true, decide_eq_true_eq]
  exact ⟨hl, smAll_iff.mpr h⟩
theorem sm_lst {ds : List PyData} (h : ∀ d ∈ ds, smD d = true) (hl : ds.length ≤ 1000) : smD (.list ds) = true := by
  simp only [smD, Bool.and_eq_true, decide_eq_true_eq]
  exact ⟨by omega, smAll_iff.mpr h⟩
theorem dq_strs {K : PySem.W.Frag} {G : Hp} : ∀ zs : List Str, DqAll K G (zs.map V.str) (zs.map PyData.str)
  | [] => .nil
  | z :: zs => .cons (.str z) (dq_strs zs)
theorem pick2 {d : Int} {x y : Str} (h0 : 0 ≤ d) (h1 : d < 2) : ∃ z, atI [V.str x, V.str y] d = some (.str z) ∧ (z = x ∨ z = y) := by
  have : d = 0 ∨ d = 1 := by omega
  rcases this with rfl | rfl
  · exact ⟨x, rfl, .inl rfl⟩
  · exact ⟨y, rfl, .inr rfl⟩
end WB
/-! WBG: promises of defs that are kept where no repr is under way (repr of rows and tuples needs that); repr of data. -/
namespace WB
open PySem L2 TL PySem.Spec PyProof.Rows
/-- no repr is under way -/
abbrev NoG (A : Around) : Prop := A.guards = some []
section
variable (P : Program) (w : World) (K : PySem.W.Frag) (mg : Str → Option Value) (base : Heap)
structure FnG (CX : CXT) (k : Nat) (f : Addr) (fd : FuncData) (ps : List Str) (sp : Sp) : Prop where
  len : ∀ vs H Q E, sp vs H Q E → vs.length = ps.length
  go : ∀ A : Around, NoG A → Room k A → ∀ (outer : List Env) (s : Shared) (H : Hp) (args : Args) (us : List Value) (vs : List V) (Q : VK) (E : XK),
    Env0 P w K mg base A outer s H → BindsTo s fd args (ps.zip us) → Vals vs us → sp vs H Q E → codeAny (model P w) A (.call (.ref f) args) (CR CX outer P w H s Q E) s
/-- a def by its name, kept where no repr is under way -/
structure CalG (CX : CXT) (k : Nat) (x : Str) (ps : List Str) (sp : Sp) : Prop where
  ex : ∃ f fd, mg x = some (.ref f) ∧ PySem.W.keepIn K (.ref f) = true ∧ Binds K fd ps [] ∧ FnG P w K mg base CX k f fd ps sp
end
section
variable {P : Program} {w : World} {K : PySem.W.Frag} {mg : Str → Option Value} {base : Heap} {CX : CXT} {k j : Nat} {f : Addr} {fd : FuncData} {ps : List Str} {sp : Sp} {x qual : Str}
theorem FnG.of (F : FnOk P w K mg base CX k f fd ps sp) : FnG P w K mg base CX k f fd ps sp := ⟨F.len, fun A _ hr outer s H args us vs Q E => F.run A outer s H args us vs Q E hr⟩
theorem CalG.of (c : Cal P w K mg base CX k x ps sp) : CalG P w K mg base CX k x ps sp := let ⟨f, fd, a, b, c, d⟩ := c.ex; ⟨f, fd, a, b, c, .of d⟩
/-- a def with its body -/
theorem FunD.okG {params : Arguments} {body : List Stmt} {scope : Scope} {dvs : List V} {kws : List (Str × V)} {N : List Str} (F : FunD K x qual params body scope dvs kws f fd) (S : FnScope N ps scope) (len : ∀ vs H Q E, sp vs H Q E → vs.length = ps.length)
    (hbody : ∀ (cdv : Value) (A : Around) (outer : List Env) (s : Shared) (H : Hp) (vs : List V) (Q : VK) (E : XK), NoG (A.deeper (envOfC qual scope s.heap.objs.size f cdv)) → Room k (A.deeper (envOfC qual scope s.heap.objs.size f cdv)) → sp vs H Q E →
      ∃ t, PSs (cxOf CX P w K mg base N qual scope f cdv A outer s H E) body t ∧ t { nx := fun _ H' => Q .non H', rt := Q } (L2.start N vs) H) : FnG P w K mg base CX (k + 1) f fd ps sp := by
  obtain ⟨oc, od, dV, kV, doc, pm, an, cdv, ct, osl, rfl, hlk, hcode, _, _⟩ := F.ex
  refine ⟨len, fun A hn hr outer s H args us vs Q E en hbind hvals want => ?_⟩
  have old : ∀ b o, base.get? b = some o → s.heap.get? b = some o := fun b o e => (en.bs b o e).1
  have hKin : K.In s.heap := en.mod.kin.keeps old
  have places : ∀ y ∈ ps.zip us, scope.names.lookup y.1 = some .local ∨ (scope.names.lookup y.1 = some .cell ∧ ((cellsFrom (s.heap.objs.size + 1) scope.names []).lookup y.1).isSome = true) := by
    rintro ⟨n, v⟩ hy
    exact (S.par n (List.of_mem_zip hy).1).elim .inl fun q => .inr ⟨q, PySem.W.cellsFrom_some _ _ _ (.inl q)⟩
  refine codeAny_call_function hr.depth (hKin _ _ hlk) rfl S.co S.gen rfl (PySem.W.codeRec_of hKin hcode) (hbind _ _ _ _ (wpAny_newFunctionEnv_cells S.kind places fun env henv s1 inC => ?_))
  subst henv
  refine ⟨(en.mod.nolimit.keeps old).keeps inC.toInCall.keep, codeAny_func ?_⟩
  obtain ⟨t, walk, reads⟩ := hbody cdv A outer s H vs Q E hn (hr.deeper _) want
  have inv := inv_start (CX := CX) (E := E) S hr.hd en (len _ _ _ _ want) hvals inC
  refine wpAny_mono (walk.run [] s1 _ H _ inv reads) (fun flow s2 done => ?_) fun _ _ bad => bad
  cases flow with
  | ret u => obtain ⟨v, σ2, H2, J, rel, q⟩ := done; exact ⟨v, H2, J.os, J.bare, J.base, J.hok, rel, q⟩
  | next => obtain ⟨σ2, H2, J, q⟩ := done; exact ⟨.non, H2, J.os, J.bare, J.base, J.hok, rfl, q⟩
  | brk => obtain ⟨_, _, _, no⟩ := done; exact (show False from no).elim
  | cont => obtain ⟨_, _, _, no⟩ := done; exact (show False from no).elim
end
section
variable {X : Cx} {CX : CXT} {k j : Nat} {f C : Addr} {fd : FuncData} {ps : List Str} {sp : Sp} {dvs : List V} {ds : List Value} {E : XK} {x m : Str} {p pos apos : Pos} {e o : Expr} {es : List Expr} {ta : TE} {t : TA}
/-- the callee runs -/
theorem runG {pins : List (Addr × Obj)} {σ : L2.St} {H : Hp} {s : Shared} {Q : VK} {us : List Value} {vs : List V} (F : FnG X.prog X.w X.K X.mg X.base CX k f fd ps sp) (hn : NoG X.A) (hr : Room k X.A) (hb : Binds X.K fd ps ds) (hd : Vals dvs ds) (hx : Passes CX X E)
    (I : Inv X pins σ H s) (r : Vals vs us) (h : sp (vs ++ dvs) H Q E) : wpAny (model X.prog X.w) X.A (call (.ref f) us) (EP X pins σ Q) X.xe s := by
  have both : Vals (vs ++ dvs) (us ++ ds) := r.append hd
  have many : (us ++ ds).length = ps.length := both.length.symm.trans (F.len _ _ _ _ h)
  refine wpAny_call (codeAny_mono (F.go X.A hn hr X.stack s H ⟨us, []⟩ (us ++ ds) (vs ++ dvs) Q E I.env0 (hb s us I.kIn many) both h) fun res s' got => ?_)
  match res, got with
  | .error e, got => exact hx pins σ H s e s' I got
  | .ok (.ret u), got => exact I.after got
/-- f(e, ..) -/
theorem CalG.pe (c : CalG X.prog X.w X.K X.mg X.base CX0 k x ps sp) (hn : NoG X.A) (hr : Room j X.A) (hg : Gl X x) (ha : PA X (e :: es) t) (hk : k ≤ j := by decide)
    (hdb : (x == ("__debug__" : Str)) = false := by decide) (he : starEach (e :: es) X.env = (false, eval e X.env) :: starEach es X.env := by rfl) (hpl : (backTo pos (starEach es X.env)).any (·.1) = false := by rfl) :
    PE X (.Call (.Name x p) (e :: es) [] pos) (tCall sp [] E0 t) := by
  obtain ⟨f, fd, hm, hkp, hb, F⟩ := c.ex
  refine ⟨fun pins s σ H Q I h => wpAny_Call_Name_kw (ld_glob I hg hm ?_ hdb)⟩
  exact PySem.W.callWith_K (h₀ := X.base) I.ok.mod.kin hkp (thn (ha.run pos pins s σ H _ I h) fun us s1 ⟨vs, H1, I1, r, q⟩ => ⟨I1.kIn, runG F hn (hr.mono hk) hb .nil pass0 I1 r q⟩) he hpl
end
/-! ### repr of data -/
def rReprD (K : PySem.W.Frag) : List V → Hp → VK → Prop := fun xs H Q => ∃ x d, xs = [x] ∧ Dp K H x d ∧ d.showable = true ∧ d.shown.length ≤ 16777216 ∧ d.depth ≤ 32 ∧ Q (.str d.shown) H
section
variable {X : Cx} {K : PySem.W.Frag}
mutual
theorem dp_hasDict {K : PySem.W.Frag} {H : Hp} : ∀ (d : PyData) (v : V), Dp K H v d → d.hasDict = false
  | .none, _, _ => by simp [PyData.hasDict]
  | .bool _, _, _ => by simp [PyData.hasDict]
  | .int _, _, _ => by simp [PyData.hasDict]
  | .str _, _, _ => by simp [PyData.hasDict]
  | .list ds, _, h => by cases h with | lst _ ha => simpa [PyData.hasDict] using dpAll_hasDict ds _ ha
  | .tuple ds, _, h => by cases h with | tup _ ha => simpa [PyData.hasDict] using dpAll_hasDict ds _ ha
  | .dict _, _, h => by cases h
theorem dpAll_hasDict {K : PySem.W.Frag} {H : Hp} : ∀ (ds : List PyData) (vs : List V), DpAll K H vs ds → PyData.hasDictAll ds = false
  | [], _, _ => by simp [PyData.hasDictAll]
  | d :: ds, _, h => by cases h with | cons h1 h2 => simp [PyData.hasDictAll, dp_hasDict d _ h1, dpAll_hasDict ds _ h2]
end
theorem kReprD (hn : NoG X.A) (hu : X.A.units + 64 < cLine) (hK : X.K = K := by rfl) : CallR X (.builtin "repr") (rReprD K) := by
  subst hK
  intro pins s σ H xs us Q I r h
  obtain ⟨x, d, rfl, hd, hs, hl, hdp, q⟩ := h
  obtain ⟨u, rfl, ru⟩ := vals1 r
  have hdd := dp_hasDict d x hd
  obtain ⟨as, rd⟩ := Dp.reads I d x u hd ru
  cases hd with
  | non => obtain rfl : u = Value.none := ru; exact PySem.P.repr_of_none ⟨.str _, H, I.tok _, ⟨_, rfl⟩, by simpa [PyData.shown] using q⟩
  | bl b => obtain rfl : u = Value.bool b := ru; exact PySem.P.repr_of_bool ⟨.str _, H, I.tok _, ⟨_, rfl⟩, by simpa [PyData.shown] using q⟩
  | int i => obtain ⟨t, rfl⟩ := (show ∃ t, u = Value.int i t from ru); exact PySem.P.repr_of_int (by simpa [PyData.showable] using hs) ⟨.str _, H, I.tok _, ⟨_, rfl⟩, by simpa [PyData.shown] using q⟩
  | str z => obtain ⟨t, rfl⟩ := (show ∃ t, u = Value.str z t from ru); exact PySem.P.repr_of_str ⟨.str _, H, I.tok _, ⟨_, rfl⟩, by simpa [PyData.shown] using q⟩ (sz _ (by simpa [PyData.shown] using hl))
  | lst _ _ =>
    cases ru
    exact repr_of_reads' rd hs (PyData.noDict_hsm hdd) hn (by omega) (fun _ _ e => e) (fun h' u tk kp => ⟨.str _, H, I.kept kp, ⟨_, rfl⟩, q⟩) (sz _ hl)
  | tup _ _ =>
    cases ru
    exact repr_of_reads' rd hs (PyData.noDict_hsm hdd) hn (by omega) (fun _ _ e => e) (fun h' u tk kp => ⟨.str _, H, I.kept kp, ⟨_, rfl⟩, q⟩) (sz _ hl)
end
theorem o_reprD {K : PySem.W.Frag} {x : V} {d : PyData} {H : Hp} {Q : VK} (hd : Dp K H x d) (hs : d.showable = true) (hl : d.shown.length ≤ 16777216) (hdp : d.depth ≤ 32) (q : Q (.str d.shown) H) : rReprD K [x] H Q := ⟨x, d, rfl, hd, hs, hl, hdp, q⟩
end WB
/-! WBH: the law's end, where the law's promise is kept while no repr is under way (the caller is such). -/
namespace WB
open PySem L2 TL PySem.Spec PyProof.Rows
section
variable {P : Program} {w : World} {K : PySem.W.Frag} {mg mb : Str → Option Value} {CX : CXT} {k : Nat} {fa a : Addr} {fd : FuncData} {x : Str} {sp : Sp} {s₁ : Shared} {vs : List Value} {ns : List Int}
/-- what the law's call ends with -/
abbrev EndsTrue (s₁ : Shared) (r : Result) (s' : Shared) : Prop := r = .ok (.ret (.bool true)) ∧ OldK s₁.heap s'.heap ∧ s'.os = s₁.os ∧ AllBare s'.gens
/-- from a heap H in which the script alone may be tracked -/
theorem law_fromG {H : Hp} (KX : K.In s₁.heap) (hns : s₁.heap.Ns mainGlobals mg) (hb : s₁.heap.Ns builtinsNs mb) (hbb : ∀ x : Str, x ≠ "__name__" → mb x = bootBuiltins x) (hlim : s₁.heap.NoLimit) (hg : s₁.gens = #[])
    (noDict : ∀ o es ep, s₁.heap.get? a = some o → o.data ≠ Data.dict es ep) (hr : Room k callerA)
    (F : ∀ base : Heap, K.In base → base.Ns mainGlobals mg → FnG P w K mg base CX k fa fd [x] sp) (hbind : ∀ (s : Shared) (u : Value), BindsTo s fd ⟨[u], []⟩ [(x, u)])
    (want : sp [.ref a] H (fun v _ => v = .bl true) fun _ _ _ => False) (hO : Only H) (hok : HOk P w H s₁.heap) (only : ∀ b, H b ≠ none → b = a) (apart : H a ≠ none → K.lookup a = none)
    (hCX : ∀ H e s', CX [] H s₁ (fun _ _ _ => False) e s' → False) : codeAny (model P w) callerA (.call (.ref fa) ⟨[.ref a], []⟩) (EndsTrue s₁) s₁ := by
  have free : ∀ b : Addr, b ≠ a → H b = none := fun b hba => Classical.byContradiction fun q => hba (only b q)
  have seen : ∀ {b : Addr} {o : Obj}, s₁.heap.get? b = some o → H b = none → (hidT s₁.heap H).get? b = some o := hidT_get
  have spaces : ∀ {b : Addr} {m : Str → Option Value}, s₁.heap.Ns b m → (hidT s₁.heap H).Ns b m := by
    rintro b m ⟨o, es, ep, e, d, rest⟩
    refine ⟨o, es, ep, seen e (free b fun q => ?_), d, rest⟩
    subst q
    exact noDict o es ep e d
  have kin : K.In (hidT s₁.heap H) := fun b o e => seen (KX b o e) (by
    by_cases q : b = a
    · subst q
      exact Classical.byContradiction fun z => by rw [apart z] at e; cases e
    · exact free b q)
  have limit : (hidT s₁.heap H).NoLimit := hlim.elim fun mc q => ⟨mc, spaces q.1, q.2⟩
  have entry : Env0 P w K mg (hidT s₁.heap H) callerA [] s₁ H :=
    { frames := rfl, mod := ⟨kin, spaces hns, ⟨mb, spaces hb, hbb⟩, limit⟩, bs := fun _ _ => of_hidT, bsz := Nat.le_of_eq (hidT_size _ _), funs := trivial, frf := (fun _ no => nomatch no), hok := hok, bare := .of_eq hg }
  refine codeAny_mono ((F _ kin (spaces hns)).go callerA rfl hr [] s₁ H ⟨[.ref a], []⟩ [.ref a] [.ref a] _ _ entry (hbind s₁ (.ref a)) (.cons rfl .nil) want) fun res s' got => ?_
  match res, got with
  | .error e, got => exact (hCX H e s' got).elim
  | .ok (.ret u), got =>
    obtain ⟨v, H', os, bare, un, hok', rel, rfl⟩ := got
    obtain rfl : u = Value.bool true := rel
    refine ⟨rfl, OldK.of_keep fun b o e => ?_, os, bare⟩
    rcases hO b with q | ⟨ob, xs, q⟩
    · exact un.keep b o e q (fun no => nomatch no) (by simp)
    · have before := (hok b _ q).1
      have behind := (hok' b _ (un.frzs b ob _ q)).1
      rw [before] at e
      rw [← e]
      exact behind
theorem law_callG (KX : K.In s₁.heap) (hns : s₁.heap.Ns mainGlobals mg) (hb : s₁.heap.Ns builtinsNs mb) (hbb : ∀ x : Str, x ≠ "__name__" → mb x = bootBuiltins x) (hlim : s₁.heap.NoLimit) (hg : s₁.gens = #[])
    (ha : s₁.heap.get? a = some { cls := .type "list", data := .seq vs.toArray }) (hi : IntsAre vs ns) (hl : ns.length ≤ sizeLine) (hr : Room k callerA)
    (F : ∀ base : Heap, K.In base → base.Ns mainGlobals mg → FnG P w K mg base CX k fa fd [x] sp) (hbind : ∀ (s : Shared) (u : Value), BindsTo s fd ⟨[u], []⟩ [(x, u)])
    (hsp : ∀ H : Hp, Only H → SqL K H a (ns.map V.int) → sp [.ref a] H (fun v _ => v = .bl true) fun _ _ _ => False)
    (hCX : ∀ H e s', CX [] H s₁ (fun _ _ _ => False) e s' → False) : codeAny (model P w) callerA (.call (.ref fa) ⟨[.ref a], []⟩) (EndsTrue s₁) s₁ := by
  have many : vs.length = ns.length := hi.length
  have noDict : ∀ o es ep, s₁.heap.get? a = some o → o.data ≠ Data.dict es ep := fun o es ep e d => by
    rw [ha] at e
    cases e
    cases d
  cases own : K.lookup a with
  | some o =>
    have e := KX a o own
    rw [ha] at e
    cases e
    have row : SqL K (fun _ => none) a (ns.map V.int) := .inr ⟨_, vs.toArray, _, own, rfl, rfl, rfl, by rw [List.size_toArray, many]; exact hl, by simpa using vals_ints hi⟩
    exact law_fromG KX hns hb hbb hlim hg noDict hr F hbind (hsp _ (fun _ => .inl rfl) row) (fun _ => .inl rfl) (fun _ _ q => by cases (show (none : Option HO) = _ from q)) (fun _ q => absurd rfl q) (fun q => absurd rfl q) hCX
  | none =>
    let O : Obj := { cls := .type "list", data := .seq vs.toArray }
    let H : Hp := fun b => if b = a then some (.frz O (.lst (ns.map V.int))) else none
    have Ha : H a = some (.frz O (.lst (ns.map V.int))) := if_pos rfl
    have Hn : ∀ b, b ≠ a → H b = none := fun b q => if_neg q
    have hO : Only H := fun b => by
      by_cases q : b = a
      · subst q; exact .inr ⟨_, _, Ha⟩
      · exact .inl (Hn b q)
    refine law_fromG (H := H) KX hns hb hbb hlim hg noDict hr F hbind (hsp H hO (.inl (.inr ⟨O, Ha⟩))) hO (fun b u q => ?_) (fun b q => Classical.byContradiction fun z => q (Hn b z)) (fun _ => own) hCX
    by_cases z : b = a
    · subst z
      rw [Ha] at q
      cases q
      exact ⟨ha, by rw [List.length_map]; exact hl, vs, _, vals_ints hi, ha⟩
    · rw [Hn b z] at q; cases q
end
/-- the law's row, over such a promise -/
theorem walk_ofG {l : PySem.W.OpenLaw} {n k : Nat} {q : Program} {loose : List Str} {XP : (Str → Option Value) → Heap → Prop} {YP : World → Heap → Prop} {d : DefRec} {CX : CXT} {x : Str}
    (hn : l.most = some n) (hn2 : n ≤ sizeLine) (hdf : d.params.defaults = []) (hr : Room k callerA)
    (F : ∀ (w : World) (mg : Str → Option Value) (fa : Addr) (h : Heap), YP w h → h.Ns mainGlobals mg → mg d.name = some (.ref fa) →
      ∃ (K : PySem.W.Frag) (fd : FuncData) (sp : Sp), K.In h ∧ (∀ (s : Shared) (u : Value), BindsTo s fd ⟨[u], []⟩ [(x, u)]) ∧
        (∀ (H : Hp) (a : Addr) (ns : List Int), ns.length ≤ n → Only H → SqL K H a (ns.map V.int) → sp [.ref a] H (fun v _ => v = .bl true) fun _ _ _ => False) ∧
        ∀ base : Heap, K.In base → base.Ns mainGlobals mg → FnG l.prog w K mg base CX k fa fd [x] sp)
    (hCX : ∀ (H : Hp) (s : Shared) (e : Value) (s' : Shared), CX [] H s (fun _ _ _ => False) e s' → False) : PySem.W.WalkO q loose XP YP l.row.toRowW d [] (fun f vs => PySem.call f vs) :=
  Att.attach_call hn hdf fun w s₀ s₁ mg mb fa o pm cd doc a vs ns G Y ho hd hcd hmg hobj hints hlen hg =>
    let ⟨K, fd, sp, KX, hb, hsp, hF⟩ := F w mg fa _ Y G.T.g hmg
    law_callG KX G.T.g G.T.b G.T.builtins G.T.nolimit hg hobj hints (Nat.le_trans hlen hn2) hr hF hb (fun H hO hS => hsp H a ns hlen hO hS) fun H e s' => hCX H s₁ e s'
end WB
/-! WB15: a row unpacked with a star; extend by a tuple; str of a part; keyword calls; what is never reached. -/
namespace WB
open PySem L2 TL PySem.Spec PyProof.Rows
open AutoSeq1 (wpAny_loadPart')


/-! ### a, b, *c, d = row -/
section
variable {prog : Program} {w : World} {A : Around} {E : Value → Shared → Prop} {s : Shared}
theorem star_row {l : Addr} {items : Array Value} {n i : Nat} {Q : List Value → Shared → Prop} (hl : s.heap.IsList l items) (hh : A.handled = none) (hi : i < n) (hn : n ≤ items.size + 1) (hz : items.size ≤ sizeLine)
    (h : ∀ (h' : Heap) (tk : Tok), (∀ b o, s.heap.get? b = some o → h'.get? b = some o) →
      Q (items.toList.take i ++ [.ref h'.objs.size] ++ (items.toList.drop i).drop (items.size + 1 - n)) { s with heap := h'.push { cls := .type "list", data := .seq ((items.toList.drop i).take (items.size + 1 - n)).toArray }, toks := tk }) :
    wpAny (model prog w) A (unpackItems (.ref l) n (some i)) Q E s := by
  have hll : l < s.heap.objs.size := by obtain ⟨o, ho, _⟩ := hl; exact Heap.lt_size ho
  have hne : l ≠ s.heap.objs.size := Nat.ne_of_lt hll
  have many : (items.toList.take i).length = i := by rw [List.length_take, Array.length_toList]; omega
  have left : (items.toList.drop i).length = items.size - i := by rw [List.length_drop, Array.length_toList]
  have mid : (items.toList.drop i).length - (n - 1 - i) = items.size + 1 - n := by rw [left]; omega
  unfold unpackItems notIterableAtAll
  refine wpAny_bind (wpAny_bind (wpAny_specialOf hl.typeIs slot_list_iter.lookup (wpAny_pure ?_)))
  simp only [Bool.false_eq_true, if_false]
  refine wpAny_bind (wpAny_holding (wpAny_pyIter_list hl (wpAny_bind (wpAny_holding (PySem.W.kun_draw hne i 0 _ _ ⟨_, Heap.get?_push_size _ rfl, rfl, rfl⟩ (hl.push _) (by omega) fun h₁ it₁ same₁ => ?_)))))
  have row₁ : h₁.IsList l items := (hl.push _).extBut same₁.extBut hne
  rw [Nat.zero_add] at it₁
  obtain ⟨oi, hoi, _⟩ := id it₁
  obtain ⟨ol, hol, _⟩ := id row₁
  rw [List.drop_zero, if_neg (show ¬ ((items.toList.take i).length < i) by omega)]
  refine wpAny_bind (wpAny_holding (PySem.W.kun_collect (s := { s with heap := h₁ }) (T := "list_iterator") (.inr (.inr (.inl rfl))) (Walks.list (A := A.in1) hh s.heap.objs.size l hne items) (fun j u st => st.1.typeIs) (k := i) (by omega) ⟨it₁, row₁⟩ (Heap.lt_size hoi) (Heap.lt_size hol) (fun h₂ tk kp => ?_) hz))
  show wpAny _ _ (if (items.toList.drop i).length < n - 1 - i then _ else _) _ _ _
  rw [if_neg (by rw [left]; omega)]
  show wpAny _ _ (newList ((items.toList.drop i).take ((items.toList.drop i).length - (n - 1 - i))) >>= fun d => pure (items.toList.take i ++ [d] ++ (items.toList.drop i).drop ((items.toList.drop i).length - (n - 1 - i)))) _ _ _
  rw [mid]
  refine wpAny_bind (wpAny_newList (s := { s with heap := h₂, toks := tk }) (wpAny_pure (h h₂ tk (fun b o e => kp b o (Nat.ne_of_lt (Heap.lt_size e)) (same₁.extBut b o (Nat.ne_of_lt (Heap.lt_size e)) (Heap.get?_push_of_some _ e))))) (by rw [List.length_take, left]; omega))
end
def gStar (K : PySem.W.Frag) (n i : Nat) (t : TGs) : TG := fun v σ H Q => ∃ a xs, v = .ref a ∧ SqL K H a xs ∧ i < n ∧ n ≤ xs.length + 1 ∧
  ∀ p, H p = none → t (xs.take i ++ [.ref p] ++ (xs.drop i).drop (xs.length + 1 - n)) σ (upd H p (.lst ((xs.drop i).take (xs.length + 1 - n)))) Q
section
variable {X : Cx} {K : PySem.W.Frag} {pos : Pos}
theorem pgs_star {e : Expr} {es : List Expr} {t : TG} {u : TGs} {p : Pos} (h1 : PG X e t) (h2 : PGs X es u)
    (hs : (assignEach (.Starred e p :: es) X.env).map (·.2) = assign e X.env :: (assignEach es X.env).map (·.2) := by rfl) : PGs X (.Starred e p :: es) (gCons t u) := by
  refine ⟨fun pins s σ H vs us Q I r h => ?_⟩
  obtain ⟨v, vr, rfl, h⟩ := h
  cases r with
  | cons r rr =>
    rw [hs]
    exact assignInOrder_cons (thn (h1.run pins s σ H _ _ _ I r h) fun _ s1 ⟨σ1, H1, I1, q1⟩ => h2.run pins s1 σ1 H1 _ _ Q I1 rr q1)
theorem kgStar {es : List Expr} {k n i : Nat} {ts : TGs} (hc : X.calm = true) (h : PGs X es ts) (hK : X.K = K := by rfl)
    (hn : (assignEach es X.env).length = n := by rfl) (hst : (assignEach es X.env).findIdx? (·.1) = some i := by rfl) : PG X (.Tuple es k pos) (gStar K n i ts) := by
  subst hK
  refine ⟨fun pins s σ H v u Q I r hw => ?_⟩
  obtain ⟨a, xs, rfl, hq, hi, hm, hw⟩ := hw
  cases r
  obtain ⟨its, rv, pl, hz⟩ := I.list hq
  have many := rv.length
  rw [PyProof.Rows.assign_Tuple]
  refine wpAny_bind (wpAny_standAt ?_)
  unfold unpack
  rw [hn, hst]
  have sizes : its.toArray.size = xs.length := by rw [List.size_toArray]; exact many.symm
  refine wpAny_bind (wpAny_holding (star_row pl.isList (I.ok.hd hc) hi (by rw [sizes]; exact hm) (by rw [sizes]; exact hz) fun h' tk kp => ?_))
  have I1 : Inv X pins σ H { s with heap := h', toks := tk } := I.kept kp
  rw [sizes]
  have fresh : H h'.objs.size = none := I1.hok.fresh (Nat.le_refl _)
  have short : ((xs.drop i).take (xs.length + 1 - n)).length ≤ sizeLine := Nat.le_trans (List.length_take_le _ _) (Nat.le_trans (by omega) hz)
  have I2 := I1.laid (a := h'.objs.size) (o := .lst ((xs.drop i).take (xs.length + 1 - n))) (t' := tk) (h' := h'.push { cls := .type "list", data := .seq ((its.drop i).take (xs.length + 1 - n)).toArray }) (fun b u e => Heap.get?_push_of_some _ e) (Nat.le_refl _)
    ⟨short, (its.drop i).take (xs.length + 1 - n), 0, (rv.drop i).take _, Heap.get?_push_size _ rfl⟩
  have one : Vals [V.ref h'.objs.size] [Value.ref h'.objs.size] := .cons (show RelV (.ref h'.objs.size) (.ref h'.objs.size) from rfl) .nil
  have all : Vals (xs.take i ++ [V.ref h'.objs.size] ++ (xs.drop i).drop (xs.length + 1 - n)) (its.take i ++ [Value.ref h'.objs.size] ++ (its.drop i).drop (xs.length + 1 - n)) := ((rv.take i).append one).append ((rv.drop i).drop _)
  exact h.run pins _ σ _ _ _ Q I2 all (hw _ fresh)
theorem w_gstar {σ : L2.St} {H G : Hp} {L : List (Addr × HO)} {QS : L2.St → Hp → Prop} {a : Addr} {xs : List V} {n i : Nat} {ts : TGs} (sh : SH G L H) (h : SqL K H a xs) (hi : i < n) (hn : n ≤ xs.length + 1)
    (k : ∀ p G' H', Same G G' → G' p = some (.lst ((xs.drop i).take (xs.length + 1 - n))) → SH G' L H' → ts (xs.take i ++ [.ref p] ++ (xs.drop i).drop (xs.length + 1 - n)) σ H' QS) : gStar K n i ts (.ref a) σ H QS :=
  ⟨a, xs, rfl, h, hi, hn, fun p hp => k p _ _ (same_upd (sh.free hp)) upd_same (sh.froz hp _)⟩
end
end WB
/-! WB16: extend by a row or a tuple; str of a part; int of a text; split; calls by keywords. -/
namespace WB
open PySem L2 TL PySem.Spec PyProof.Rows
open AutoSeq1 (wpAny_loadPart')
/-! ### l.extend(t) -/
theorem meets_extendT (l : Addr) (items : Array Value) (n : Nat) (b : Addr) (items2 : Array Value) (n2 : Nat) (dd : Option Addr) (sl : Array (Option Value)) (few : ¬(!items.isEmpty && Builtin.List.listTooLong (items.size + items2.size)) = true) (h1 : items.size ≤ sizeLine) (h2 : items.size + items2.size ≤ sizeLine + 1) :
    Meets (Builtin.«list.extend» ⟨[.ref l, .ref b], []⟩) (fun _ R s => s.heap.get? l = some { cls := .type "list", dict := none, data := .seq items n, slots := #[] } ∧ s.heap.get? b = some { cls := .type "tuple", dict := dd, data := .seq items2 n2, slots := sl } ∧
      R (.ok (.ret Value.none)) { s with heap := s.heap.update l (Obj.mapSeq fun x => x ++ items2), toks := s.toks }) := .of_wp fun prog w A R s h => by
  obtain ⟨hp, g, d, tk, os⟩ := s
  obtain ⟨hl, hb, h⟩ := h
  have t1 := AutoSeq1.idx_int
  have t2 := AutoSeq1.sub_tuple_tuple
  have t3 := AutoSeq1.sub_list_list
  have t4 := AutoSeq1.sub_tuple_list
  have t5 := AutoSeq1.sub_list_tuple
  have room : (items ++ items2).size ≤ sizeLine + 1 := by rw [Array.size_append]; exact h2
  wp_walk using (PySem.wpAny_updateSeq hl rfl (hz := h1) (_hz' := room)), wpAny_loadPart' hl, wpAny_loadPart' hb
  exact ⟨_, rfl, h⟩
def rExtendA (K : PySem.W.Frag) : V → List V → Hp → VK → Prop := fun x vs H Q => ∃ l b xs zs, x = .ref l ∧ vs = [.ref b] ∧ H l = some (.lst xs) ∧ (SqT K H b zs ∨ H b = some (.lst zs)) ∧ xs.length + zs.length ≤ sizeLine ∧ Q .non (upd H l (.lst (xs ++ zs)))
theorem kExtendA {X : Cx} {K : PySem.W.Frag} (hK : X.K = K := by rfl) : MtM X "list.extend" (rExtendA K) := by
  subst hK
  intro pins s σ H x vs v us Q I rx rv h
  obtain ⟨l, b, xs, zs, rfl, rfl, hH, hB, hz, q⟩ := h
  rcases hB with hB | hB
  · cases rx
    obtain ⟨u, rfl, ru⟩ := rv.one
    cases ru
    obtain ⟨z, its, n, r, hl, e⟩ := I.lstM hH
    obtain ⟨its2, r2, ⟨⟨oc, od, dt, osl⟩, e2, c2, n2, d2⟩, z2⟩ := I.tuple hB
    simp only at c2 d2
    subst c2 d2
    have m1 : its.toArray.size = xs.length := by rw [List.size_toArray]; exact hl.symm
    have m2 : its2.toArray.size = zs.length := by rw [List.size_toArray]; exact r2.length.symm
    have few : ¬ (!its.toArray.isEmpty && Builtin.List.listTooLong (its.toArray.size + its2.toArray.size)) = true := by
      rw [notLongL (by omega), Bool.and_false]
      exact Bool.false_ne_true
    refine call_meets F.slot_list_extend ⟨_, e, rfl⟩ F.entry_list_extend (F.args_list_extend_2 _ _) (meets_extendT l its.toArray n b its2.toArray n2 od osl few (by omega) (by omega)) ⟨e, e2, ?_⟩
    exact ⟨.non, _, I.lset (its' := its ++ its2) hH e (by simp) (r.append r2) (by rw [List.length_append]; omega), rfl, q⟩
  · exact mt_extend pins s σ H _ _ v us Q I rx rv ⟨l, b, xs, zs, rfl, rfl, hH, hB, hz, q⟩
theorem o_extT {K : PySem.W.Frag} {l b : Addr} {xs zs : List V} {H : Hp} {Q : VK} (h : H l = some (.lst xs)) (hb : SqT K H b zs) (hz : xs.length + zs.length ≤ 16777216) (q : Q .non (upd H l (.lst (xs ++ zs)))) : rExtendA K (.ref l) [.ref b] H Q := ⟨l, b, xs, zs, rfl, rfl, h, .inl hb, sz _ hz, q⟩
theorem o_extL {K : PySem.W.Frag} {l b : Addr} {xs zs : List V} {H : Hp} {Q : VK} (h : H l = some (.lst xs)) (hb : H b = some (.lst zs)) (hz : xs.length + zs.length ≤ 16777216) (q : Q .non (upd H l (.lst (xs ++ zs)))) : rExtendA K (.ref l) [.ref b] H Q := ⟨l, b, xs, zs, rfl, rfl, h, .inr hb, sz _ hz, q⟩
/-! ### str(x), x a text or a number -/
/-- the text of a part -/
def textOf : PyData → Str
  | .str z => z
  | .int i => (toString i : String)
  | _ => ""
def rStrP : List V → Hp → VK → Prop := fun xs H Q => (∃ z, xs = [.str z] ∧ Q (.str z) H) ∨ ∃ i : Int, xs = [.int i] ∧ i.natAbs.log2 < 1920 ∧ Q (.str (toString i : String)) H
theorem kStrP {X : Cx} : CallR X (.type "str") rStrP := by
  intro pins s σ H xs us Q I r h
  rcases h with ⟨z, rfl, q⟩ | ⟨i, rfl, hz, q⟩
  · exact SkE.call_str_str pins s σ H _ us Q I r ⟨z, rfl, q⟩
  · obtain ⟨u, rfl, t, rfl⟩ := vals1 r
    exact PySem.P.str_of_int hz ⟨.str _, H, I.tok _, ⟨_, rfl⟩, q⟩
/-! ### int(text), text.split(sep) -/
def rIntS : List V → Hp → VK → Prop := fun xs H Q => ∃ a n, xs = [.str a] ∧ PySem.intText? a = some n ∧ a.length ≤ 640 ∧ Q (.int n) H
theorem kIntS {X : Cx} : CallR X (.type "int") rIntS := call_int_str
def rSplit : V → List V → Hp → VK → Prop := fun x xs H Q => ∃ a b, x = .str a ∧ xs = [.str b] ∧ (b.length == 0) = false ∧ a.length + 2 ≤ sizeLine ∧ rNewStrs (Txt.split a b) H Q
theorem kSplit {X : Cx} {o e : Expr} {to te : TE} {apos pos : Pos} (ho : PE X o to) (he : PE X e te) (hs : starEach [e] X.env = [(false, eval e X.env)] := by rfl) (hbase : attributeBase o "split" X.env (eval o X.env) = eval o X.env := by rfl) (hline : (apos.endLine == pos.line) = true := by rfl) :
    PE X (.Call (.Attribute o "split" apos) [e] [] pos) (tM1 rSplit to te) := pe_split ho he hs hbase hline
theorem o_split {G H : Hp} {L : List (Addr × HO)} {a b : Str} {Q : VK} (sh : SH G L H) (hb : (b.length == 0) = false) (ha : a.length + 2 ≤ 16777216) (k : ∀ p G' H', Same G G' → G' p = some (.lst ((Txt.split a b).map V.str)) → SH G' L H' → Q (.ref p) H') : rSplit (.str a) [.str b] H Q :=
  ⟨a, b, rfl, rfl, hb, sz _ ha, w_newF sh _ k⟩
/-! ### calls by keywords -/
section
variable {K : PySem.W.Frag} {x qual : Str} {params : Arguments} {body : List Stmt} {scope : Scope} {f : Addr} {fd : FuncData} {ps : List Str}
/-- no defaults: n positional values and the keywords ks, put in the parameters' order by g -/
theorem FunD.kw0 (F : FunD K x qual params body scope [] [] f fd) (n : Nat) (ks : List Str) (g : {α : Type} → List α → List α → List α) (hrel : ∀ {vs zs : List V} {us ws : List Value}, Vals vs us → Vals zs ws → Vals (g vs zs) (g us ws))
    (h : ∀ (kV doc pm : Value) (an : Option Addr) (cdv ct : Value) (us ws : List Value), us.length = n → ws.length = ks.length → bindArgs (PySem.W.fnOf x qual params body scope .none kV doc pm an cdv ct) ⟨us, ks.zip ws⟩ = pure (ps.zip (g us ws))) :
    KBn K fd ps n ks (fun us ws => g us ws) (fun vs zs => g vs zs) := by
  obtain ⟨oc, od, dV, kV, doc, pm, an, cdv, ct, osl, rfl, lk, hcd, hD, hK⟩ := F.ex
  rcases hD with ⟨_, rfl⟩ | ⟨e, _⟩
  · exact ⟨fun s us ws _ l1 l2 => .of_eq (h kV doc pm an cdv ct us ws l1 l2), fun r1 r2 => hrel r1 r2⟩
  · exact absurd rfl e
end
/-- a def called with n positional values and the keywords ks -/
structure CalK (P : Program) (w : World) (K : PySem.W.Frag) (mg : Str → Option Value) (base : Heap) (CX : CXT) (k : Nat) (x : Str) (ps : List Str) (n : Nat) (ks : List Str) (gV : List V → List V → List V) (sp : Sp) : Prop where
  ex : ∃ f fd, ∃ g : List Value → List Value → List Value, mg x = some (.ref f) ∧ PySem.W.keepIn K (.ref f) = true ∧ KBn K fd ps n ks g gV ∧ FnOk P w K mg base CX k f fd ps sp
section
variable {X : Cx} {k j n : Nat} {x : Str} {ps ks : List Str} {gV : List V → List V → List V} {sp : Sp} {p pos : Pos} {e : Expr} {es : List Expr} {kws : List Keyword} {t tk : TA}
theorem CalK.pe (c : CalK X.prog X.w X.K X.mg X.base CX0 k x ps n ks gV sp) (hr : Room j X.A) (hg : Gl X x) (ha : PA X (e :: es) t) (hkw : PK X kws tk) (hk : k ≤ j := by decide)
    (hall : (backToKw pos (keywordEach kws X.env)).all (·.1.isSome) = true := by rfl) (hks : (backToKw pos (keywordEach kws X.env)).filterMap (·.1) = ks := by rfl) (hdb : (x == ("__debug__" : Str)) = false := by decide)
    (he : starEach (e :: es) X.env = (false, eval e X.env) :: starEach es X.env := by rfl) (hpl : ((backTo pos (starEach (e :: es) X.env)).any (·.1) || (backToKw pos (keywordEach kws X.env)).any (·.1.isNone)) = false := by rfl) :
    PE X (.Call (.Name x p) (e :: es) kws pos) (tCallN n ks.length sp gV E0 t tk) := by
  obtain ⟨f, fd, g, h1, h2, h3, h4⟩ := c.ex
  exact pe_callN h4 (hr.mono hk) hg h1 h2 h3 pass0 ha hkw hall hks hdb he hpl
/-- f(k = v, ..) -/
theorem CalK.pe0 (c : CalK X.prog X.w X.K X.mg X.base CX0 k x ps 0 ks gV sp) (hr : Room j X.A) (hg : Gl X x) (hkw : PK X kws tk) (hk : k ≤ j := by decide)
    (hall : (backToKw pos (keywordEach kws X.env)).all (·.1.isSome) = true := by rfl) (hks : (backToKw pos (keywordEach kws X.env)).filterMap (·.1) = ks := by rfl) (hdb : (x == ("__debug__" : Str)) = false := by decide)
    (hpl : ((backTo pos (starEach [] X.env)).any (·.1) || (backToKw pos (keywordEach kws X.env)).any (·.1.isNone)) = false := by rfl) :
    PE X (.Call (.Name x p) [] kws pos) (tCallN 0 ks.length sp gV E0 tNil tk) := by
  obtain ⟨f, fd, g, h1, h2, h3, h4⟩ := c.ex
  refine ⟨fun pins s σ H Q I h => wpAny_Call_Name_kw (ld_glob I hg h1 ?_ hdb)⟩
  refine PySem.W.callWith_KW0 (h₀ := X.base) I.ok.mod.kin h2 hall (thn (hkw.run pos pins s σ H _ I h) fun ws s2 ⟨zs, H2, I2, rz, l1, l2, q2⟩ => ⟨I2.kIn, ?_⟩) hpl
  rw [hks]
  exact run_fnN (us := []) (vs := []) h4 (hr.mono hk) h3 pass0 I2 .nil rz l1 l2 q2
theorem w_callN {σ : L2.St} {H : Hp} {Q : VK} {m : Nat} {t tk : TA} {E : XK} (h : t σ H fun vs H1 => tk σ H1 fun zs H2 => vs.length = n ∧ zs.length = m ∧ sp (gV vs zs) H2 Q E) : tCallN n m sp gV E t tk σ H Q := h
end
end WB
/-! WB17: things that are made; their words; their text. -/
namespace WB
open PySem L2 TL
/-- the text of a number -/
abbrev numT (n : Nat) : Str := Str.ofString (toString ((n : Nat) : Int))
abbrev bigN : Nat := 10 ^ 32
/-- what the law's maker of things makes -/
inductive MadeT : List PyData → Prop
  | letter {a b w : Str} : nameB a = true → nameB b = true → wordB w = true → MadeT [.str "letter", .str a, .str b, .str w]
  | echo {a b s n : Str} {i : Nat} : nameB a = true → nameB b = true → s ∈ sortsT → nameB n = true → i < bigN → MadeT [.str "echo", .str a, .str b, .str s, .tuple [.str n, .int i]]
  | answer {a s n m : Str} {i j : Nat} : nameB a = true → s ∈ sortsT → nameB n = true → i < bigN → nameB m = true → 1 ≤ j → j < bigN → MadeT [.str "answer", .str a, .str s, .tuple [.str n, .int i], .tuple [.str m, .int j]]
  | goer {a : Str} {i : Nat} {zs : List Str} : nameB a = true → 2 ≤ i → i < bigN → (∀ z ∈ zs, nameB z = true) → zs.Nodup → zs.length ≤ 26 → MadeT [.str "goer", .str a, .int i, .tuple (zs.map PyData.str)]
/-- the parts, those within in their places -/
def flatD : List PyData → List PyData
  | [] => []
  | .tuple es :: r => es ++ flatD r
  | d :: r => d :: flatD r
def wordsT (ds : List PyData) : List Str := (flatD ds).map textOf
def textT (ds : List PyData) : Str := Txt.join " " (wordsT ds)
/-- a part that has a text -/
inductive PartD : PyData → Prop
  | str {z : Str} : z.length ≤ 40 → (32 ∉ tl z) → smD (.str z) = true → PartD (.str z)
  | num {n : Nat} : n < bigN → PartD (.int n)
theorem num_len {n : Nat} (h : n < bigN) : (numT n).length ≤ 32 := by
  have := numL_len (n := n) (k := 32) (by decide) h
  rw [← tl_num, tl_len] at this
  exact this
theorem num_log {n : Nat} (h : n < bigN) : ((n : Int)).natAbs.log2 < 1920 := by
  by_cases h0 : n = 0
  · subst h0; decide
  · have h2 : n < 2 ^ 1920 := Nat.lt_of_lt_of_le h (by decide +kernel)
    simpa using (Nat.log2_lt h0).mpr h2
theorem PartD.len {d : PyData} (h : PartD d) : (textOf d).length ≤ 40 := by
  cases h with
  | str h _ _ => exact h
  | num h => have := num_len h; show (numT _).length ≤ 40; omega
theorem PartD.free {d : PyData} (h : PartD d) : 32 ∉ tl (textOf d) := by
  cases h with
  | str _ h _ => exact h
  | num h => show 32 ∉ tl (numT _); rw [tl_num]; exact numL_free (.inl (by decide))
theorem name_part {z : Str} (h : nameB z = true) : PartD (.str z) := by
  obtain ⟨h1, h2, h3⟩ := nameB_iff.mp h
  refine .str (by rw [← tl_len]; omega) (fun hm => ?_) (sm_name h)
  have := h3 _ hm
  simp [isLow] at this
theorem word_part {z : Str} (h : wordB z = true) : PartD (.str z) := by
  obtain ⟨h1, h2, h3⟩ := wordB_iff.mp h
  refine .str (by rw [← tl_len]; omega) (fun hm => ?_) (sm_word h)
  have := h3 _ hm
  simp [isLow, isFig] at this
theorem sort_part {z : Str} (h : z ∈ sortsT) : PartD (.str z) := by
  have : ∀ z ∈ sortsT, z.length ≤ 40 ∧ 32 ∉ tl z ∧ smD (.str z) = true := by decide +kernel
  exact .str (this z h).1 (this z h).2.1 (this z h).2.2
theorem sort_is {z : Str} (h : z ∈ sortsT) : sortD (.str z) = true := by
  show inS (.str z) sortsT = true
  rw [inS_strs]; exact decide_eq_true h
theorem sort_sm {z : Str} (h : z ∈ sortsT) : smD (.str z) = true := by
  have : ∀ z ∈ sortsT, smD (.str z) = true := by decide +kernel
  exact this z h
theorem unlike_strs : ∀ zs : List Str, unlike (zs.map PyData.str) = decide zs.Nodup
  | [] => rfl
  | z :: zs => by
    show (!((zs.map PyData.str).any fun e => PyData.eqv (.str z) e) && unlike (zs.map PyData.str)) = _
    rw [unlike_strs zs, List.any_map]
    have e : (zs.any ((fun e => PyData.eqv (.str z) e) ∘ PyData.str)) = decide (z ∈ zs) := by
      rw [← inS_strs]
      unfold inS
      congr 1
    rw [e]
    by_cases h1 : z ∈ zs <;> by_cases h2 : zs.Nodup <;> simp [h1, h2]
theorem str_part {z : Str} (h1 : z.length ≤ 40) (h2 : 32 ∉ tl z) (h3 : smD (.str z) = true := by decide +kernel) : PartD (.str z) := .str h1 h2 h3
section
variable {ds : List PyData}
theorem flat_strs (zs : List Str) : ∀ d ∈ zs.map PyData.str, ∃ z ∈ zs, d = .str z := fun d hd => let ⟨z, hz, e⟩ := List.mem_map.mp hd; ⟨z, hz, e.symm⟩
theorem MadeT.parts (h : MadeT ds) : ∀ d ∈ flatD ds, PartD d := by
  cases h with
  | letter ha hb hw =>
    intro d hd
    simp only [flatD, List.mem_cons, List.not_mem_nil, or_false] at hd
    rcases hd with rfl | rfl | rfl | rfl
    · exact str_part (by decide +kernel) (by decide +kernel)
    · exact name_part ha
    · exact name_part hb
    · exact word_part hw
  | echo ha hb hs hn hi =>
    intro d hd
    simp only [flatD, List.mem_cons, List.mem_append, List.not_mem_nil, or_false] at hd
    rcases hd with rfl | rfl | rfl | rfl | rfl | rfl
    · exact str_part (by decide +kernel) (by decide +kernel)
    · exact name_part ha
    · exact name_part hb
    · exact sort_part hs
    · exact name_part hn
    · exact .num hi
  | answer ha hs hn hi hm h1 hj =>
    intro d hd
    simp only [flatD, List.mem_cons, List.mem_append, List.not_mem_nil, or_false] at hd
    rcases hd with rfl | rfl | rfl | (rfl | rfl) | rfl | rfl
    · exact str_part (by decide +kernel) (by decide +kernel)
    · exact name_part ha
    · exact sort_part hs
    · exact name_part hn
    · exact .num hi
    · exact name_part hm
    · exact .num hj
  | goer ha h2 hi hz hn hl =>
    intro d hd
    simp only [flatD, List.mem_cons, List.mem_append, List.not_mem_nil, or_false] at hd
    rcases hd with rfl | rfl | rfl | hd
    · exact str_part (by decide +kernel) (by decide +kernel)
    · exact name_part ha
    · exact .num hi
    · obtain ⟨z, hz', rfl⟩ := flat_strs _ d hd
      exact name_part (hz z hz')
theorem MadeT.few (h : MadeT ds) : (flatD ds).length ≤ 30 ∧ ds.length ≤ 5 ∧ 1 ≤ (flatD ds).length ∧ ds ≠ [] := by
  cases h <;> simp [flatD] <;> omega
theorem MadeT.thing (h : MadeT ds) : thingD (.tuple ds) = true := by
  cases h with
  | @letter a b w ha hb hw =>
    show ((true && (nameB a && nameB b && wordB w)) || _ || _ || _) = true
    rw [ha, hb, hw]; rfl
  | @echo a b s n i ha hb hs hn hi =>
    show (((false && _) || (true && (nameB a && nameB b && sortD (.str s) && (nameB n && decide ((0 : Int) ≤ i))))) || _ || _) = true
    rw [ha, hb, hn, sort_is hs, decide_eq_true (by omega)]; rfl
  | @answer a s n m i j ha hs hn hi hm h1 hj =>
    show (((false && _) || (false && _)) || (true && (nameB a && sortD (.str s) && (nameB n && decide ((0 : Int) ≤ i)) && (nameB m && decide ((1 : Int) ≤ j)))) || _) = true
    rw [ha, hm, hn, sort_is hs, decide_eq_true (show (0 : Int) ≤ i by omega), decide_eq_true (show (1 : Int) ≤ j by omega)]; rfl
  | @goer a i zs ha h2 hi hz hn hl =>
    show (false || false || false || (true && (nameB a && decide ((2 : Int) ≤ i) && ((zs.map PyData.str).all nameD && unlike (zs.map PyData.str))))) = true
    have e : (zs.map PyData.str).all nameD = true := by
      rw [List.all_map, List.all_eq_true]; exact hz
    rw [ha, decide_eq_true (show (2 : Int) ≤ i by omega), e, unlike_strs, decide_eq_true hn]; rfl
theorem MadeT.sm (h : MadeT ds) : smD (.tuple ds) = true := by
  cases h with
  | letter ha hb hw => exact sm_tup (by simp only [List.mem_cons, List.not_mem_nil, or_false]; rintro d (rfl | rfl | rfl | rfl); decide +kernel; exact sm_name ha; exact sm_name hb; exact sm_word hw) (by show 4 ≤ 1000; decide)
  | echo ha hb hs hn hi =>
    refine sm_tup ?_ (by show 5 ≤ 1000; decide)
    simp only [List.mem_cons, List.not_mem_nil, or_false]
    rintro d (rfl | rfl | rfl | rfl | rfl)
    · decide +kernel
    · exact sm_name ha
    · exact sm_name hb
    · exact sort_sm hs
    · exact sm_tup (by simp only [List.mem_cons, List.not_mem_nil, or_false]; rintro d (rfl | rfl); exact sm_name hn; rfl) (by show 2 ≤ 1000; decide)
  | answer ha hs hn hi hm h1 hj =>
    refine sm_tup ?_ (by show 5 ≤ 1000; decide)
    simp only [List.mem_cons, List.not_mem_nil, or_false]
    rintro d (rfl | rfl | rfl | rfl | rfl)
    · decide +kernel
    · exact sm_name ha
    · exact sort_sm hs
    · exact sm_tup (by simp only [List.mem_cons, List.not_mem_nil, or_false]; rintro d (rfl | rfl); exact sm_name hn; rfl) (by show 2 ≤ 1000; decide)
    · exact sm_tup (by simp only [List.mem_cons, List.not_mem_nil, or_false]; rintro d (rfl | rfl); exact sm_name hm; rfl) (by show 2 ≤ 1000; decide)
  | goer ha h2 hi hz hn hl =>
    refine sm_tup ?_ (by show 4 ≤ 1000; decide)
    simp only [List.mem_cons, List.not_mem_nil, or_false]
    rintro d (rfl | rfl | rfl | rfl)
    · decide +kernel
    · exact sm_name ha
    · rfl
    · exact sm_tup (fun d hd => by obtain ⟨z, hz', rfl⟩ := flat_strs _ d hd; exact sm_name (hz z hz')) (by rw [List.length_map]; omega)
/-- the text's length -/
theorem sum_le {l : List Str} {B : Nat} (h : ∀ z ∈ l, z.length ≤ B) : (l.map (·.length)).sum ≤ l.length * B := by
  induction l with
  | nil => simp
  | cons z l ih =>
    have h1 := h z List.mem_cons_self
    have h2 := ih fun y hy => h y (List.mem_cons_of_mem _ hy)
    simp only [List.map_cons, List.sum_cons, List.length_cons, Nat.succ_mul]
    omega
theorem MadeT.sum (h : MadeT ds) : ((wordsT ds).map (·.length)).sum + (wordsT ds).length * (Str.ofString " ").length ≤ 1230 := by
  have h1 : ∀ z ∈ wordsT ds, z.length ≤ 40 := fun z hz => by obtain ⟨d, hd, rfl⟩ := List.mem_map.mp hz; exact (h.parts d hd).len
  have h2 := sum_le h1
  have h3 : (wordsT ds).length ≤ 30 := by unfold wordsT; rw [List.length_map]; exact h.few.1
  have h4 : (Str.ofString " ").length = 1 := by decide +kernel
  rw [h4]
  omega
theorem MadeT.split (h : MadeT ds) : Txt.split (textT ds) " " = wordsT ds := by
  refine split_join (s := 32) (S := []) (by decide +kernel) (by decide +kernel) (fun e => ?_) fun p hp => ?_
  · have := h.few.2.2.1
    unfold wordsT at e
    rw [List.map_eq_nil_iff] at e
    rw [e] at this; simp at this
  · obtain ⟨d, hd, rfl⟩ := List.mem_map.mp hp
    exact (h.parts d hd).free
theorem MadeT.len (h : MadeT ds) : (textT ds).length ≤ 1230 := by
  have h1 : (Txt.join " " (wordsT ds)).length ≤ ((wordsT ds).map (·.length)).sum + (wordsT ds).length * (Str.ofString " ").length := by
    rw [join_eq]; exact StrLaws.join_length_le _ _
  exact Nat.le_trans h1 h.sum
theorem PartD.sm {d : PyData} (h : PartD d) : ∀ c ∈ tl (textOf d), c < 0x110000 := by
  cases h with
  | str _ _ h =>
    simp only [smD, Bool.and_eq_true, decide_eq_true_eq, List.all_eq_true] at h
    exact h.2
  | @num n _ =>
    intro c hc
    have hc' : c ∈ numL n := by rw [← tl_num]; exact hc
    have := numL_digits n c hc'
    omega
theorem mem_joinL {S : List Nat} {c : Nat} : ∀ {ps : List (List Nat)}, c ∈ joinL S ps → c ∈ S ∨ ∃ p ∈ ps, c ∈ p
  | [], h => by cases h
  | [p], h => .inr ⟨p, List.mem_cons_self, h⟩
  | p :: q :: r, h => by
    rcases List.mem_append.mp (show c ∈ p ++ (S ++ joinL S (q :: r)) from h) with h | h
    · exact .inr ⟨p, List.mem_cons_self, h⟩
    · rcases List.mem_append.mp h with h | h
      · exact .inl h
      · rcases mem_joinL h with h | ⟨p', hp, h⟩
        · exact .inl h
        · exact .inr ⟨p', List.mem_cons_of_mem _ hp, h⟩
theorem MadeT.smT (h : MadeT ds) : smD (.str (textT ds)) = true := by
  simp only [smD, Bool.and_eq_true, decide_eq_true_eq, List.all_eq_true]
  refine ⟨Nat.le_trans h.len (by decide), fun c hc => ?_⟩
  unfold textT at hc
  rw [join_eq, tl_join] at hc
  rcases mem_joinL hc with hc | ⟨p, hp, hc⟩
  · have : ∀ c ∈ tl (Str.ofString " "), c < 0x110000 := by decide +kernel
    exact this c hc
  · obtain ⟨z, hz, rfl⟩ := List.mem_map.mp hp
    obtain ⟨d, hd, rfl⟩ := List.mem_map.mp hz
    exact (h.parts d hd).sm c hc
end
end WB
/-! WB18: promises of the law's makers, of what makes texts of things and reads them. -/
namespace WB
open PySem L2 TL
def spWholeN : Sp := fun vs H Q _ => ∃ (G : Hp) (L : List (Addr × HO)) (p : Addr) (a b : Int) (m : Nat), vs = [.ref p, .int m] ∧ SH G ((p, potO a b) :: L) H ∧ PotB a b ∧ m ≤ 100 ∧
  ∀ (G' H' : Hp) (i : Nat) (a' b' : Int), Same G G' → SH G' ((p, potO a' b') :: L) H' → PotB a' b' → m ≤ i → i < bigN → Q (.int i) H'
def spThingM (K : PySem.W.Frag) : Sp := fun vs H Q _ => ∃ (G : Hp) (L : List (Addr × HO)) (p : Addr) (a b : Int), vs = [.ref p] ∧ SH G ((p, potO a b) :: L) H ∧ PotB a b ∧
  ∀ (G' H' : Hp) (t : Addr) (ds : List PyData) (a' b' : Int), Same G G' → SH G' ((p, potO a' b') :: L) H' → PotB a' b' → Dp K G' (.ref t) (.tuple ds) → MadeT ds → Q (.ref t) H'
theorem w_whole {p : Addr} {a b : Int} {m : Nat} {Q : VK} {E : XK} {G H : Hp} {L : List (Addr × HO)} (sh : SH G ((p, potO a b) :: L) H) (hb : PotB a b) (hm : m ≤ 100)
    (k : ∀ (G' H' : Hp) (i : Nat) (a' b' : Int), Same G G' → SH G' ((p, potO a' b') :: L) H' → PotB a' b' → m ≤ i → i < bigN → Q (.int i) H') : spWholeN [.ref p, .int m] H Q E := ⟨G, L, p, a, b, m, rfl, sh, hb, hm, k⟩
theorem dp_strs {K : PySem.W.Frag} {G : Hp} : ∀ zs : List Str, DpAll K G (zs.map V.str) (zs.map PyData.str)
  | [] => .nil
  | z :: zs => .cons (.str z) (dp_strs zs)
/-- a thing's text -/
def spText (K : PySem.W.Frag) : Sp := fun vs H Q _ => ∃ (G : Hp) (L : List (Addr × HO)) (t : Addr) (ds : List PyData), vs = [.ref t] ∧ SH G L H ∧ Dp K G (.ref t) (.tuple ds) ∧ MadeT ds ∧
  ∀ (G' H' : Hp), Same G G' → SH G' L H' → Q (.str (textT ds)) H'
theorem w_text {K : PySem.W.Frag} {G H : Hp} {L : List (Addr × HO)} {t : Addr} {ds : List PyData} {Q : VK} {E : XK} (sh : SH G L H) (hd : Dp K G (.ref t) (.tuple ds)) (hm : MadeT ds) (k : ∀ (G' H' : Hp), Same G G' → SH G' L H' → Q (.str (textT ds)) H') : spText K [.ref t] H Q E := ⟨G, L, t, ds, rfl, sh, hd, hm, k⟩
/-- a thing read back -/
def spRead (K : PySem.W.Frag) : Sp := fun vs H Q _ => ∃ (G : Hp) (L : List (Addr × HO)) (ds : List PyData), vs = [.str (textT ds)] ∧ SH G L H ∧ MadeT ds ∧
  ∀ (G' H' : Hp) (t : Addr), Same G G' → SH G' L H' → Dp K G' (.ref t) (.tuple ds) → Q (.ref t) H'
/-- a number's text -/
def spNum : Sp := fun vs H Q _ => ∃ (G : Hp) (L : List (Addr × HO)) (n : Nat), vs = [.str (numT n)] ∧ SH G L H ∧ n < bigN ∧ ∀ (G' H' : Hp), Same G G' → SH G' L H' → Q (.int n) H'
/-- a name and a number -/
def spPairOf (K : PySem.W.Frag) : Sp := fun vs H Q _ => ∃ (G : Hp) (L : List (Addr × HO)) (l : Addr) (z : Str) (n : Nat), vs = [.ref l] ∧ SH G L H ∧ SqL K G l [.str z, .str (numT n)] ∧ n < bigN ∧
  ∀ (G' H' : Hp) (t : Addr), Same G G' → SH G' L H' → Dp K G' (.ref t) (.tuple [.str z, .int n]) → Q (.ref t) H'
/-- of a sort s: the thing of the words behind the first -/
def spMaker (K : PySem.W.Frag) (s : Str) : Sp := fun vs H Q _ => ∃ (G : Hp) (L : List (Addr × HO)) (l : Addr) (ds : List PyData) (ws : List Str), vs = [.ref l] ∧ SH G L H ∧ MadeT ds ∧ wordsT ds = s :: ws ∧ SqL K G l (ws.map V.str) ∧
  ∀ (G' H' : Hp) (t : Addr), Same G G' → SH G' L H' → Dp K G' (.ref t) (.tuple ds) → Q (.ref t) H'
end WB
/-! WB19: how long data is shown; dicts with text keys, turns; things by their texts. -/
namespace WB
open PySem L2 TL
/-! ### shown data -/
mutual
def shB : PyData → Nat
  | .none => 4 | .bool _ => 5 | .int _ => 1921
  | .str z => 10 * z.length + 2
  | .list ds => shBs ds + 3
  | .tuple ds => shBs ds + 3
  | .dict _ => 0
def shBs : List PyData → Nat
  | [] => 0
  | d :: ds => shB d + 2 + shBs ds
end
def noDictD : PyData → Bool := fun d => !d.hasDict
mutual
theorem shown_le : ∀ d : PyData, smD d = true → d.showable = true → d.hasDict = false → d.shown.length ≤ shB d
  | .none, _, _, _ => by simp only [PyData.shown, shB]; decide +kernel
  | .bool b, _, _, _ => by cases b <;> (simp only [PyData.shown, shB]; decide +kernel)
  | .int i, _, h, _ => by
    simp only [PyData.showable, decide_eq_true_eq] at h
    simp only [PyData.shown, shB]
    exact PyProof.Rows.int_text_len_1921 h
  | .str z, h, _, _ => by
    simp only [smD, Bool.and_eq_true, decide_eq_true_eq, List.all_eq_true] at h
    simp only [PyData.shown, shB]
    exact StrLaws.reprText_len z fun c hc => Nat.lt_of_lt_of_le (h.2 c hc) (by decide)
  | .list ds, h, h2, h3 => by
    simp only [smD, Bool.and_eq_true] at h
    simp only [PyData.showable] at h2
    simp only [PyData.hasDict] at h3
    have := shownAll_le ds h.2 h2 h3
    have e := listText_len_le (PyData.shownAll ds)
    simp only [PyData.shown, shB]
    omega
  | .tuple ds, h, h2, h3 => by
    simp only [smD, Bool.and_eq_true] at h
    simp only [PyData.showable] at h2
    simp only [PyData.hasDict] at h3
    have := shownAll_le ds h.2 h2 h3
    have e := tupleText_len_le (PyData.shownAll ds)
    simp only [PyData.shown, shB]
    omega
  | .dict _, _, _, h => by simp [PyData.hasDict] at h
theorem shownAll_le : ∀ ds : List PyData, smAll ds = true → PyData.showableAll ds = true → PyData.hasDictAll ds = false → ((PyData.shownAll ds).map (·.length)).sum + 2 * (PyData.shownAll ds).length ≤ shBs ds
  | [], _, _, _ => by simp [PyData.shownAll, shBs]
  | d :: ds, h, h2, h3 => by
    simp only [smAll, Bool.and_eq_true] at h
    simp only [PyData.showableAll, Bool.and_eq_true] at h2
    simp only [PyData.hasDictAll, Bool.or_eq_false_iff] at h3
    have a := shown_le d h.1 h2.1 h3.1
    have b := shownAll_le ds h.2 h2.2 h3.2
    simp only [PyData.shownAll, List.map_cons, List.sum_cons, List.length_cons, shBs]
    omega
end
theorem shBs_strs {zs : List Str} (h : ∀ z ∈ zs, z.length ≤ 40) : shBs (zs.map PyData.str) ≤ 404 * zs.length := by
  induction zs with
  | nil => simp [shBs]
  | cons z zs ih =>
    have h1 := h z List.mem_cons_self
    have h2 := ih fun y hy => h y (List.mem_cons_of_mem _ hy)
    simp only [List.map_cons, shBs, shB, List.length_cons]
    omega
theorem showable_strs (zs : List Str) : PyData.showableAll (zs.map PyData.str) = true := by
  induction zs with
  | nil => simp [PyData.showableAll]
  | cons z zs ih => simp [PyData.showableAll, PyData.showable, ih]
theorem noDict_strs (zs : List Str) : PyData.hasDictAll (zs.map PyData.str) = false := by
  induction zs with
  | nil => simp [PyData.hasDictAll]
  | cons z zs ih => simp [PyData.hasDictAll, PyData.hasDict, ih]
theorem depth_strs (zs : List Str) : PyData.depthAll (zs.map PyData.str) ≤ 1 := by
  induction zs with
  | nil => simp [PyData.depthAll]
  | cons z zs ih => simp only [List.map_cons, PyData.depthAll, PyData.depth]; omega
/-- what repr asks of data -/
structure ShowD (d : PyData) : Prop where
  sh : d.showable = true
  len : d.shown.length ≤ 16777216
  dp : d.depth ≤ 32
theorem MadeT.show {ds : List PyData} (h : MadeT ds) : ShowD (.tuple ds) := by
  have sm := h.sm
  have key : (PyData.tuple ds).showable = true ∧ (PyData.tuple ds).hasDict = false ∧ shB (.tuple ds) ≤ 60000 ∧ (PyData.tuple ds).depth ≤ 32 := by
    cases h with
    | letter ha hb hw =>
      have l1 := (nameB_iff.mp ha).2.1
      have l2 := (nameB_iff.mp hb).2.1
      have l3 := (wordB_iff.mp hw).2.1
      rw [tl_len] at l1 l2 l3
      have l0 : (Str.ofString "letter").length = 6 := by decide +kernel
      refine ⟨by simp [PyData.showable, PyData.showableAll], by simp [PyData.hasDict, PyData.hasDictAll], ?_, by simp [PyData.depth, PyData.depthAll]⟩
      simp only [shB, shBs, l0]; omega
    | echo ha hb hs hn hi =>
      have l1 := (nameB_iff.mp ha).2.1
      have l2 := (nameB_iff.mp hb).2.1
      have l3 := (sort_part hs).len
      have l4 := (nameB_iff.mp hn).2.1
      rw [tl_len] at l1 l2 l4
      have l0 : (Str.ofString "echo").length = 4 := by decide +kernel
      refine ⟨by simpa [PyData.showable, PyData.showableAll] using num_log hi, by simp [PyData.hasDict, PyData.hasDictAll], ?_, by simp [PyData.depth, PyData.depthAll]⟩
      simp only [textOf] at l3
      simp only [shB, shBs, l0]; omega
    | answer ha hs hn hi hm h1 hj =>
      have l1 := (nameB_iff.mp ha).2.1
      have l2 := (nameB_iff.mp hm).2.1
      have l3 := (sort_part hs).len
      have l4 := (nameB_iff.mp hn).2.1
      rw [tl_len] at l1 l2 l4
      have l0 : (Str.ofString "answer").length = 6 := by decide +kernel
      refine ⟨by simpa [PyData.showable, PyData.showableAll] using ⟨num_log hi, num_log hj⟩, by simp [PyData.hasDict, PyData.hasDictAll], ?_, by simp [PyData.depth, PyData.depthAll]⟩
      simp only [textOf] at l3
      simp only [shB, shBs, l0]; omega
    | @goer a i zs ha h2 hi hz hn hl =>
      have l1 := (nameB_iff.mp ha).2.1
      rw [tl_len] at l1
      have l0 : (Str.ofString "goer").length = 4 := by decide +kernel
      have l5 := shBs_strs (zs := zs) fun z hz' => by have := (nameB_iff.mp (hz z hz')).2.1; rw [tl_len] at this; omega
      have l6 := depth_strs zs
      refine ⟨by simpa [PyData.showable, PyData.showableAll] using ⟨num_log hi, showable_strs zs⟩, by simp [PyData.hasDict, PyData.hasDictAll, noDict_strs], ?_, ?_⟩
      · simp only [shB, shBs, l0]; omega
      · simp only [PyData.depth, PyData.depthAll]; omega
  exact ⟨key.1, Nat.le_trans (shown_le _ sm key.1 key.2.1) (by omega), key.2.2.2⟩
theorem o_reprS {K : PySem.W.Frag} {x : V} {d : PyData} {H : Hp} {Q : VK} (hd : Dp K H x d) (s : ShowD d) (q : Q (.str d.shown) H) : rReprD K [x] H Q := o_reprD hd s.sh s.len s.dp q
/-! ### things by their texts -/
theorem numT_inj {i j : Nat} (h : numT i = numT j) : i = j := by
  have e := congrArg tl h
  rw [tl_num, tl_num] at e
  exact numL_inj e
theorem words_tuple (zs : List Str) : (zs.map PyData.str).map textOf = zs := by
  rw [List.map_map]
  exact (List.map_congr_left (g := id) fun z _ => rfl).trans (List.map_id _)
theorem MadeT.inj {ds es : List PyData} (h1 : MadeT ds) (h2 : MadeT es) (h : wordsT ds = wordsT es) : ds = es := by
  cases h1 <;> cases h2 <;> simp only [wordsT, flatD, List.append_nil, List.map_cons, List.map_nil, List.cons_append, List.nil_append, textOf, words_tuple] at h
  all_goals first
    | (exfalso; injection h with h0 _; exact absurd h0 (by decide +kernel))
    | skip
  · simp only [List.cons.injEq, and_true] at h
    obtain ⟨_, rfl, rfl, rfl⟩ := h
    rfl
  · simp only [List.cons.injEq, and_true] at h
    obtain ⟨_, rfl, rfl, rfl, rfl, e⟩ := h
    rw [numT_inj e]
  · simp only [List.cons.injEq, and_true] at h
    obtain ⟨_, rfl, rfl, rfl, e, rfl, e2⟩ := h
    rw [numT_inj e, numT_inj e2]
  · simp only [List.cons.injEq, and_true] at h
    obtain ⟨_, rfl, e, rfl⟩ := h
    rw [numT_inj e]
theorem MadeT.text_inj {ds es : List PyData} (h1 : MadeT ds) (h2 : MadeT es) (h : textT ds = textT es) : ds = es := by
  have e := h1.split
  rw [h, h2.split] at e
  exact h1.inj h2 e.symm
/-! ### dicts -/
def GetD (a : Addr) (y z : V) (H : Hp) (Q : VK) : Prop := ∃ o, DGet H a y o ∧ Q (o.getD z) H
def DG2 (x : V) (H1 : Hp) (ty tx : TE) (σ : L2.St) (Q : VK) : Prop := ∃ a, x = .ref a ∧ IsD H1 a ∧ ty σ H1 fun y H2 => tx σ H2 fun z H3 => GetD a y z H3 Q
def PutD (x y v : V) (H : Hp) (R : Hp → Prop) : Prop := ∃ a H4, x = .ref a ∧ DPut H a y v H4 ∧ R H4
section
variable {σ : L2.St} {H : Hp} {Q : VK} {td ty tx tv : TE} {D : Ends} {a : Addr} {kvs : List (Key × V)} {key : Str} {z v : V}
theorem w_dget2 (h : td σ H fun x H1 => DG2 x H1 ty tx σ Q) : tDGet2 td ty tx σ H Q := h
theorem o_dg2 (h : H a = some (.dK kvs)) (k : ty σ H fun y H2 => tx σ H2 fun z H3 => GetD a y z H3 Q) : DG2 (.ref a) H ty tx σ Q := ⟨a, rfl, .inl ⟨kvs, .inl h⟩, k⟩
theorem o_getd (h : H a = some (.dK kvs)) (q : Q ((valV kvs (.inr key)).getD z) H) : GetD a (.str key) z H Q := ⟨_, DGet.k (k := .inr key) h, q⟩
theorem w_dput (h : tv σ H fun v H1 => td σ H1 fun x H2 => ty σ H2 fun y H3 => PutD x y v H3 fun H4 => D.nx σ H4) : sDPut td ty tv D σ H := h
theorem o_putd {R : Hp → Prop} (h : H a = some (.dK kvs)) (hl : kvs.length < 16777216) (q : R (upd H a (.dK (putK kvs (.inr key) v)))) : PutD (.ref a) (.str key) v H R := ⟨a, _, rfl, DPut.k (k := .inr key) h (szl _ hl), q⟩
end
theorem shaped_str {z : Str} (h : smD (.str z) = true) : SeqAt.shaped (.str z) = true := by
  simp only [smD, Bool.and_eq_true, decide_eq_true_eq, List.all_eq_true] at h
  have e : PyData.strOk z = true := by
    unfold PyData.strOk
    rw [Array.all_eq_true']
    intro c hc
    have := h.2 c (by simpa [tl] using hc)
    exact decide_eq_true (by omega)
  show (PyData.canLay0 (.str z) && decide (PyData.depth (.str z) ≤ 64)) = true
  rw [Bool.and_eq_true]
  exact ⟨by simp only [PyData.canLay0]; exact e, decide_eq_true (by simp [PyData.depth])⟩
theorem o_slL {K : PySem.W.Frag} {G H : Hp} {L : List (Addr × HO)} {a : Addr} {xs : List V} {lo hi : Option Int} {Q : VK} (sh : SH G L H) (h : SqL K H a xs) (ys : List V) (e : cutV xs lo hi = ys) (k : ∀ p G' H', Same G G' → G' p = some (.lst ys) → SH G' L H' → Q (.ref p) H') : rSlL K (.ref a) lo hi H Q :=
  ⟨a, xs, rfl, h, by rw [e]; exact w_newF sh _ k⟩
theorem o_catM {G H : Hp} {L : List (Addr × HO)} {p q : Addr} {xs ys : List V} {Q : VK} (sh : SH G L H) (h1 : H p = some (.lst xs)) (h2 : H q = some (.lst ys)) (hl : xs.length + ys.length ≤ 16777216) (k : ∀ p H', SH G ((p, .lst (xs ++ ys)) :: L) H' → Q (.ref p) H') : rCat (.ref p) (.ref q) H Q :=
  ⟨p, q, xs, ys, rfl, rfl, h1, h2, sz _ hl, w_newM sh _ k⟩
theorem w_nDm {G H : Hp} {L : List (Addr × HO)} {Q : VK} (sh : SH G L H) (k : ∀ p H', SH G ((p, .dK []) :: L) H' → Q (.ref p) H') : NewD H Q := w_newM sh _ k
end WB
namespace W
open PySem PySem.Spec PyProof.Rows L2 WB TL
def top (i : Nat) : Stmt := PySem.Challenge.pw_walkbox_k15_whole_thing_texts.main.body.getD i (.Pass ⟨0, 0, 0, 0⟩)
abbrev s_is_made_of : Stmt := top 8
abbrev N_is_made_of : List Str := ["thing", "signs", "most", "sign"]
abbrev P_is_made_of : List Str := ["thing", "signs", "most"]
theorem sc_is_made_of : FnScope N_is_made_of P_is_made_of (defScope s_is_made_of) := ⟨rfl, rfl, rfl, by decide +kernel, rfl, by decide +kernel, by decide +kernel⟩
abbrev s_is_name : Stmt := top 9
abbrev N_is_name : List Str := ["thing"]
abbrev P_is_name : List Str := ["thing"]
theorem sc_is_name : FnScope N_is_name P_is_name (defScope s_is_name) := ⟨rfl, rfl, rfl, by decide +kernel, rfl, by decide +kernel, by decide +kernel⟩
abbrev s_is_word : Stmt := top 10
abbrev N_is_word : List Str := ["thing"]
abbrev P_is_word : List Str := ["thing"]
theorem sc_is_word : FnScope N_is_word P_is_word (defScope s_is_word) := ⟨rfl, rfl, rfl, by decide +kernel, rfl, by decide +kernel, by decide +kernel⟩
abbrev s_is_whole : Stmt := top 22
abbrev N_is_whole : List Str := ["thing", "least"]
abbrev P_is_whole : List Str := ["thing", "least"]
theorem sc_is_whole : FnScope N_is_whole P_is_whole (defScope s_is_whole) := ⟨rfl, rfl, rfl, by decide +kernel, rfl, by decide +kernel, by decide +kernel⟩
abbrev s_is_pair : Stmt := top 23
abbrev N_is_pair : List Str := ["thing", "least"]
abbrev P_is_pair : List Str := ["thing", "least"]
theorem sc_is_pair : FnScope N_is_pair P_is_pair (defScope s_is_pair) := ⟨rfl, rfl, rfl, by decide +kernel, rfl, by decide +kernel, by decide +kernel⟩
abbrev s_is_sort : Stmt := top 24
abbrev N_is_sort : List Str := ["thing"]
abbrev P_is_sort : List Str := ["thing"]
theorem sc_is_sort : FnScope N_is_sort P_is_sort (defScope s_is_sort) := ⟨rfl, rfl, rfl, by decide +kernel, rfl, by decide +kernel, by decide +kernel⟩
abbrev s_is_letter : Stmt := top 25
abbrev N_is_letter : List Str := ["thing"]
abbrev P_is_letter : List Str := ["thing"]
theorem sc_is_letter : FnScope N_is_letter P_is_letter (defScope s_is_letter) := ⟨rfl, rfl, rfl, by decide +kernel, rfl, by decide +kernel, by decide +kernel⟩
abbrev s_is_echo : Stmt := top 26
abbrev N_is_echo : List Str := ["thing"]
abbrev P_is_echo : List Str := ["thing"]
theorem sc_is_echo : FnScope N_is_echo P_is_echo (defScope s_is_echo) := ⟨rfl, rfl, rfl, by decide +kernel, rfl, by decide +kernel, by decide +kernel⟩
abbrev s_is_answer : Stmt := top 27
abbrev N_is_answer : List Str := ["thing"]
abbrev P_is_answer : List Str := ["thing"]
theorem sc_is_answer : FnScope N_is_answer P_is_answer (defScope s_is_answer) := ⟨rfl, rfl, rfl, by decide +kernel, rfl, by decide +kernel, by decide +kernel⟩
abbrev s_is_goer : Stmt := top 28
abbrev N_is_goer : List Str := ["thing", "shut", "name"]
abbrev P_is_goer : List Str := ["thing"]
theorem sc_is_goer : FnScope N_is_goer P_is_goer (defScope s_is_goer) := ⟨rfl, rfl, rfl, by decide +kernel, rfl, by decide +kernel, by decide +kernel⟩
abbrev s_is_thing : Stmt := top 30
abbrev N_is_thing : List Str := ["thing", "looks"]
abbrev P_is_thing : List Str := ["thing"]
theorem sc_is_thing : FnScope N_is_thing P_is_thing (defScope s_is_thing) := ⟨rfl, rfl, rfl, by decide +kernel, rfl, by decide +kernel, by decide +kernel⟩
abbrev s_thing_text : Stmt := top 34
abbrev N_thing_text : List Str := ["thing", "parts", "part"]
abbrev P_thing_text : List Str := ["thing"]
theorem sc_thing_text : FnScope N_thing_text P_thing_text (defScope s_thing_text) := ⟨rfl, rfl, rfl, by decide +kernel, rfl, by decide +kernel, by decide +kernel⟩
abbrev s_number_of : Stmt := top 35
abbrev N_number_of : List Str := ["word", "sign"]
abbrev P_number_of : List Str := ["word"]
theorem sc_number_of : FnScope N_number_of P_number_of (defScope s_number_of) := ⟨rfl, rfl, rfl, by decide +kernel, rfl, by decide +kernel, by decide +kernel⟩
abbrev s_pair_of : Stmt := top 36
abbrev N_pair_of : List Str := ["parts"]
abbrev P_pair_of : List Str := ["parts"]
theorem sc_pair_of : FnScope N_pair_of P_pair_of (defScope s_pair_of) := ⟨rfl, rfl, rfl, by decide +kernel, rfl, by decide +kernel, by decide +kernel⟩
abbrev s_letter_of : Stmt := top 37
abbrev N_letter_of : List Str := ["words"]
abbrev P_letter_of : List Str := ["words"]
theorem sc_letter_of : FnScope N_letter_of P_letter_of (defScope s_letter_of) := ⟨rfl, rfl, rfl, by decide +kernel, rfl, by decide +kernel, by decide +kernel⟩
abbrev s_echo_of : Stmt := top 38
abbrev N_echo_of : List Str := ["words", "walker", "host", "sort", "mark"]
abbrev P_echo_of : List Str := ["words"]
theorem sc_echo_of : FnScope N_echo_of P_echo_of (defScope s_echo_of) := ⟨rfl, rfl, rfl, by decide +kernel, rfl, by decide +kernel, by decide +kernel⟩
abbrev s_answer_of : Stmt := top 39
abbrev N_answer_of : List Str := ["words", "walker", "sort", "rest"]
abbrev P_answer_of : List Str := ["words"]
theorem sc_answer_of : FnScope N_answer_of P_answer_of (defScope s_answer_of) := ⟨rfl, rfl, rfl, by decide +kernel, rfl, by decide +kernel, by decide +kernel⟩
abbrev s_goer_of : Stmt := top 40
abbrev N_goer_of : List Str := ["words", "walker", "stay", "shut"]
abbrev P_goer_of : List Str := ["words"]
theorem sc_goer_of : FnScope N_goer_of P_goer_of (defScope s_goer_of) := ⟨rfl, rfl, rfl, by decide +kernel, rfl, by decide +kernel, by decide +kernel⟩
abbrev s_thing_of : Stmt := top 44
abbrev N_thing_of : List Str := ["text", "first", "words", "maker", "found"]
abbrev P_thing_of : List Str := ["text"]
theorem sc_thing_of : FnScope N_thing_of P_thing_of (defScope s_thing_of) := ⟨rfl, rfl, rfl, by decide +kernel, rfl, by decide +kernel, by decide +kernel⟩
abbrev s_lpot : Stmt := top 46
abbrev N_lpot : List Str := ["_law_script", "_law_k", "_law_cell"]
abbrev P_lpot : List Str := ["_law_script", "_law_k"]
theorem sc_lpot : FnScope N_lpot P_lpot (defScope s_lpot) := ⟨rfl, rfl, rfl, by decide +kernel, rfl, by decide +kernel, by decide +kernel⟩
abbrev s_ldigit : Stmt := top 47
abbrev N_ldigit : List Str := ["_law_pot_here", "_law_many", "_law_digit_here"]
abbrev P_ldigit : List Str := ["_law_pot_here", "_law_many"]
theorem sc_ldigit : FnScope N_ldigit P_ldigit (defScope s_ldigit) := ⟨rfl, rfl, rfl, by decide +kernel, rfl, by decide +kernel, by decide +kernel⟩
abbrev s_lname : Stmt := top 48
abbrev N_lname : List Str := ["_law_pot_here", "_law_used", "_law_letters", "_law_size", "_law_name_here", "_law_k", "_law_letter"]
abbrev P_lname : List Str := ["_law_pot_here", "_law_used"]
theorem sc_lname : FnScope N_lname P_lname (defScope s_lname) := ⟨rfl, rfl, rfl, by decide +kernel, rfl, by decide +kernel, by decide +kernel⟩
abbrev s_lnames : Stmt := top 49
abbrev N_lnames : List Str := ["_law_pot_here", "_law_many", "_law_used", "_law_found", "_law_k"]
abbrev P_lnames : List Str := ["_law_pot_here", "_law_many", "_law_used"]
theorem sc_lnames : FnScope N_lnames P_lnames (defScope s_lnames) := ⟨rfl, rfl, rfl, by decide +kernel, rfl, by decide +kernel, by decide +kernel⟩
abbrev s_lword : Stmt := top 50
abbrev N_lword : List Str := ["_law_pot_here", "_law_signs", "_law_k"]
abbrev P_lword : List Str := ["_law_pot_here"]
theorem sc_lword : FnScope N_lword P_lword (defScope s_lword) := ⟨rfl, rfl, rfl, by decide +kernel, rfl, by decide +kernel, by decide +kernel⟩
abbrev s_lwhole : Stmt := top 51
abbrev N_lwhole : List Str := ["_law_pot_here", "_law_least"]
abbrev P_lwhole : List Str := ["_law_pot_here", "_law_least"]
theorem sc_lwhole : FnScope N_lwhole P_lwhole (defScope s_lwhole) := ⟨rfl, rfl, rfl, by decide +kernel, rfl, by decide +kernel, by decide +kernel⟩
abbrev s_lthing : Stmt := top 52
abbrev N_lthing : List Str := ["_law_pot_here", "_law_one", "_law_other", "_law_sort", "_law_way", "_law_news"]
abbrev P_lthing : List Str := ["_law_pot_here"]
theorem sc_lthing : FnScope N_lthing P_lthing (defScope s_lthing) := ⟨rfl, rfl, rfl, by decide +kernel, rfl, by decide +kernel, by decide +kernel⟩
abbrev s_ltext : Stmt := top 53
abbrev N_ltext : List Str := ["_law_sample", "_law_words", "_law_part", "_law_one"]
abbrev P_ltext : List Str := ["_law_sample"]
theorem sc_ltext : FnScope N_ltext P_ltext (defScope s_ltext) := ⟨rfl, rfl, rfl, by decide +kernel, rfl, by decide +kernel, by decide +kernel⟩
abbrev s_lright : Stmt := top 54
abbrev N_lright : List Str := ["_law_sample", "_law_line", "_law_found"]
abbrev P_lright : List Str := ["_law_sample"]
theorem sc_lright : FnScope N_lright P_lright (defScope s_lright) := ⟨rfl, rfl, rfl, by decide +kernel, rfl, by decide +kernel, by decide +kernel⟩
abbrev s_law : Stmt := top 55
abbrev N_law : List Str := ["_law_script", "_law_seen", "_law_k", "_law_pot_here", "_law_turn", "_law_sample", "_law_line"]
abbrev P_law : List Str := ["_law_script"]
theorem sc_law : FnScope N_law P_law (defScope s_law) := ⟨rfl, rfl, rfl, by decide +kernel, rfl, by decide +kernel, by decide +kernel⟩
structure Txt (K : PySem.W.Frag) (w : World) (mg : Str → Option Value) : Prop where
  abs : mg "abs" = none
  all : mg "all" = none
  bool : mg "bool" = none
  int : mg "int" = none
  isinstance : mg "isinstance" = none
  len : mg "len" = none
  max : mg "max" = none
  min : mg "min" = none
  range : mg "range" = none
  repr : mg "repr" = none
  set : mg "set" = none
  str : mg "str" = none
  tuple : mg "tuple" = none
  c_LETTERS : ∃ t, mg "LETTERS" = some (.str "abcdefghijklmnopqrstuvwxyz" t)
  c_FIGURES : ∃ t, mg "FIGURES" = some (.str "0123456789" t)
  c_MOST_LETTERS : ∃ t, mg "MOST_LETTERS" = some (.int 8 t)
  c_MOST_SIGNS : ∃ t, mg "MOST_SIGNS" = some (.int 12 t)
  c_LETTER : ∃ t, mg "LETTER" = some (.str "letter" t)
  c_ECHO : ∃ t, mg "ECHO" = some (.str "echo" t)
  c_ANSWER : ∃ t, mg "ANSWER" = some (.str "answer" t)
  c_GOER : ∃ t, mg "GOER" = some (.str "goer" t)
  c_CAME : ∃ t, mg "CAME" = some (.str "came" t)
  c_SHORT : ∃ t, mg "SHORT" = some (.str "short" t)
  c_ASK : ∃ t, mg "ASK" = some (.str "ask" t)
  c_ROW : ∃ t, mg "ROW" = some (.str "row" t)
  c_SORTS : mg "SORTS" = some (.ref (He.ga K "SORTS"))
  c_SECOND_STAY : ∃ t, mg "SECOND_STAY" = some (.int 2 t)
  c_LOOKS : mg "LOOKS" = some (.ref (He.ga K "LOOKS"))
  c_MOST_FIGURES : ∃ t, mg "MOST_FIGURES" = some (.int 4000 t)
  c_NO_NUMBER : ∃ t, mg "NO_NUMBER" = some (.int (-1) t)
  c_MAKERS : mg "MAKERS" = some (.ref (He.ga K "MAKERS"))
  c_LEAST_WORDS : mg "LEAST_WORDS" = some (.ref (He.ga K "LEAST_WORDS"))
  c_MOST_WORDS : mg "MOST_WORDS" = some (.ref (He.ga K "MOST_WORDS"))
  t_SORTS : ∀ H, SqT K H (He.ga K "SORTS") (sortsT.map V.str)
  t_LOOKS : StrTab K w (He.ga K "LOOKS") [("letter", .ref (He.ga K "is_letter")), ("echo", .ref (He.ga K "is_echo")), ("answer", .ref (He.ga K "is_answer")), ("goer", .ref (He.ga K "is_goer"))]
  g_is_letter : mg "is_letter" = some (.ref (He.ga K "is_letter"))
  g_is_echo : mg "is_echo" = some (.ref (He.ga K "is_echo"))
  g_is_answer : mg "is_answer" = some (.ref (He.ga K "is_answer"))
  g_is_goer : mg "is_goer" = some (.ref (He.ga K "is_goer"))
  t_MAKERS : StrTab K w (He.ga K "MAKERS") [("letter", .ref (He.ga K "letter_of")), ("echo", .ref (He.ga K "echo_of")), ("answer", .ref (He.ga K "answer_of")), ("goer", .ref (He.ga K "goer_of"))]
  t_LEAST : StrTab K w (He.ga K "LEAST_WORDS") [("letter", .int 3), ("echo", .int 5), ("answer", .int 6), ("goer", .int 2)]
  t_MOST : StrTab K w (He.ga K "MOST_WORDS") [("letter", .int 3), ("echo", .int 5), ("answer", .int 6), ("goer", .int 6000)]
  g_letter_of : mg "letter_of" = some (.ref (He.ga K "letter_of"))
  g_echo_of : mg "echo_of" = some (.ref (He.ga K "echo_of"))
  g_answer_of : mg "answer_of" = some (.ref (He.ga K "answer_of"))
  g_goer_of : mg "goer_of" = some (.ref (He.ga K "goer_of"))
abbrev FnP (K : PySem.W.Frag) (x : Str) (st : Stmt) (f : Addr) (fd : FuncData) : Prop := FunD K x x (defArgs st) (defBody st) (defScope st) [] [] f fd
end W
section
open PySem PySem.Spec PyProof.Rows L2 WB TL
local macro_rules | `(tactic| walk_at "w") => `(tactic| first
  | ((with_reducible refine' w_var ?h1 ?h2); (case h1 => exact rfl))
  | with_reducible refine w_c ?_
  | with_reducible refine w_op ?_
  | with_reducible refine w_cons ?_
  | with_reducible refine w_nil ?_
  | with_reducible refine w_seq ?_
  | with_reducible refine w_asg ?_
  | with_reducible refine w_name ?_
  | with_reducible refine w_ret ?_
  | with_reducible refine w_ifS ?_
  | with_reducible refine w_test ?_
  | with_reducible refine w_call ?_
  | with_reducible refine w_cb ?_
  | with_reducible refine w_un ?_
  | with_reducible refine w_tup ?_
  | with_reducible refine w_lst ?_
  | with_reducible refine w_B ?_
  | with_reducible refine w_and ?_
  | with_reducible refine w_or ?_
  | with_reducible refine w_not ?_
  | with_reducible refine w_andV ?_
  | with_reducible refine w_orV ?_
  | with_reducible refine w_notV ?_
  | with_reducible refine w_if ?_
  | with_reducible refine w_next ?_
  | with_reducible refine w_retN ?_
  | with_reducible refine w_drop ?_
  | with_reducible refine w_gsub ?_
  | with_reducible refine w_chain ?_
  | with_reducible refine w_sl ?_
  | with_reducible refine w_noPart ?_
  | with_reducible refine w_part ?_
  | with_reducible refine w_bm ?_
  | with_reducible refine w_bm0 ?_
  | with_reducible refine bl_ex ?_
  | with_reducible refine int_ex ?_
  | with_reducible refine if_t ?_
  | with_reducible refine if_f ?_
  | with_reducible refine if_nt ?_
  | with_reducible refine if_nf ?_
  | with_reducible refine o_I0 ?_
  | with_reducible refine o_U ?_)
local macro_rules | `(tactic| walk_at "ww") => `(tactic| repeat walk_at "w")
local macro_rules | `(tactic| walk_at "w") => `(tactic| first
  | with_reducible refine w_lc ?_
  | with_reducible refine w_for ?_
  | with_reducible refine w_rng1 ?_
  | with_reducible refine w_rng2 ?_
  | with_reducible refine w_iStr ?_
  | with_reducible refine w_iStr' ?_
  | with_reducible refine w_iList ?_
  | with_reducible refine w_iTup ?_
  | with_reducible refine w_yes ?_
  | with_reducible refine w_tm1 ?_
  | with_reducible refine str_ty ?_
  | with_reducible refine nx_mk ?_
  | with_reducible refine rt_mk ?_
  | with_reducible refine bk_mk ?_
  | with_reducible refine ct_mk ?_)
local macro_rules | `(tactic| walk_at "w") => `(tactic| first
  | with_reducible refine w_enumT ?_
  | with_reducible refine w_dnew ?_
  | with_reducible refine w_gcons ?_
  | with_reducible refine w_gnil ?_
  | with_reducible refine w_lenSetT ?_
  | with_reducible refine o_reprB ?_)
local macro_rules | `(tactic| walk_at "w") => `(tactic| first
  | with_reducible refine w_callN ?_
  | with_reducible refine w_dget2 ?_
  | with_reducible refine w_dput ?_)
namespace W
open PySem PySem.Spec PyProof.Rows L2 WB TL

section
variable {P : Program} {w : World} {K : PySem.W.Frag} {mg : Str → Option Value} {base : Heap}
theorem ok_ldigit {f : Addr} {fd : FuncData} (F : FnP K "_law_digit" s_ldigit f fd) (T : Txt K w mg) : FnOk P w K mg base CX0 2 f fd P_ldigit spDigit := by
  refine F.ok sc_ldigit (fun vs H Q E h => ?_) (fun cdv A outer s H vs Q E hr h => ⟨_, (PSs.nox (pss_cons (ps_if (pt_cmpR op_gt (pe_ix (kIx (K := K)) (pv 0) pe_int (fun _ _ => rfl)) pe_int (nomark _)) (pss_cons (ps_set (i := 2) sc_ldigit.nd rfl (Or.inl rfl) (pe_op op_mod (pe_ix (kIx (K := K)) (pv 0) pe_int (fun _ _ => rfl)) (pv 1)))
      (pss_cons (ps_asg (pe_op op_fdivW (pe_ix (kIx (K := K)) (pv 0) pe_int (fun _ _ => rfl)) (pv 1)) (pg_sub (pv 0) pe_int set_list))
      (pss_one (ps_ret (pv 2))))) pss_nil)
      (pss_cons (ps_asg (pe_op op_mod (pe_op op_add (pe_op op_mul (pe_ix (kIx (K := K)) (pv 0) pe_int (fun _ _ => rfl)) pe_int) pe_int) pe_int) (pg_sub (pv 0) pe_int set_list))
      (pss_one (ps_ret (pe_op op_mod (pe_op op_fdivW (pe_op op_mod (pe_op op_mul (pe_ix (kIx (K := K)) (pv 0) pe_int (fun _ _ => rfl)) (pe_ix (kIx (K := K)) (pv 0) pe_int (fun _ _ => rfl))) pe_int) pe_int) (pv 1))))))), ?_⟩)
  · obtain ⟨p, a, b, m, rfl, _⟩ := h
    rfl
  · obtain ⟨p, a, b, m, rfl, hp, hb, hm, hl, k⟩ := h
    have hs := hp
    obtain ⟨ha, hb0, hb1⟩ := hb
    walk_at "ww"
    refine o_ixL (SqL.of hp) rfl ?_
    walk_at "ww"
    refine if_b (fun e => ?_) (fun e => ?_)
    · have e0 : 0 < a := of_decide_eq_true e
      walk_at "ww"
      refine o_ixL (SqL.of hp) rfl ?_
      walk_at "ww"
      refine o_I hm ?_
      walk_at "ww"
      refine o_ixL (SqL.of hp) rfl ?_
      walk_at "ww"
      refine o_I ⟨hm, hl⟩ ?_
      walk_at "ww"
      refine o_setL hp rfl ?_
      walk_at "ww"
      exact k _ _ _ (Int.emod_nonneg _ (by omega)) (Int.emod_lt_of_pos _ hm) ⟨Int.ediv_nonneg ha (by omega), hb0, hb1⟩
    · walk_at "ww"
      refine o_ixL (SqL.of hp) rfl ?_
      walk_at "ww"
      refine o_I (.inl ⟨by omega, by omega⟩) ?_
      walk_at "ww"
      refine o_I (by decide) ?_
      walk_at "ww"
      refine o_setL hp rfl ?_
      walk_at "ww"
      have hc0 : 0 ≤ (b * 39373 + 20011) % 2147483647 := Int.emod_nonneg _ (by decide)
      have hc1 : (b * 39373 + 20011) % 2147483647 < 2147483647 := Int.emod_lt_of_pos _ (by decide)
      refine o_ixL (SqL.of upd_same) rfl ?_
      walk_at "ww"
      refine o_ixL (SqL.of upd_same) rfl ?_
      refine o_I (.inl ⟨by omega, by omega⟩) ?_
      walk_at "ww"
      refine o_I (by decide) ?_
      walk_at "ww"
      refine o_I ⟨by decide, by decide +kernel⟩ ?_
      walk_at "ww"
      refine o_I hm ?_
      refine k _ _ _ (Int.emod_nonneg _ (by omega)) (Int.emod_lt_of_pos _ hm) ⟨ha, hc0, by omega⟩
end
end W
namespace W
open PySem PySem.Spec PyProof.Rows L2 WB TL

theorem scN : True := trivial
section
variable {P : Program} {w : World} {K : PySem.W.Frag} {mg : Str → Option Value} {base : Heap}
theorem ok_lname {f : Addr} {fd : FuncData} (F : FnP K "_law_name" s_lname f fd) (T : Txt K w mg) (c_ldigit : Cal P w K mg base CX0 2 "_law_digit" P_ldigit spDigit) : FnOk P w K mg base CX0 3 f fd P_lname (spName K) := by
  refine F.ok sc_lname (fun vs H Q E h => ?_) (fun cdv A outer s H vs Q E hr h => ⟨_, (PSs.nox (pss_cons (ps_set (i := 2) sc_lname.nd rfl (Or.inr rfl) pe_str)
      (pss_cons (ps_set (i := 3) sc_lname.nd rfl (Or.inl rfl) (pe_op op_add pe_int (c_ldigit.pe hr rfl (pa_cons (pv 0) (pa_cons (pe_ix (kIx (K := K)) (pe_lst (pa_cons pe_int (pa_cons pe_int (pa_cons pe_int pa_nil)))) (c_ldigit.pe hr rfl (pa_cons (pv 0) (pa_cons pe_int pa_nil))) (fun _ _ => rfl)) pa_nil)))))
      (pss_cons (ps_set (i := 4) sc_lname.nd rfl (Or.inl rfl) (kJoin (K := K) pe_str (pe_lc (own := [("_law_k", 5)]) (g := gName 5) (by rfl) sc_lname.nd (pi_range1 (by rfl) T.range (pa_cons (pv 3) pa_nil)) (blkOk_by (own := [("_law_k", 5)]) (N := N_lname) (sc := defScope s_lname) (by decide +kernel)) (fun _ _ _ _ _ => (pg_name (i := 5) sc_lname.nd rfl (Or.inl rfl))) (fun _ _ _ _ _ => pts_nil) (fun _ _ _ _ _ => (pe_ix (kIx (K := K)) (pv 2) (c_ldigit.pe hr rfl (pa_cons (pv 0) (pa_cons pe_int pa_nil))) (fun _ _ => rfl))))))
      (pss_cons (ps_if (PW.pt (pw_and (pt_cmpR (kNeD (K := K) hr.units) (pv 1) (pe_lst pa_nil) (nomark _)) (pw_and1 (pt_cmpR (kEqD (K := K) hr.units) (c_ldigit.pe hr rfl (pa_cons (pv 0) (pa_cons pe_int pa_nil))) pe_int (nomark _))))) (pss_one (ps_set (i := 4) sc_lname.nd rfl (Or.inl rfl) (pe_slice sl_str (pe_op kAddS (pe_ix (kIx (K := K)) (pv 1) (pe_un un_neg pe_int) (fun _ _ => rfl)) (pv 4)) po_none (po_some pe_int)))) pss_nil)
      (pss_cons (ps_if (pt_cmpR (kIn (K := K) hr.units) (pv 4) (pv 1) (by rfl)) (pss_one (ps_set (i := 4) sc_lname.nd rfl (Or.inl rfl) (pe_ix (kIx (K := K)) (pe_lc (own := [("_law_letter", 6)]) (g := gName 6) (by rfl) sc_lname.nd (pi_str (pv 2)) (blkOk_by (own := [("_law_letter", 6)]) (N := N_lname) (sc := defScope s_lname) (by decide +kernel)) (fun _ _ _ _ _ => (pg_name (i := 6) sc_lname.nd rfl (Or.inl rfl))) (fun _ _ _ _ _ => (pts_one (pt_cmpR (kNotIn (K := K) hr.units) (pv 6) (pv 1) (by rfl)))) (fun _ _ _ _ _ => (pv 6))) pe_int (fun _ _ => rfl)))) pss_nil)
      (pss_one (ps_ret (pv 4))))))))), ?_⟩)
  · obtain ⟨G, L, p, u, a, b, zs, rfl, _⟩ := h
    rfl
  · obtain ⟨G, L, p, u, a, b, zs, rfl, sh, hb, hu, hz, hl, k⟩ := h
    walk_at "ww"
    refine w_nL sh fun l G1 H1 s1 e1 sh1 => ?_
    walk_at "ww"
    refine w_digit sh1 hb (by decide) (by decide +kernel) fun d1 a1 b1 H2 d1l d1u hb1 sh2 => ?_
    have hm : ∃ m : Int, atI [V.int 1, V.int 3, V.int 8] d1 = some (.int m) ∧ 0 < m ∧ m ≤ 8 := by
      have : d1 = 0 ∨ d1 = 1 ∨ d1 = 2 := by omega
      rcases this with rfl | rfl | rfl
      · exact ⟨1, rfl, by decide, by decide⟩
      · exact ⟨3, rfl, by decide, by decide⟩
      · exact ⟨8, rfl, by decide, by decide⟩
    obtain ⟨m, em, hm0, hm8⟩ := hm
    refine o_ixL (SqL.of (sh2.same _ _ e1)) em ?_
    walk_at "ww"
    refine w_digit sh2 hb1 hm0 (log2_lt hm0 (by omega)) fun d2 a2 b2 H3 d2l d2u hb2 sh3 => ?_
    walk_at "ww"
    refine w_rng1i (by omega) (by omega) fun n en => ?_
    have hn : 1 ≤ n ∧ n ≤ 8 := by omega
    -- the signs
    refine w_lcW walk_range sh3 (fun i acc G' L' => ∃ cs a' b', acc = (cs.map sgn).map V.str ∧ cs.length = i ∧ (∀ c ∈ cs, isLow c = true) ∧ Same G1 G' ∧ L' = (p, potO a' b') :: L ∧ PotB a' b')
      ⟨[], _, _, rfl, rfl, (fun _ h => by cases h), Same.refl _, rfl, hb2⟩ (fun _ _ _ _ _ _ _ _ => trivial) ?_ ?_
    · rintro D i x H4 H5 acc G2 L2 hi ⟨cs, a3, b3, rfl, hc, hcs, s2, rfl, hb3⟩ sh4 ⟨rfl, rfl⟩
      walk_at "ww"
      refine ⟨rfl, ?_⟩
      walk_at "ww"
      refine w_digit sh4.swap hb3 (by decide) (by decide +kernel) fun d4 a4 b4 H6 d4l d4u hb4 sh5 => ?_
      have h26 : (tl (Str.ofString "abcdefghijklmnopqrstuvwxyz"))[d4.toNat]? = some (97 + d4.toNat) := by
        rw [letters_tl]
        have : d4.toNat < 26 := by omega
        simp [lets, List.getElem?_map, List.getElem?_range this]
      refine o_ixS (sz _ (by decide +kernel)) (by rw [show d4 = ((d4.toNat : Nat) : Int) by omega]; exact atI_nat h26) ?_
      refine lc_end sh5.swap ⟨cs ++ [97 + d4.toNat], _, _, ?_, ?_, ?_, s2, rfl, hb4⟩ ?_
      · simp
      · simp [hc]
      · intro c hm
        rcases List.mem_append.mp hm with hm | hm
        · exact hcs c hm
        · have : c = 97 + d4.toNat := by simpa using hm
          subst this
          simp only [isLow, Bool.and_eq_true, decide_eq_true_eq]; omega
      · simp; omega
    rintro D acc G2 L2 H4 ⟨cs, a3, b3, rfl, hc, hcs, s2, rfl, hb3⟩ sh4
    refine o_join (SqL.of sh4.hd) (sum_join0 cs (by omega)) ?_
    rw [join_sgn]
    have hcsn : nameB (strOf cs) = true := nameB_iff.mpr ⟨by rw [tl_strOf]; omega, by rw [tl_strOf]; omega, by rw [tl_strOf]; exact hcs⟩
    walk_at "ww"
    have sh5 := sh4.drop
    have s02 : Same G G2 := s1.trans s2
    have hu2 : SqL K G2 u (zs.map V.str) := s02.seq hu
    -- the end, from whichever name
    have fin : ∀ (G3 H5 : Hp) (y : Str) (a5 b5 : Int) (σ : L2.St), σ[0]? = some (some (.ref p)) → σ[1]? = some (some (.ref u)) → σ[2]? = some (some (.str (Str.ofString "abcdefghijklmnopqrstuvwxyz"))) → σ[4]? = some (some (.str y)) → σ.length = 7 → Same G G3 → SH G3 ((p, potO a5 b5) :: L) H5 → PotB a5 b5 → nameB y = true →
        (tSeq (tIfS (tTest (tOp (rInSt K false) (tVar 4) (tVar 1))) (tAsg (tOp (rIx K) (tLc (iStr (tVar 2)) (gName 6) (tTest (tOp (rInSt K true) (tVar 6) (tVar 1))) (tVar 6) (List.map (fun x => x.snd) [(Str.ofString "_law_letter", 6)])) (tC (V.int 0))) (gName 4)) tNext)
          (tRet (tVar 4))) { nx := fun x H' => Q V.non H', rt := Q } σ H5 := by
      intro G3 H5 y a5 b5 σ g0 g1 g2 g4 gl s3 sh6 hb5 hy
      have hu3 : SqL K G3 u (zs.map V.str) := s3.seq hu
      walk_at "ww"
      refine w_var g4 (w_var g1 ?_)
      refine o_inL (.str y) (sh6.sqL hu3) ?_
      rw [inS_strs]
      walk_at "ww"
      refine if_b (fun e => ?_) (fun e => ?_)
      · walk_at "ww"
        refine w_var g2 ?_
        walk_at "ww"
        refine w_lcW walk_str sh6 (fun i acc G' L' => ∃ cs : List Nat, acc = (cs.map sgn).map V.str ∧ cs.length ≤ i ∧ (∀ c ∈ cs, isLow c = true ∧ sgn c ∉ zs) ∧ (∀ c ∈ lets.take i, sgn c ∉ zs → cs ≠ []) ∧ G' = G3 ∧ L' = (p, potO a5 b5) :: L)
          ⟨[], rfl, Nat.le_refl _, (fun _ h => by cases h), (fun _ h => by simp at h), rfl, rfl⟩ (fun _ _ _ _ _ _ _ _ => trivial) ?_ ?_
        · rintro D i x H6 H7 acc G4 L4 hi ⟨cs, rfl, hc, hcs, hne, rfl, rfl⟩ sh7 ⟨rfl, c, hci, rfl⟩
          have hcl : c ∈ lets ∧ lets.take (i + 1) = lets.take i ++ [c] := by
            have e : lets[i]? = some c := by rw [← letters_tl]; simpa [tl] using hci
            exact ⟨List.mem_of_getElem? e, by rw [List.take_succ, e]; rfl⟩
          refine w_name ?_
          refine ⟨wipe1, ?_⟩
          walk_at "ww"
          refine w_var (v := .str (sgn c)) (by simp [wipe, gl]) ?_
          refine w_var (v := .ref u) (by simp [wipe, g1]) ?_
          refine o_ninL (.str _) (sh7.drop.sqL hu3) ?_
          rw [inS_strs]
          walk_at "ww"
          by_cases hc2 : sgn c ∈ zs
          · rw [decide_eq_true hc2]
            refine if_f ?_
            refine lc_skip sh7 ⟨cs, rfl, by omega, hcs, fun c' hm hz' => ?_, rfl, rfl⟩
            rw [hcl.2] at hm
            rcases List.mem_append.mp hm with hm | hm
            · exact hne c' hm hz'
            · have : c' = c := by simpa using hm
              subst this; exact absurd hc2 hz'
          · rw [decide_eq_false hc2]
            refine if_t ?_
            refine w_var (v := .str (sgn c)) (by simp [wipe, gl]) ?_
            refine lc_end sh7 ⟨cs ++ [c], by simp, by simp; omega, fun c' hm => ?_, fun _ _ _ => by simp, rfl, rfl⟩ (by have h26 : (Str.ofString "abcdefghijklmnopqrstuvwxyz").cps.size = 26 := by decide +kernel
                                                                                                                        simp only [List.length_map]; omega)
            rcases List.mem_append.mp hm with hm | hm
            · exact hcs c' hm
            · have : c' = c := by simpa using hm
              subst this; exact ⟨low_lets hcl.1, hc2⟩
        · rintro D acc G4 L4 H6 ⟨cs, rfl, hc, hcs, hne, rfl, rfl⟩ sh7
          obtain ⟨c, hcl, hcz⟩ := free_letter hl
          have hne2 : cs ≠ [] := hne c (by
            have e : (Str.ofString "abcdefghijklmnopqrstuvwxyz").cps.size = 26 := by decide +kernel
            rw [e]
            have e2 : lets.take 26 = lets := by decide +kernel
            rw [e2]; exact hcl) hcz
          cases cs with
          | nil => exact absurd rfl hne2
          | cons d r =>
            walk_at "ww"
            refine o_ixL (SqL.of sh7.hd) at0 ?_
            walk_at "ww"
            refine w_var (v := .str (sgn d)) (by simp [gl]) ?_
            have hd := hcs d List.mem_cons_self
            exact k _ _ _ _ _ s3 sh7.drop hb5 (nameB_sgn hd.1) hd.2
      · walk_at "ww"
        refine w_var g4 ?_
        exact k _ _ _ _ _ s3 sh6 hb5 hy (of_decide_eq_false e)
    refine w_nL sh5 fun l2 G3 H5 s3 e3 sh6 => ?_
    have s03 : Same G G3 := s02.trans s3
    refine o_neD (sh6.dp (dp_strsL (s03.seq hu))) (.lst (SqL.of (sh6.same _ _ e3)) .nil) (shaped_strs hz) (by decide) ?_
    have e4 : PyData.eqv (.list (zs.map PyData.str)) (.list []) = zs.isEmpty := by cases zs <;> rfl
    rw [e4]
    walk_at "ww"
    refine if_b (fun e => ?_) (fun e => ?_)
    · walk_at "ww"
      refine w_digit sh6 hb3 (by decide) (by decide +kernel) fun d5 a5 b5 H6 d5l d5u hb5 sh7 => ?_
      walk_at "ww"
      refine o_eqD (.int _) (.int _) rfl rfl ?_
      walk_at "ww"
      refine if_b (fun e5 => ?_) (fun e5 => ?_)
      · walk_at "ww"
        have hz1 : zs ≠ [] := by intro q; rw [q] at e; cases e
        obtain ⟨r, y, ezs⟩ : ∃ r y, zs = r ++ [y] := ⟨zs.dropLast, zs.getLast hz1, (List.dropLast_concat_getLast hz1).symm⟩
        refine o_ixL (sh7.sqL (s03.seq hu)) (by rw [ezs, List.map_append]; exact atI_last _ _) ?_
        walk_at "ww"
        have hy := nameB_iff.mp (hz y (by rw [ezs]; simp))
        refine o_addS (by rw [← tl_len, ← tl_len, tl_strOf]; omega) ?_
        walk_at "ww"
        have htl : tl (y ++ strOf cs) = tl y ++ cs := by rw [tl_append, tl_strOf]
        refine o_slS (by rw [← tl_len, htl, List.length_append]; omega) ?_
        refine w_name ?_
        refine fin G3 _ _ a5 b5 _ (by rfl) (by rfl) (by rfl) (by rfl) (by rfl) s03 sh7 hb5 (nameB_iff.mpr ?_)
        have ht := tl_cut_to (y ++ strOf cs) 8
        have ht' : tl (cutS (y ++ strOf cs) none (some 8)) = (tl y ++ cs).take 8 := by rw [← htl]; exact ht
        rw [ht']
        refine ⟨by rw [List.length_take, List.length_append]; omega, by rw [List.length_take]; omega, fun c hm => ?_⟩
        rcases List.mem_append.mp (List.mem_of_mem_take hm) with hm | hm
        · exact hy.2.2 c hm
        · exact hcs c hm
      · refine w_next ?_
        exact fin G3 _ (strOf cs) _ _ _ (by rfl) (by rfl) (by rfl) (by rfl) (by rfl) s03 sh7 hb5 hcsn
    · refine w_next ?_
      exact fin G3 _ (strOf cs) _ _ _ (by rfl) (by rfl) (by rfl) (by rfl) (by rfl) s03 sh6 hb3 hcsn
end
end W
namespace W
open PySem PySem.Spec PyProof.Rows L2 WB TL

section
variable {P : Program} {w : World} {K : PySem.W.Frag} {mg : Str → Option Value} {base : Heap}
theorem ok_lnames {f : Addr} {fd : FuncData} (F : FnP K "_law_names" s_lnames f fd) (T : Txt K w mg) (c_lname : Cal P w K mg base CX0 3 "_law_name" P_lname (spName K)) : FnOk P w K mg base CX0 4 f fd P_lnames spNames := by
  refine F.ok sc_lnames (fun vs H Q E h => ?_) (fun cdv A outer s H vs Q E hr h => ⟨_, (PSs.nox (pss_cons (ps_set (i := 3) sc_lnames.nd rfl (Or.inl rfl) (pe_lst pa_nil))
      (pss_cons (ps_for PassesOwn.never rfl (pi_range1 (by rfl) T.range (pa_cons (pv 1) pa_nil)) (pg_name (i := 4) sc_lnames.nd rfl (Or.inl rfl)) (pss_one (ps_expr (kBm (K := K) PySem.F.plainAttrs_list PySem.F.slot_list_append PySem.F.type_list_append mt_append (pv 3) (pa_cons (c_lname.pe hr rfl (pa_cons (pv 0) (pa_cons (pe_op op_cat (pv 2) (pv 3)) pa_nil))) pa_nil)))))
      (pss_one (ps_ret (pv 3)))))), ?_⟩)
  · obtain ⟨G, L, p, u, a, b, m, zs, rfl, _⟩ := h
    rfl
  · obtain ⟨G, L, p, u, a, b, m, zs, rfl, sh, hb, hu, hz, hl, k⟩ := h
    walk_at "ww"
    refine w_nLm sh fun l H1 sh1 => ?_
    walk_at "ww"
    refine w_rng1i (by omega) (by omega) fun n en => ?_
    have hmn : m = n := by omega
    subst hmn
    refine w_forW walk_range sh1 (fun i σ G' L' => ∃ (ys : List Str) (a' b' : Int) (v : Option V), σ = [some (.ref p), some (.int (n : Int)), some (.ref u), some (.ref l), v] ∧ L' = (l, .lst (ys.map V.str)) :: (p, potO a' b') :: L ∧ PotB a' b' ∧ Same G G' ∧ ys.length = i ∧
        (∀ y ∈ ys, nameB y = true ∧ y ∉ zs) ∧ ys.Nodup) ⟨[], a, b, none, rfl, rfl, hb, Same.refl _, rfl, (fun _ h => by cases h), List.nodup_nil⟩ (fun _ _ _ _ _ _ _ _ => trivial) ?_ ?_
    · rintro i x σ H2 H3 G2 L2 hi ⟨ys, a1, b1, v, rfl, rfl, hb1, s1, hy, hys, hnd⟩ sh2 ⟨rfl, rfl⟩
      walk_at "ww"
      refine ⟨.inl ⟨rfl, _, SqL.of sh2.hd⟩, ?_⟩
      walk_at "ww"
      have hln : zs.length + ys.length ≤ 26 := by omega
      refine o_cat (xs := zs.map V.str) (ys := ys.map V.str) sh2 (sh2.same _ _ (s1 _ _ hu)) sh2.hd (by simp only [List.length_map]; omega) fun t G3 H4 s2 e2 sh3 => ?_
      walk_at "ww"
      refine ⟨G3, _, p, t, a1, b1, zs ++ ys, rfl, sh3.swap, hb1, SqL.of (by rw [e2, List.map_append]), fun z hm => ?_, by rw [List.length_append]; omega, fun G4 H5 z a2 b2 s3 sh4 hb2 hzn hzm => ?_⟩
      · rcases List.mem_append.mp hm with hm | hm
        · exact hz z hm
        · exact (hys z hm).1
      · rw [List.mem_append] at hzm
        walk_at "ww"
        refine o_append sh4.swap.hd (szl _ (by simp only [List.length_map]; omega)) ?_
        walk_at "ww"
        refine for_end (sh4.swap.put _) ⟨ys ++ [z], a2, b2, _, rfl, by rw [List.map_append]; rfl, hb2, (s1.trans s2).trans s3, by simp [hy], fun y hm => ?_, ?_⟩
        · rcases List.mem_append.mp hm with hm | hm
          · exact hys y hm
          · have : y = z := by simpa using hm
            subst this; exact ⟨hzn, fun q => hzm (.inl q)⟩
        · exact nd_snoc hnd fun q => hzm (.inr q)
    · rintro σ G2 L2 H2 ⟨ys, a1, b1, v, rfl, rfl, hb1, s1, hy, hys, hnd⟩ sh2
      walk_at "ww"
      exact k _ _ l ys a1 b1 (s1.trans (same_upd sh2.gnone)) sh2.freeze upd_same hb1 (by omega) hys hnd
end
end W
namespace W
open PySem PySem.Spec PyProof.Rows L2 WB TL
local macro_rules | `(tactic| walk_at "w") => `(tactic| first
  | ((with_reducible refine' w_var ?h1 ?h2); (case h1 => exact rfl))
  | with_reducible refine w_c ?_
  | with_reducible refine w_op ?_
  | with_reducible refine w_cons ?_
  | with_reducible refine w_nil ?_
  | with_reducible refine w_seq ?_
  | with_reducible refine w_asg ?_
  | with_reducible refine w_name ?_
  | with_reducible refine w_ret ?_
  | with_reducible refine w_ifS ?_
  | with_reducible refine w_test ?_
  | with_reducible refine w_call ?_
  | with_reducible refine w_cb ?_
  | with_reducible refine w_un ?_
  | with_reducible refine w_tup ?_
  | with_reducible refine w_lst ?_
  | with_reducible refine w_B ?_
  | with_reducible refine w_and ?_
  | with_reducible refine w_or ?_
  | with_reducible refine w_not ?_
  | with_reducible refine w_andV ?_
  | with_reducible refine w_orV ?_
  | with_reducible refine w_notV ?_
  | with_reducible refine w_if ?_
  | with_reducible refine w_next ?_
  | with_reducible refine w_retN ?_
  | with_reducible refine w_drop ?_
  | with_reducible refine w_gsub ?_
  | with_reducible refine w_chain ?_
  | with_reducible refine w_sl ?_
  | with_reducible refine w_noPart ?_
  | with_reducible refine w_part ?_
  | with_reducible refine w_bm ?_
  | with_reducible refine w_bm0 ?_
  | with_reducible refine bl_ex ?_
  | with_reducible refine int_ex ?_
  | with_reducible refine if_t ?_
  | with_reducible refine if_f ?_
  | with_reducible refine if_nt ?_
  | with_reducible refine if_nf ?_
  | with_reducible refine o_I0 ?_
  | with_reducible refine o_U ?_)
local macro_rules | `(tactic| walk_at "ww") => `(tactic| repeat walk_at "w")
local macro_rules | `(tactic| walk_at "w") => `(tactic| first
  | with_reducible refine w_lc ?_
  | with_reducible refine w_for ?_
  | with_reducible refine w_rng1 ?_
  | with_reducible refine w_rng2 ?_
  | with_reducible refine w_iStr ?_
  | with_reducible refine w_iStr' ?_
  | with_reducible refine w_iList ?_
  | with_reducible refine w_iTup ?_
  | with_reducible refine w_yes ?_
  | with_reducible refine w_tm1 ?_
  | with_reducible refine str_ty ?_
  | with_reducible refine nx_mk ?_
  | with_reducible refine rt_mk ?_
  | with_reducible refine bk_mk ?_
  | with_reducible refine ct_mk ?_)
local macro_rules | `(tactic| walk_at "w") => `(tactic| first
  | with_reducible refine w_enumT ?_
  | with_reducible refine w_dnew ?_
  | with_reducible refine w_gcons ?_
  | with_reducible refine w_gnil ?_
  | with_reducible refine w_lenSetT ?_
  | with_reducible refine o_reprB ?_)

section
variable {P : Program} {w : World} {K : PySem.W.Frag} {mg : Str → Option Value} {base : Heap}
theorem ok_is_made_of {f : Addr} {fd : FuncData} (F : FnP K "is_made_of" s_is_made_of f fd) (T : Txt K w mg) : FnOk P w K mg base CX0 2 f fd P_is_made_of (spMade K) := by
  refine F.ok sc_is_made_of (fun vs H Q E h => ?_) (fun cdv A outer s H vs Q E hr h => ⟨_, (PSs.nox (pss_cons (ps_if (PW.pt (pw_or (pt_not (pt_val (pe_callB (kIsi (K := K)) (by rfl) T.isinstance (by decide +kernel) (pa_cons (pv 0) (pa_cons (pe_ty (T := "str") T.str (by decide +kernel)) pa_nil))))) (pw_or1 (pt_not (pt_chain op_le op_le pe_int (pe_callB (kLen (K := K)) (by rfl) T.len (by decide +kernel) (pa_cons (pv 0) pa_nil)) (pv 2)))))) (pss_one (ps_ret pe_bl)) pss_nil)
      (pss_one (ps_ret (pe_callB (kAll (K := K) rfl) (by rfl) T.all (by decide +kernel) (pa_cons (pe_lc (own := [("sign", 3)]) (g := gName 3) (by rfl) sc_is_made_of.nd (pi_str (pv 0)) (blkOk_by (own := [("sign", 3)]) (N := N_is_made_of) (sc := defScope s_is_made_of) (by decide +kernel)) (fun _ _ _ _ _ => (pg_name (i := 3) sc_is_made_of.nd rfl (Or.inl rfl))) (fun _ _ _ _ _ => pts_nil) (fun _ _ _ _ _ => (pe_cmpR kInSg (pv 3) (pv 1) (by rfl)))) pa_nil)))))), ?_⟩)
  · obtain ⟨G, L, v, d, S, m, rfl, _⟩ := h
    rfl
  · obtain ⟨G, L, v, d, S, m, rfl, sh, hd, hs, k⟩ := h
    walk_at "ww"
    refine o_isi (kit_str d) (sh.dq hd) ?_
    walk_at "ww"
    cases ht : isTy "str" d with
    | false =>
      walk_at "ww"
      have e : madeB d S m = false := by cases d <;> first | rfl | cases ht
      have := k G H (Same.refl _) sh
      rw [e] at this; exact this
    | true =>
      obtain ⟨z, rfl, rfl⟩ := dq_str hd ht
      have hz := sm_len hs
      walk_at "ww"
      refine o_len (lenS (by omega)) ?_
      walk_at "ww"
      have fin : ∀ c : Bool, (decide (1 ≤ (z.length : Int)) && decide ((z.length : Int) ≤ m)) = c → (if (!c) = true then Q (.bl false) H else
          (tRet (tCB (rAll K) (tCons (tLc (iStr (tVar 0)) (gName 3) tYes (tOp (rInSg false) (tVar 3) (tVar 1)) (List.map (fun x => x.snd) [(Str.ofString "sign", 3)])) tNil))) { nx := fun x H' => Q V.non H', rt := Q } (L2.start N_is_made_of [V.str z, V.str S, V.int m]) H) := by
        intro c hc
        cases c with
        | false =>
          refine if_t ?_
          have := k G H (Same.refl _) sh
          rw [show madeB (.str z) S m = false by show (_ && _ && _) = false; rw [hc]; rfl] at this
          exact this
        | true =>
          refine if_f ?_
          walk_at "ww"
          refine w_lcW walk_str sh (fun i acc G' L' => acc = (((tl z).take i).map fun c => V.bl (decide (c ∈ tl S))) ∧ G' = G ∧ L' = L) ⟨by simp, rfl, rfl⟩ (fun _ _ _ _ _ _ _ _ => trivial) ?_ ?_
          · rintro D i x H1 H2 acc G1 L1 hi ⟨rfl, rfl, rfl⟩ sh1 ⟨rfl, c, hc1, rfl⟩
            have hci : (tl z)[i]? = some c := by simpa [tl] using hc1
            walk_at "ww"
            refine ⟨rfl, ?_⟩
            walk_at "ww"
            refine o_inSg ?_
            refine lc_end sh1 ⟨?_, rfl, rfl⟩ (by simp only [List.length_map, List.length_take, tl_len]; omega)
            rw [List.take_succ, hci, List.map_append]; rfl
          · rintro D acc G1 L1 H1 ⟨rfl, rfl, rfl⟩ sh1
            walk_at "ww"
            have e1 : (tl z).take z.cps.size = tl z := List.take_of_length_le (by rw [tl_len]; exact Nat.le_refl _)
            refine o_all (bs := (tl z).map fun c => decide (c ∈ tl S)) (SqL.of (by rw [sh1.hd, e1, List.map_map]; rfl)) ?_
            have e2 : ((tl z).map fun c => decide (c ∈ tl S)).all id = (tl z).all fun c => decide (c ∈ tl S) := by rw [List.all_map]; rfl
            rw [e2]
            have := k G1 H1 (Same.refl _) sh1.drop
            rw [show madeB (.str z) S m = (tl z).all fun c => decide (c ∈ tl S) by show (_ && _ && _) = _; rw [hc]; rfl] at this
            exact this
      by_cases h1 : 1 ≤ (z.length : Int)
      · rw [decide_eq_true h1] at *
        walk_at "ww"
        exact fin _ (by rfl)
      · rw [decide_eq_false h1] at *
        walk_at "ww"
        exact fin _ (by rfl)
theorem ok_is_name {f : Addr} {fd : FuncData} (F : FnP K "is_name" s_is_name f fd) (T : Txt K w mg) (c_is_made_of : Cal P w K mg base CX0 2 "is_made_of" P_is_made_of (spMade K)) : FnOk P w K mg base CX0 3 f fd P_is_name (spT1 K nameD) := by
  refine F.ok sc_is_name (fun vs H Q E h => ?_) (fun cdv A outer s H vs Q E hr h => ⟨_, (PSs.nox (pss_one (ps_ret (c_is_made_of.pe hr rfl (pa_cons (pv 0) (pa_cons (pe_gs T.c_LETTERS) (pa_cons (pe_gi T.c_MOST_LETTERS) pa_nil))))))), ?_⟩)
  · obtain ⟨G, L, v, d, rfl, _⟩ := h
    rfl
  · obtain ⟨G, L, v, d, rfl, sh, hd, hs, k⟩ := h
    walk_at "ww"
    refine ⟨G, L, v, d, _, _, rfl, sh, hd, hs, fun G1 H1 s1 sh1 => ?_⟩
    have := k G1 H1 s1 sh1
    rw [← made_name] at this
    exact this
theorem ok_is_word {f : Addr} {fd : FuncData} (F : FnP K "is_word" s_is_word f fd) (T : Txt K w mg) (c_is_made_of : Cal P w K mg base CX0 2 "is_made_of" P_is_made_of (spMade K)) : FnOk P w K mg base CX0 3 f fd P_is_word (spT1 K wordD) := by
  refine F.ok sc_is_word (fun vs H Q E h => ?_) (fun cdv A outer s H vs Q E hr h => ⟨_, (PSs.nox (pss_one (ps_ret (c_is_made_of.pe hr rfl (pa_cons (pv 0) (pa_cons (pe_op kAddS (pe_gs T.c_LETTERS) (pe_gs T.c_FIGURES)) (pa_cons (pe_gi T.c_MOST_SIGNS) pa_nil))))))), ?_⟩)
  · obtain ⟨G, L, v, d, rfl, _⟩ := h
    rfl
  · obtain ⟨G, L, v, d, rfl, sh, hd, hs, k⟩ := h
    walk_at "ww"
    refine o_addS (by decide +kernel) ?_
    walk_at "ww"
    refine ⟨G, L, v, d, _, _, rfl, sh, hd, hs, fun G1 H1 s1 sh1 => ?_⟩
    have := k G1 H1 s1 sh1
    rw [← made_word] at this
    exact this
end
end W
namespace W
open PySem PySem.Spec PyProof.Rows L2 WB TL
local macro_rules | `(tactic| walk_at "w") => `(tactic| first
  | ((with_reducible refine' w_var ?h1 ?h2); (case h1 => exact rfl))
  | with_reducible refine w_c ?_
  | with_reducible refine w_op ?_
  | with_reducible refine w_cons ?_
  | with_reducible refine w_nil ?_
  | with_reducible refine w_seq ?_
  | with_reducible refine w_asg ?_
  | with_reducible refine w_name ?_
  | with_reducible refine w_ret ?_
  | with_reducible refine w_ifS ?_
  | with_reducible refine w_test ?_
  | with_reducible refine w_call ?_
  | with_reducible refine w_cb ?_
  | with_reducible refine w_un ?_
  | with_reducible refine w_tup ?_
  | with_reducible refine w_lst ?_
  | with_reducible refine w_B ?_
  | with_reducible refine w_and ?_
  | with_reducible refine w_or ?_
  | with_reducible refine w_not ?_
  | with_reducible refine w_andV ?_
  | with_reducible refine w_orV ?_
  | with_reducible refine w_notV ?_
  | with_reducible refine w_if ?_
  | with_reducible refine w_next ?_
  | with_reducible refine w_retN ?_
  | with_reducible refine w_drop ?_
  | with_reducible refine w_gsub ?_
  | with_reducible refine w_chain ?_
  | with_reducible refine w_sl ?_
  | with_reducible refine w_noPart ?_
  | with_reducible refine w_part ?_
  | with_reducible refine w_bm ?_
  | with_reducible refine w_bm0 ?_
  | with_reducible refine bl_ex ?_
  | with_reducible refine int_ex ?_
  | with_reducible refine if_t ?_
  | with_reducible refine if_f ?_
  | with_reducible refine if_nt ?_
  | with_reducible refine if_nf ?_
  | with_reducible refine o_I0 ?_
  | with_reducible refine o_U ?_)
local macro_rules | `(tactic| walk_at "ww") => `(tactic| repeat walk_at "w")
local macro_rules | `(tactic| walk_at "w") => `(tactic| first
  | with_reducible refine w_lc ?_
  | with_reducible refine w_for ?_
  | with_reducible refine w_rng1 ?_
  | with_reducible refine w_rng2 ?_
  | with_reducible refine w_iStr ?_
  | with_reducible refine w_iStr' ?_
  | with_reducible refine w_iList ?_
  | with_reducible refine w_iTup ?_
  | with_reducible refine w_yes ?_
  | with_reducible refine w_tm1 ?_
  | with_reducible refine str_ty ?_
  | with_reducible refine nx_mk ?_
  | with_reducible refine rt_mk ?_
  | with_reducible refine bk_mk ?_
  | with_reducible refine ct_mk ?_)
local macro_rules | `(tactic| walk_at "w") => `(tactic| first
  | with_reducible refine w_enumT ?_
  | with_reducible refine w_dnew ?_
  | with_reducible refine w_gcons ?_
  | with_reducible refine w_gnil ?_
  | with_reducible refine w_lenSetT ?_
  | with_reducible refine o_reprB ?_)

section
variable {P : Program} {w : World} {K : PySem.W.Frag} {mg : Str → Option Value} {base : Heap}

theorem ok_is_whole {f : Addr} {fd : FuncData} (F : FnP K "is_whole" s_is_whole f fd) (T : Txt K w mg) : FnOk P w K mg base CX0 2 f fd P_is_whole (spT2 K wholeD) := by
  refine F.ok sc_is_whole (fun vs H Q E h => ?_) (fun cdv A outer s H vs Q E hr h => ⟨_, (PSs.nox (pss_one (ps_ret (pe_and (pe_callB (kIsi (K := K)) (by rfl) T.isinstance (by decide +kernel) (pa_cons (pv 0) (pa_cons (pe_ty (T := "int") T.int (by decide +kernel)) pa_nil))) (pe_and (pe_not (pe_callB (kIsi (K := K)) (by rfl) T.isinstance (by decide +kernel) (pa_cons (pv 0) (pa_cons (pe_ty (T := "bool") T.bool (by decide +kernel)) pa_nil)))) (pe_one (pe_cmpR op_ge (pv 0) (pv 1) (nomark _)))))))), ?_⟩)
  · obtain ⟨G, L, v, d, m, rfl, _⟩ := h
    rfl
  · obtain ⟨G, L, v, d, m, rfl, sh, hd, hs, k⟩ := h
    have k0 := k G H (Same.refl _) sh
    walk_at "ww"
    refine o_isi (kit_int d) (sh.dq hd) ?_
    walk_at "ww"
    cases ht : isTy "int" d with
    | false => walk_at "ww"; exact w_kb (by cases d <;> first | rfl | cases ht) k0
    | true =>
      walk_at "ww"
      refine o_isi (kit_bool d) (sh.dq hd) ?_
      walk_at "ww"
      cases hb : isTy "bool" d with
      | true => walk_at "ww"; exact w_kb (by cases d <;> first | rfl | cases hb) k0
      | false =>
        obtain ⟨i, rfl, rfl⟩ := dq_int hd ht hb
        walk_at "ww"
        exact k0
theorem ok_is_pair {f : Addr} {fd : FuncData} (F : FnP K "is_pair" s_is_pair f fd) (T : Txt K w mg) (c_is_name : Cal P w K mg base CX0 3 "is_name" P_is_name (spT1 K nameD)) (c_is_whole : Cal P w K mg base CX0 2 "is_whole" P_is_whole (spT2 K wholeD)) : FnOk P w K mg base CX0 4 f fd P_is_pair (spT2 K pairD) := by
  refine F.ok sc_is_pair (fun vs H Q E h => ?_) (fun cdv A outer s H vs Q E hr h => ⟨_, (PSs.nox (pss_one (ps_ret (pe_and (pe_callB (kIsi (K := K)) (by rfl) T.isinstance (by decide +kernel) (pa_cons (pv 0) (pa_cons (pe_ty (T := "tuple") T.tuple (by decide +kernel)) pa_nil))) (pe_and (pe_cmpR (kEqD (K := K) hr.units) (pe_callB (kLen (K := K)) (by rfl) T.len (by decide +kernel) (pa_cons (pv 0) pa_nil)) pe_int (nomark _)) (pe_and (c_is_name.pe hr rfl (pa_cons (pe_ix (kIx (K := K)) (pv 0) pe_int (fun _ _ => rfl)) pa_nil)) (pe_one (c_is_whole.pe hr rfl (pa_cons (pe_ix (kIx (K := K)) (pv 0) pe_int (fun _ _ => rfl)) (pa_cons (pv 1) pa_nil)))))))))), ?_⟩)
  · obtain ⟨G, L, v, d, m, rfl, _⟩ := h
    rfl
  · obtain ⟨G, L, v, d, m, rfl, sh, hd, hs, k⟩ := h
    have k0 := k G H (Same.refl _) sh
    walk_at "ww"
    refine o_isi (kit_tuple d) (sh.dq hd) ?_
    walk_at "ww"
    cases ht : isTy "tuple" d with
    | false => walk_at "ww"; exact w_kb (by cases d <;> first | rfl | cases ht) k0
    | true =>
      obtain ⟨a, xs, ds, rfl, rfl, ha, hds⟩ := dq_tup hd ht
      walk_at "ww"
      refine o_len (lenT (sh.sqT ha)) ?_
      walk_at "ww"
      refine o_eqD (.int _) (.int _) rfl rfl ?_
      rw [eqv_int, hds.length]
      walk_at "ww"
      by_cases hl : ds.length = 2
      · obtain ⟨x1, x2, d1, d2, rfl, rfl, h1, h2⟩ := dq_len2 hds hl
        refine if_t ?_
        walk_at "ww"
        refine o_ixT (sh.sqT ha) at0 ?_
        walk_at "ww"
        refine w_T1 sh h1 (sm_mem hs _ (by simp)) fun G1 H1 s1 sh1 => ?_
        walk_at "ww"
        cases hn : nameD d1 with
        | false => walk_at "ww"; exact w_kb (by show (nameD d1 && _) = false; rw [hn]; rfl) (k G1 H1 s1 sh1)
        | true =>
          walk_at "ww"
          refine o_ixT (sh1.sqT (sqT_mono s1 ha)) at1 ?_
          walk_at "ww"
          refine w_T2 sh1 (Dqm s1 h2) (sm_mem hs _ (by simp)) fun G2 H2 s2 sh2 => ?_
          exact w_kb (by show (nameD d1 && _) = _; rw [hn]; rfl) (k G2 H2 (s1.trans s2) sh2)
      · have e : ((ds.length : Int) == 2) = false := by simpa using fun q => hl (by omega)
        rw [e]
        walk_at "ww"
        exact w_kb (pairD_ne hl) k0
theorem ok_is_letter {f : Addr} {fd : FuncData} (F : FnP K "is_letter" s_is_letter f fd) (T : Txt K w mg) (c_is_name : Cal P w K mg base CX0 3 "is_name" P_is_name (spT1 K nameD)) (c_is_word : Cal P w K mg base CX0 3 "is_word" P_is_word (spT1 K wordD)) : FnOk P w K mg base CX0 5 f fd P_is_letter (spTt K letterD) := by
  refine F.ok sc_is_letter (fun vs H Q E h => ?_) (fun cdv A outer s H vs Q E hr h => ⟨_, (PSs.nox (pss_one (ps_ret (pe_and (pe_cmpR (kEqD (K := K) hr.units) (pe_callB (kLen (K := K)) (by rfl) T.len (by decide +kernel) (pa_cons (pv 0) pa_nil)) pe_int (nomark _)) (pe_and (c_is_name.pe hr rfl (pa_cons (pe_ix (kIx (K := K)) (pv 0) pe_int (fun _ _ => rfl)) pa_nil)) (pe_and (c_is_name.pe hr rfl (pa_cons (pe_ix (kIx (K := K)) (pv 0) pe_int (fun _ _ => rfl)) pa_nil)) (pe_one (c_is_word.pe hr rfl (pa_cons (pe_ix (kIx (K := K)) (pv 0) pe_int (fun _ _ => rfl)) pa_nil))))))))), ?_⟩)
  · obtain ⟨G, L, a, xs, ds, rfl, _⟩ := h
    rfl
  · obtain ⟨G, L, a, xs, ds, rfl, sh, ha, hds, hs, k⟩ := h
    have k0 := k G H (Same.refl _) sh
    walk_at "ww"
    refine o_len (lenT (sh.sqT ha)) ?_
    walk_at "ww"
    refine o_eqD (.int _) (.int _) rfl rfl ?_
    rw [eqv_int, hds.length]
    walk_at "ww"
    by_cases hl : ds.length = 4
    · obtain ⟨x1, x2, x3, x4, d1, d2, d3, d4, rfl, rfl, h1, h2, h3, h4⟩ := dq_len4 hds hl
      refine if_t ?_
      walk_at "ww"
      refine o_ixT (sh.sqT ha) at1 ?_
      walk_at "ww"
      refine w_T1 sh h2 (sm_mem hs _ (by simp)) fun G1 H1 s1 sh1 => ?_
      walk_at "ww"
      cases hn : nameD d2 with
      | false => walk_at "ww"; exact w_kb (by show (nameD d2 && _ && _) = false; rw [hn]; rfl) (k G1 H1 s1 sh1)
      | true =>
        walk_at "ww"
        refine o_ixT (sh1.sqT (sqT_mono s1 ha)) at2 ?_
        walk_at "ww"
        refine w_T1 sh1 (Dqm s1 h3) (sm_mem hs _ (by simp)) fun G2 H2 s2 sh2 => ?_
        have s02 := s1.trans s2
        walk_at "ww"
        cases hn3 : nameD d3 with
        | false => walk_at "ww"; exact w_kb (by show (nameD d2 && nameD d3 && _) = false; rw [hn, hn3]; rfl) (k G2 H2 s02 sh2)
        | true =>
          walk_at "ww"
          refine o_ixT (sh2.sqT (sqT_mono s02 ha)) at3 ?_
          walk_at "ww"
          refine w_T1 sh2 (Dqm s02 h4) (sm_mem hs _ (by simp)) fun G3 H3 s3 sh3 => ?_
          exact w_kb (by show (nameD d2 && nameD d3 && _) = _; rw [hn, hn3]; rfl) (k G3 H3 (s02.trans s3) sh3)
    · have e : ((ds.length : Int) == 4) = false := by simpa using fun q => hl (by omega)
      rw [e]
      walk_at "ww"
      exact w_kb (letterD_ne hl) k0
end
end W
namespace W
open PySem PySem.Spec PyProof.Rows L2 WB TL
local macro_rules | `(tactic| walk_at "w") => `(tactic| first
  | ((with_reducible refine' w_var ?h1 ?h2); (case h1 => exact rfl))
  | with_reducible refine w_c ?_
  | with_reducible refine w_op ?_
  | with_reducible refine w_cons ?_
  | with_reducible refine w_nil ?_
  | with_reducible refine w_seq ?_
  | with_reducible refine w_asg ?_
  | with_reducible refine w_name ?_
  | with_reducible refine w_ret ?_
  | with_reducible refine w_ifS ?_
  | with_reducible refine w_test ?_
  | with_reducible refine w_call ?_
  | with_reducible refine w_cb ?_
  | with_reducible refine w_un ?_
  | with_reducible refine w_tup ?_
  | with_reducible refine w_lst ?_
  | with_reducible refine w_B ?_
  | with_reducible refine w_and ?_
  | with_reducible refine w_or ?_
  | with_reducible refine w_not ?_
  | with_reducible refine w_andV ?_
  | with_reducible refine w_orV ?_
  | with_reducible refine w_notV ?_
  | with_reducible refine w_if ?_
  | with_reducible refine w_next ?_
  | with_reducible refine w_retN ?_
  | with_reducible refine w_drop ?_
  | with_reducible refine w_gsub ?_
  | with_reducible refine w_chain ?_
  | with_reducible refine w_sl ?_
  | with_reducible refine w_noPart ?_
  | with_reducible refine w_part ?_
  | with_reducible refine w_bm ?_
  | with_reducible refine w_bm0 ?_
  | with_reducible refine bl_ex ?_
  | with_reducible refine int_ex ?_
  | with_reducible refine if_t ?_
  | with_reducible refine if_f ?_
  | with_reducible refine if_nt ?_
  | with_reducible refine if_nf ?_
  | with_reducible refine o_I0 ?_
  | with_reducible refine o_U ?_)
local macro_rules | `(tactic| walk_at "ww") => `(tactic| repeat walk_at "w")
local macro_rules | `(tactic| walk_at "w") => `(tactic| first
  | with_reducible refine w_lc ?_
  | with_reducible refine w_for ?_
  | with_reducible refine w_rng1 ?_
  | with_reducible refine w_rng2 ?_
  | with_reducible refine w_iStr ?_
  | with_reducible refine w_iStr' ?_
  | with_reducible refine w_iList ?_
  | with_reducible refine w_iTup ?_
  | with_reducible refine w_yes ?_
  | with_reducible refine w_tm1 ?_
  | with_reducible refine str_ty ?_
  | with_reducible refine nx_mk ?_
  | with_reducible refine rt_mk ?_
  | with_reducible refine bk_mk ?_
  | with_reducible refine ct_mk ?_)
local macro_rules | `(tactic| walk_at "w") => `(tactic| first
  | with_reducible refine w_enumT ?_
  | with_reducible refine w_dnew ?_
  | with_reducible refine w_gcons ?_
  | with_reducible refine w_gnil ?_
  | with_reducible refine w_lenSetT ?_
  | with_reducible refine o_reprB ?_)

section
variable {P : Program} {w : World} {K : PySem.W.Frag} {mg : Str → Option Value} {base : Heap}

theorem sort_of {d : PyData} (h : isTy "str" d = false) : sortD d = false := by
  cases d <;> first | rfl | cases h
theorem all_eq {α : Type} (f : α → Bool) (ds : List α) : (ds.map f).all id = ds.all f := by rw [List.all_map]; rfl
def looksS (K : PySem.W.Frag) (f : Addr) : Option Sp :=
  if f = He.ga K "is_letter" then some (spTt K letterD) else if f = He.ga K "is_echo" then some (spTt K echoD) else if f = He.ga K "is_answer" then some (spTt K answerD) else if f = He.ga K "is_goer" then some (spTt K goerD) else none
theorem held_of {x : Str} {k : Nat} {ps : List Str} {sp : Sp} (c : Cal P w K mg base CX0 k x ps sp) (hg : mg x = some (.ref (He.ga K x))) : Held P w K mg base k (He.ga K x) sp := by
  obtain ⟨f, fd, h1, h2, h3, h4⟩ := c.ex
  rw [hg] at h1
  cases h1
  exact ⟨fd, ps, h4, h2, h3⟩
theorem held_mono {k j : Nat} {f : Addr} {sp : Sp} (h : Held P w K mg base k f sp) (e : k = j) : Held P w K mg base j f sp := e ▸ h
theorem looks_held (c1 : Cal P w K mg base CX0 5 "is_letter" P_is_letter (spTt K letterD)) (c2 : Cal P w K mg base CX0 5 "is_echo" P_is_echo (spTt K echoD)) (c3 : Cal P w K mg base CX0 5 "is_answer" P_is_answer (spTt K answerD)) (c4 : Cal P w K mg base CX0 5 "is_goer" P_is_goer (spTt K goerD)) (T : Txt K w mg) :
    ∀ f sp, looksS K f = some sp → Held P w K mg base 5 f sp := by
  intro f sp h
  unfold looksS at h
  split at h
  · rename_i e; cases h; subst e; exact held_of c1 T.g_is_letter
  · split at h
    · rename_i e; cases h; subst e; exact held_of c2 T.g_is_echo
    · split at h
      · rename_i e; cases h; subst e; exact held_of c3 T.g_is_answer
      · split at h
        · rename_i e; cases h; subst e; exact held_of c4 T.g_is_goer
        · cases h
theorem ok_is_sort {f : Addr} {fd : FuncData} (F : FnP K "is_sort" s_is_sort f fd) (T : Txt K w mg) : FnOk P w K mg base CX0 2 f fd P_is_sort (spT1 K sortD) := by
  refine F.ok sc_is_sort (fun vs H Q E h => ?_) (fun cdv A outer s H vs Q E hr h => ⟨_, (PSs.nox (pss_one (ps_ret (pe_and (pe_callB (kIsi (K := K)) (by rfl) T.isinstance (by decide +kernel) (pa_cons (pv 0) (pa_cons (pe_ty (T := "str") T.str (by decide +kernel)) pa_nil))) (pe_one (pe_cmpR (kIn (K := K) hr.units) (pv 0) (pe_gr T.c_SORTS) (by rfl))))))), ?_⟩)
  · obtain ⟨G, L, v, d, rfl, _⟩ := h
    rfl
  · obtain ⟨G, L, v, d, rfl, sh, hd, hs, k⟩ := h
    have k0 := k G H (Same.refl _) sh
    walk_at "ww"
    refine o_isi (kit_str d) (sh.dq hd) ?_
    walk_at "ww"
    cases ht : isTy "str" d with
    | false => walk_at "ww"; exact w_kb (sort_of ht) k0
    | true =>
      walk_at "ww"
      exact o_inT (sh.dq hd) (T.t_SORTS _) k0
theorem ok_is_echo {f : Addr} {fd : FuncData} (F : FnP K "is_echo" s_is_echo f fd) (T : Txt K w mg) (c_is_name : Cal P w K mg base CX0 3 "is_name" P_is_name (spT1 K nameD)) (c_is_sort : Cal P w K mg base CX0 2 "is_sort" P_is_sort (spT1 K sortD)) (c_is_pair : Cal P w K mg base CX0 4 "is_pair" P_is_pair (spT2 K pairD)) : FnOk P w K mg base CX0 5 f fd P_is_echo (spTt K echoD) := by
  refine F.ok sc_is_echo (fun vs H Q E h => ?_) (fun cdv A outer s H vs Q E hr h => ⟨_, (PSs.nox (pss_cons (ps_if (PW.pt (pw_or (pt_cmpR (kNeD (K := K) hr.units) (pe_callB (kLen (K := K)) (by rfl) T.len (by decide +kernel) (pa_cons (pv 0) pa_nil)) pe_int (nomark _)) (pw_or (pt_not (pt_val (c_is_name.pe hr rfl (pa_cons (pe_ix (kIx (K := K)) (pv 0) pe_int (fun _ _ => rfl)) pa_nil)))) (pw_or1 (pt_not (pt_val (c_is_name.pe hr rfl (pa_cons (pe_ix (kIx (K := K)) (pv 0) pe_int (fun _ _ => rfl)) pa_nil)))))))) (pss_one (ps_ret pe_bl)) pss_nil)
      (pss_one (ps_ret (pe_and (c_is_sort.pe hr rfl (pa_cons (pe_ix (kIx (K := K)) (pv 0) pe_int (fun _ _ => rfl)) pa_nil)) (pe_one (c_is_pair.pe hr rfl (pa_cons (pe_ix (kIx (K := K)) (pv 0) pe_int (fun _ _ => rfl)) (pa_cons pe_int pa_nil))))))))), ?_⟩)
  · obtain ⟨G, L, a, xs, ds, rfl, _⟩ := h
    rfl
  · obtain ⟨G, L, a, xs, ds, rfl, sh, ha, hds, hs, k⟩ := h
    have k0 := k G H (Same.refl _) sh
    walk_at "ww"
    refine o_len (lenT (sh.sqT ha)) ?_
    walk_at "ww"
    refine o_neD (.int _) (.int _) rfl rfl ?_
    rw [eqv_int, hds.length]
    walk_at "ww"
    by_cases hl : ds.length = 5
    · obtain ⟨x1, x2, x3, x4, x5, d1, d2, d3, d4, d5, rfl, rfl, h1, h2, h3, h4, h5⟩ := dq_len5 hds hl
      refine if_nt ?_
      walk_at "ww"
      refine o_ixT (sh.sqT ha) at1 ?_
      walk_at "ww"
      refine w_T1 sh h2 (sm_mem hs _ (by simp)) fun G1 H1 s1 sh1 => ?_
      walk_at "ww"
      cases hn : nameD d2 with
      | false => walk_at "ww"; exact w_kb (by show (nameD d2 && _ && _ && _) = false; rw [hn]; rfl) (k G1 H1 s1 sh1)
      | true =>
        walk_at "ww"
        refine o_ixT (sh1.sqT (sqT_mono s1 ha)) at2 ?_
        walk_at "ww"
        refine w_T1 sh1 (Dqm s1 h3) (sm_mem hs _ (by simp)) fun G2 H2 s2 sh2 => ?_
        have s02 := s1.trans s2
        walk_at "ww"
        cases hn3 : nameD d3 with
        | false => walk_at "ww"; exact w_kb (by show (nameD d2 && nameD d3 && _ && _) = false; rw [hn, hn3]; rfl) (k G2 H2 s02 sh2)
        | true =>
          walk_at "ww"
          refine o_ixT (sh2.sqT (sqT_mono s02 ha)) at3 ?_
          walk_at "ww"
          refine w_T1 sh2 (Dqm s02 h4) (sm_mem hs _ (by simp)) fun G3 H3 s3 sh3 => ?_
          have s03 := s02.trans s3
          walk_at "ww"
          cases hn4 : sortD d4 with
          | false => walk_at "ww"; exact w_kb (by show (nameD d2 && nameD d3 && sortD d4 && _) = false; rw [hn, hn3, hn4]; rfl) (k G3 H3 s03 sh3)
          | true =>
            walk_at "ww"
            refine o_ixT (sh3.sqT (sqT_mono s03 ha)) at4 ?_
            walk_at "ww"
            refine w_T2 sh3 (Dqm s03 h5) (sm_mem hs _ (by simp)) fun G4 H4 s4 sh4 => ?_
            exact w_kb (by show (nameD d2 && nameD d3 && sortD d4 && pairD d5 0) = _; rw [hn, hn3, hn4]; rfl) (k G4 H4 (s03.trans s4) sh4)
    · have e : ((ds.length : Int) == 5) = false := by simpa using fun q => hl (by omega)
      rw [e]
      walk_at "ww"
      exact w_kb (echoD_ne hl) k0
theorem ok_is_answer {f : Addr} {fd : FuncData} (F : FnP K "is_answer" s_is_answer f fd) (T : Txt K w mg) (c_is_name : Cal P w K mg base CX0 3 "is_name" P_is_name (spT1 K nameD)) (c_is_sort : Cal P w K mg base CX0 2 "is_sort" P_is_sort (spT1 K sortD)) (c_is_pair : Cal P w K mg base CX0 4 "is_pair" P_is_pair (spT2 K pairD)) : FnOk P w K mg base CX0 5 f fd P_is_answer (spTt K answerD) := by
  refine F.ok sc_is_answer (fun vs H Q E h => ?_) (fun cdv A outer s H vs Q E hr h => ⟨_, (PSs.nox (pss_cons (ps_if (PW.pt (pw_or (pt_cmpR (kNeD (K := K) hr.units) (pe_callB (kLen (K := K)) (by rfl) T.len (by decide +kernel) (pa_cons (pv 0) pa_nil)) pe_int (nomark _)) (pw_or (pt_not (pt_val (c_is_name.pe hr rfl (pa_cons (pe_ix (kIx (K := K)) (pv 0) pe_int (fun _ _ => rfl)) pa_nil)))) (pw_or1 (pt_not (pt_val (c_is_sort.pe hr rfl (pa_cons (pe_ix (kIx (K := K)) (pv 0) pe_int (fun _ _ => rfl)) pa_nil)))))))) (pss_one (ps_ret pe_bl)) pss_nil)
      (pss_one (ps_ret (pe_and (c_is_pair.pe hr rfl (pa_cons (pe_ix (kIx (K := K)) (pv 0) pe_int (fun _ _ => rfl)) (pa_cons pe_int pa_nil))) (pe_one (c_is_pair.pe hr rfl (pa_cons (pe_ix (kIx (K := K)) (pv 0) pe_int (fun _ _ => rfl)) (pa_cons pe_int pa_nil))))))))), ?_⟩)
  · obtain ⟨G, L, a, xs, ds, rfl, _⟩ := h
    rfl
  · obtain ⟨G, L, a, xs, ds, rfl, sh, ha, hds, hs, k⟩ := h
    have k0 := k G H (Same.refl _) sh
    walk_at "ww"
    refine o_len (lenT (sh.sqT ha)) ?_
    walk_at "ww"
    refine o_neD (.int _) (.int _) rfl rfl ?_
    rw [eqv_int, hds.length]
    walk_at "ww"
    by_cases hl : ds.length = 5
    · obtain ⟨x1, x2, x3, x4, x5, d1, d2, d3, d4, d5, rfl, rfl, h1, h2, h3, h4, h5⟩ := dq_len5 hds hl
      refine if_nt ?_
      walk_at "ww"
      refine o_ixT (sh.sqT ha) at1 ?_
      walk_at "ww"
      refine w_T1 sh h2 (sm_mem hs _ (by simp)) fun G1 H1 s1 sh1 => ?_
      walk_at "ww"
      cases hn : nameD d2 with
      | false => walk_at "ww"; exact w_kb (by show (nameD d2 && _ && _ && _) = false; rw [hn]; rfl) (k G1 H1 s1 sh1)
      | true =>
        walk_at "ww"
        refine o_ixT (sh1.sqT (sqT_mono s1 ha)) at2 ?_
        walk_at "ww"
        refine w_T1 sh1 (Dqm s1 h3) (sm_mem hs _ (by simp)) fun G2 H2 s2 sh2 => ?_
        have s02 := s1.trans s2
        walk_at "ww"
        cases hn3 : sortD d3 with
        | false => walk_at "ww"; exact w_kb (by show (nameD d2 && sortD d3 && _ && _) = false; rw [hn, hn3]; rfl) (k G2 H2 s02 sh2)
        | true =>
          walk_at "ww"
          refine o_ixT (sh2.sqT (sqT_mono s02 ha)) at3 ?_
          walk_at "ww"
          refine w_T2 sh2 (Dqm s02 h4) (sm_mem hs _ (by simp)) fun G3 H3 s3 sh3 => ?_
          have s03 := s02.trans s3
          walk_at "ww"
          cases hn4 : pairD d4 0 with
          | false => walk_at "ww"; exact w_kb (by show (nameD d2 && sortD d3 && pairD d4 0 && _) = false; rw [hn, hn3, hn4]; rfl) (k G3 H3 s03 sh3)
          | true =>
            walk_at "ww"
            refine o_ixT (sh3.sqT (sqT_mono s03 ha)) at4 ?_
            walk_at "ww"
            refine w_T2 sh3 (Dqm s03 h5) (sm_mem hs _ (by simp)) fun G4 H4 s4 sh4 => ?_
            exact w_kb (by show (nameD d2 && sortD d3 && pairD d4 0 && pairD d5 1) = _; rw [hn, hn3, hn4]; rfl) (k G4 H4 (s03.trans s4) sh4)
    · have e : ((ds.length : Int) == 5) = false := by simpa using fun q => hl (by omega)
      rw [e]
      walk_at "ww"
      exact w_kb (answerD_ne hl) k0
end
end W
namespace W
open PySem PySem.Spec PyProof.Rows L2 WB TL

section
variable {P : Program} {w : World} {K : PySem.W.Frag} {mg : Str → Option Value} {base : Heap}
theorem names_of {G : Hp} : ∀ {xs : List V} {ds : List PyData}, DqAll K G xs ds → ds.all nameD = true → ∃ zs : List Str, xs = zs.map V.str ∧ ds = zs.map PyData.str
  | _, _, .nil, _ => ⟨[], rfl, rfl⟩
  | _, _, .cons h t, e => by
    rw [List.all_cons, Bool.and_eq_true] at e
    obtain ⟨zs, rfl, rfl⟩ := names_of t e.2
    cases h with
    | str z => exact ⟨z :: zs, rfl, rfl⟩
    | _ => cases e.1
theorem dst_nd (zs : List Str) : decide zs.Nodup = (((dst zs).length : Int) == (zs.length : Int)) := by
  have h := (dst_len zs).2
  by_cases q : zs.Nodup
  · have := h.mpr q; simp [q, this]
  · have : ¬ ((dst zs).length : Int) = zs.length := fun e => q (h.mp (by omega))
    simp [q, this]
theorem unlike_strs : ∀ zs : List Str, unlike (zs.map PyData.str) = decide zs.Nodup
  | [] => rfl
  | z :: zs => by
    show (!((zs.map PyData.str).any fun e => PyData.eqv (.str z) e) && unlike (zs.map PyData.str)) = _
    rw [unlike_strs zs, List.any_map]
    have e : (zs.any ((fun e => PyData.eqv (.str z) e) ∘ PyData.str)) = decide (z ∈ zs) := by
      rw [← inS_strs]
      unfold inS
      congr 1
    rw [e]
    by_cases h1 : z ∈ zs <;> by_cases h2 : zs.Nodup <;> simp [h1, h2]
theorem ok_is_goer {f : Addr} {fd : FuncData} (F : FnP K "is_goer" s_is_goer f fd) (T : Txt K w mg) (c_is_name : Cal P w K mg base CX0 3 "is_name" P_is_name (spT1 K nameD)) (c_is_whole : Cal P w K mg base CX0 2 "is_whole" P_is_whole (spT2 K wholeD)) : FnOk P w K mg base CX0 5 f fd P_is_goer (spTt K goerD) := by
  refine F.ok sc_is_goer (fun vs H Q E h => ?_) (fun cdv A outer s H vs Q E hr h => ⟨_, (PSs.nox (pss_cons (ps_if (PW.pt (pw_or (pt_cmpR (kNeD (K := K) hr.units) (pe_callB (kLen (K := K)) (by rfl) T.len (by decide +kernel) (pa_cons (pv 0) pa_nil)) pe_int (nomark _)) (pw_or (pt_not (pt_val (c_is_name.pe hr rfl (pa_cons (pe_ix (kIx (K := K)) (pv 0) pe_int (fun _ _ => rfl)) pa_nil)))) (pw_or1 (pt_not (pt_val (c_is_whole.pe hr rfl (pa_cons (pe_ix (kIx (K := K)) (pv 0) pe_int (fun _ _ => rfl)) (pa_cons (pe_gi T.c_SECOND_STAY) pa_nil))))))))) (pss_one (ps_ret pe_bl)) pss_nil)
      (pss_cons (ps_set (i := 1) sc_is_goer.nd rfl (Or.inl rfl) (pe_ix (kIx (K := K)) (pv 0) pe_int (fun _ _ => rfl)))
      (pss_cons (ps_if (PW.pt (pw_or (pt_not (pt_val (pe_callB (kIsi (K := K)) (by rfl) T.isinstance (by decide +kernel) (pa_cons (pv 1) (pa_cons (pe_ty (T := "tuple") T.tuple (by decide +kernel)) pa_nil))))) (pw_or1 (pt_not (pt_val (pe_callB (kAll (K := K) rfl) (by rfl) T.all (by decide +kernel) (pa_cons (pe_lc (own := [("name", 2)]) (g := gName 2) (by rfl) sc_is_goer.nd (kiTup (K := K) (pv 1)) (blkOk_by (own := [("name", 2)]) (N := N_is_goer) (sc := defScope s_is_goer) (by decide +kernel)) (fun _ _ _ _ _ => (pg_name (i := 2) sc_is_goer.nd rfl (Or.inl rfl))) (fun _ _ _ _ _ => pts_nil) (fun _ _ _ _ _ => (c_is_name.pe hr rfl (pa_cons (pv 2) pa_nil)))) pa_nil))))))) (pss_one (ps_ret pe_bl)) pss_nil)
      (pss_one (ps_ret (pe_cmpR (kEqD (K := K) hr.units) (pe_lenSetT (K := K) rfl T.len T.set (pv 1)) (pe_callB (kLen (K := K)) (by rfl) T.len (by decide +kernel) (pa_cons (pv 1) pa_nil)) (nomark _)))))))), ?_⟩)
  · obtain ⟨G, L, a, xs, ds, rfl, _⟩ := h
    rfl
  · obtain ⟨G, L, a, xs, ds, rfl, sh, ha, hds, hs, k⟩ := h
    have k0 := k G H (Same.refl _) sh
    walk_at "ww"
    refine o_len (lenT (sh.sqT ha)) ?_
    walk_at "ww"
    refine o_neD (.int _) (.int _) rfl rfl ?_
    rw [eqv_int, hds.length]
    walk_at "ww"
    by_cases hl : ds.length = 4
    · obtain ⟨x1, x2, x3, x4, d1, d2, d3, d4, rfl, rfl, h1, h2, h3, h4⟩ := dq_len4 hds hl
      refine if_nt ?_
      walk_at "ww"
      refine o_ixT (sh.sqT ha) at1 ?_
      walk_at "ww"
      refine w_T1 sh h2 (sm_mem hs _ (by simp)) fun G1 H1 s1 sh1 => ?_
      walk_at "ww"
      cases hn : nameD d2 with
      | false => walk_at "ww"; exact w_kb (by show (nameD d2 && _ && _) = false; rw [hn]; rfl) (k G1 H1 s1 sh1)
      | true =>
        walk_at "ww"
        refine o_ixT (sh1.sqT (sqT_mono s1 ha)) at2 ?_
        walk_at "ww"
        refine w_T2 sh1 (Dqm s1 h3) (sm_mem hs _ (by simp)) fun G2 H2 s2 sh2 => ?_
        have s02 := s1.trans s2
        walk_at "ww"
        cases hn3 : wholeD d3 2 with
        | false => walk_at "ww"; exact w_kb (by show (nameD d2 && wholeD d3 2 && _) = false; rw [hn, hn3]; rfl) (k G2 H2 s02 sh2)
        | true =>
          have eg : ∀ b, goerD [d1, d2, d3, d4] = b ↔ shutD d4 = b := fun b => by
            show (nameD d2 && wholeD d3 2 && shutD d4) = b ↔ _
            rw [hn, hn3]; rfl
          walk_at "ww"
          refine o_ixT (sh2.sqT (sqT_mono s02 ha)) at3 ?_
          walk_at "ww"
          refine o_isi (kit_tuple d4) (sh2.dq (Dqm s02 h4)) ?_
          walk_at "ww"
          cases ht : isTy "tuple" d4 with
          | false => walk_at "ww"; exact w_kb ((eg _).mpr (by cases d4 <;> first | rfl | cases ht)) (k G2 H2 s02 sh2)
          | true =>
            obtain ⟨b, ys, es, rfl, rfl, hb, hes⟩ := dq_tup (Dqm s02 h4) ht
            have hse : smD (.tuple es) = true := sm_mem hs _ (by simp)
            walk_at "ww"
            refine w_iTup' (sh2.sqT hb) ?_
            refine w_lcW walk_tup sh2 (fun i acc G' L' => acc = ((es.take i).map nameD).map V.bl ∧ Same G2 G' ∧ L' = L) ⟨by simp, Same.refl _, rfl⟩ (fun i acc G' L' H' _ ⟨_, s, _⟩ sh' => sh'.sqT (sqT_mono s hb)) ?_ ?_
            · rintro D i x H3 H4 acc G3 L3 hi ⟨rfl, s3, rfl⟩ sh3 ⟨rfl, hx⟩
              have hie : i < es.length := by rw [← hes.length]; exact hi
              obtain ⟨v, hv, dv⟩ := hes.get (i := i) (d := es[i]) (List.getElem?_eq_getElem hie)
              rw [hx] at hv; cases hv
              walk_at "ww"
              refine ⟨rfl, ?_⟩
              walk_at "ww"
              refine w_T1 sh3 (Dqm s3 dv) (sm_mem hse _ (List.getElem_mem hie)) fun G4 H5 s4 sh4 => ?_
              refine lc_end sh4 ⟨?_, s3.trans s4, rfl⟩ (by have := sm_tlen hse; simp only [List.length_map, List.length_take]; omega)
              rw [List.take_succ, List.getElem?_eq_getElem hie, List.map_append, List.map_append]; rfl
            · rintro D acc G3 L3 H3 ⟨rfl, s3, rfl⟩ sh3
              have s03 := s02.trans s3
              walk_at "ww"
              have e1 : es.take ys.length = es := by rw [hes.length]; exact List.take_length
              refine o_all (bs := es.map nameD) (SqL.of (by rw [sh3.hd, e1])) ?_
              rw [all_eq]
              walk_at "ww"
              cases hall : es.all nameD with
              | false => walk_at "ww"; exact w_kb ((eg _).mpr (by show (es.all nameD && _) = false; rw [hall]; rfl)) (k G3 H3 s03 sh3.drop)
              | true =>
                obtain ⟨zs, rfl, rfl⟩ := names_of hes hall
                walk_at "ww"
                refine ⟨b, zs, rfl, sh3.drop.sqT (sqT_mono s3 hb), by have := sm_tlen hse; simp only [List.length_map] at this; omega, ?_⟩
                walk_at "ww"
                refine o_len (lenT (sh3.drop.sqT (sqT_mono s3 hb))) ?_
                refine o_eqD (.int _) (.int _) rfl rfl ?_
                rw [eqv_int]
                refine w_kb ((eg _).mpr ?_) (k G3 H3 s03 sh3.drop)
                show ((zs.map PyData.str).all nameD && unlike (zs.map PyData.str)) = _
                rw [hall, unlike_strs, Bool.true_and, List.length_map]
                exact dst_nd zs
    · have e : ((ds.length : Int) == 4) = false := by simpa using fun q => hl (by omega)
      rw [e]
      walk_at "ww"
      exact w_kb (goerD_ne hl) k0
end
end W
namespace W
open PySem PySem.Spec PyProof.Rows L2 WB TL

section
variable {P : Program} {w : World} {K : PySem.W.Frag} {mg : Str → Option Value} {base : Heap}
/-- which of the two its walker is -/
def spWalk (K : PySem.W.Frag) : Sp := fun vs H Q _ => ∃ (a : Addr) (x0 x1 x2 : V) (xs : List V) (d : PyData), vs = [.ref a] ∧ SqT K H a (x0 :: x1 :: x2 :: xs) ∧ Dq K H x0 d ∧ Q (if isStrOf d "letter" then x2 else x1) H
/-- the first of a thing is in PARCELS -/
def spParcel (K : PySem.W.Frag) : Sp := fun vs H Q _ => ∃ (a : Addr) (x0 : V) (xs : List V) (d : PyData), vs = [.ref a] ∧ SqT K H a (x0 :: xs) ∧ Dq K H x0 d ∧ Q (.bl (inS d ["letter", "echo"])) H
theorem dqAll_nil {G : Hp} {ds : List PyData} (h : DqAll K G [] ds) : ds = [] := by cases h; rfl
theorem dqAll_cons {G : Hp} {x : V} {xs : List V} {ds : List PyData} (h : DqAll K G (x :: xs) ds) : ∃ d es, ds = d :: es ∧ Dq K G x d ∧ DqAll K G xs es := by cases h with | cons a b => exact ⟨_, _, rfl, a, b⟩
abbrev Apart (K : PySem.W.Frag) : Prop := He.ga K "is_echo" ≠ He.ga K "is_letter" ∧ He.ga K "is_answer" ≠ He.ga K "is_letter" ∧ He.ga K "is_goer" ≠ He.ga K "is_letter" ∧ He.ga K "is_answer" ≠ He.ga K "is_echo" ∧ He.ga K "is_goer" ≠ He.ga K "is_echo" ∧ He.ga K "is_goer" ≠ He.ga K "is_answer"
theorem looks_in (nd : Apart K) (z : Str) : let kvs : List (Str × V) := [("letter", .ref (He.ga K "is_letter")), ("echo", .ref (He.ga K "is_echo")), ("answer", .ref (He.ga K "is_answer")), ("goer", .ref (He.ga K "is_goer"))]
    (kvs.lookup z = none ∧ ∀ es, thingD (.tuple (.str z :: es)) = false) ∨ (∃ f, ∃ φ : List PyData → Bool, kvs.lookup z = some (.ref f) ∧ looksS K f = some (spTt K φ) ∧ ∀ es, thingD (.tuple (.str z :: es)) = φ (.str z :: es)) := by
  intro kvs
  have n1 : He.ga K "is_echo" ≠ He.ga K "is_letter" := nd.1
  have n2 : He.ga K "is_answer" ≠ He.ga K "is_letter" := nd.2.1
  have n3 : He.ga K "is_goer" ≠ He.ga K "is_letter" := nd.2.2.1
  have n4 : He.ga K "is_answer" ≠ He.ga K "is_echo" := nd.2.2.2.1
  have n5 : He.ga K "is_goer" ≠ He.ga K "is_echo" := nd.2.2.2.2.1
  have n6 : He.ga K "is_goer" ≠ He.ga K "is_answer" := nd.2.2.2.2.2
  have ne : ∀ {a b : Str}, (z == a) = true → decide (a = b) = false → (z == b) = false := fun {a b} h h2 => by
    rw [eq_of_beq h]; exact beq_eq_false_iff_ne.mpr (of_decide_eq_false h2)
  show (List.lookup z kvs = none ∧ ∀ es, ((z == "letter" && letterD (.str z :: es)) || (z == "echo" && echoD (.str z :: es)) || (z == "answer" && answerD (.str z :: es)) || (z == "goer" && goerD (.str z :: es))) = false) ∨
    (∃ f, ∃ φ : List PyData → Bool, kvs.lookup z = some (.ref f) ∧ looksS K f = some (spTt K φ) ∧ ∀ es, ((z == "letter" && letterD (.str z :: es)) || (z == "echo" && echoD (.str z :: es)) || (z == "answer" && answerD (.str z :: es)) || (z == "goer" && goerD (.str z :: es))) = φ (.str z :: es))
  unfold looksS
  simp only [kvs, List.lookup]
  by_cases h1 : (z == "letter") = true
  · rw [h1, ne h1 (b := "echo") (by decide), ne h1 (b := "answer") (by decide), ne h1 (b := "goer") (by decide)]
    exact .inr ⟨_, letterD, rfl, by rw [if_pos rfl], fun es => by simp⟩
  · rw [Bool.not_eq_true] at h1
    by_cases h2 : (z == "echo") = true
    · rw [h1, h2, ne h2 (b := "answer") (by decide), ne h2 (b := "goer") (by decide)]
      exact .inr ⟨_, echoD, rfl, by rw [if_neg n1, if_pos rfl], fun es => by simp⟩
    · rw [Bool.not_eq_true] at h2
      by_cases h3 : (z == "answer") = true
      · rw [h1, h2, h3, ne h3 (b := "goer") (by decide)]
        exact .inr ⟨_, answerD, rfl, by rw [if_neg n2, if_neg n4, if_pos rfl], fun es => by simp⟩
      · rw [Bool.not_eq_true] at h3
        by_cases h4 : (z == "goer") = true
        · rw [h1, h2, h3, h4]
          exact .inr ⟨_, goerD, rfl, by rw [if_neg n3, if_neg n5, if_neg n6, if_pos rfl], fun es => by simp⟩
        · rw [Bool.not_eq_true] at h4
          rw [h1, h2, h3, h4]
          exact .inl ⟨rfl, fun es => by simp⟩
theorem ok_is_thing {f : Addr} {fd : FuncData} (F : FnP K "is_thing" s_is_thing f fd) (T : Txt K w mg) (c_is_letter : Cal P w K mg base CX0 5 "is_letter" P_is_letter (spTt K letterD)) (c_is_echo : Cal P w K mg base CX0 5 "is_echo" P_is_echo (spTt K echoD)) (c_is_answer : Cal P w K mg base CX0 5 "is_answer" P_is_answer (spTt K answerD)) (c_is_goer : Cal P w K mg base CX0 5 "is_goer" P_is_goer (spTt K goerD)) (nd : Apart K) : FnOk P w K mg base CX0 6 f fd P_is_thing (spT1 K thingD) := by
  refine F.ok sc_is_thing (fun vs H Q E h => ?_) (fun cdv A outer s H vs Q E hr h => ⟨_, (PSs.nox (pss_cons (ps_if (PW.pt (pw_or (pt_not (pt_val (pe_callB (kIsi (K := K)) (by rfl) T.isinstance (by decide +kernel) (pa_cons (pv 0) (pa_cons (pe_ty (T := "tuple") T.tuple (by decide +kernel)) pa_nil))))) (pw_or (pt_cmpR (kEqT0 (K := K) hr.units) (pv 0) (pe_tup pa_nil) (nomark _)) (pw_or (pt_not (pt_val (pe_callB (kIsi (K := K)) (by rfl) T.isinstance (by decide +kernel) (pa_cons (pe_ix (kIx (K := K)) (pv 0) pe_int (fun _ _ => rfl)) (pa_cons (pe_ty (T := "str") T.str (by decide +kernel)) pa_nil))))) (pw_or1 (pt_cmpR (kNotInTab (K := K) (w := w)) (pe_ix (kIx (K := K)) (pv 0) pe_int (fun _ _ => rfl)) (pe_gr T.c_LOOKS) (by rfl))))))) (pss_one (ps_ret pe_bl)) pss_nil)
      (pss_cons (ps_set (i := 1) sc_is_thing.nd rfl (Or.inl rfl) (pe_ix (kIxTab (K := K) (w := w)) (pe_gr T.c_LOOKS) (pe_ix (kIx (K := K)) (pv 0) pe_int (fun _ _ => rfl)) (fun _ _ => rfl)))
      (pss_one (ps_ret (pe_callA (i := 1) (S := looksS K) (looks_held c_is_letter c_is_echo c_is_answer c_is_goer T) (hr.mono (by decide)) rfl (.inl rfl) (pa_cons (pv 0) pa_nil))))))), ?_⟩)
  · obtain ⟨G, L, v, d, rfl, _⟩ := h
    rfl
  · obtain ⟨G, L, v, d, rfl, sh, hd, hs, k⟩ := h
    have k0 := k G H (Same.refl _) sh
    walk_at "ww"
    refine o_isi (kit_tuple d) (sh.dq hd) ?_
    walk_at "ww"
    cases ht : isTy "tuple" d with
    | false => walk_at "ww"; exact w_kb (by cases d <;> first | rfl | cases ht) k0
    | true =>
      obtain ⟨a, xs, ds, rfl, rfl, ha, hds⟩ := dq_tup hd ht
      walk_at "ww"
      refine w_nT sh fun l G1 H1 s1 e1 sh1 => ?_
      have k1 := k G1 H1 s1 sh1
      refine o_eqT0 (sh1.sqT (sqT_mono s1 ha)) (sh1.sqT (.inl (.inl e1))) ?_
      walk_at "ww"
      cases xs with
      | nil =>
        obtain rfl := dqAll_nil hds
        walk_at "ww"
        exact k1
      | cons x xs =>
        obtain ⟨d0, es, rfl, h0, hes⟩ := dqAll_cons hds
        refine if_f ?_
        walk_at "ww"
        refine o_ixT (sh1.sqT (sqT_mono s1 ha)) at0 ?_
        walk_at "ww"
        refine o_isi (kit_str d0) (sh1.dq (Dqm s1 h0)) ?_
        walk_at "ww"
        cases ht : isTy "str" d0 with
        | false => walk_at "ww"; exact w_kb (by cases d0 <;> first | rfl | cases ht) k1
        | true =>
          obtain ⟨z, rfl, rfl⟩ := dq_str h0 ht
          walk_at "ww"
          refine o_ixT (sh1.sqT (sqT_mono s1 ha)) at0 ?_
          walk_at "ww"
          refine o_ninTab T.t_LOOKS ?_
          walk_at "ww"
          rcases looks_in (K := K) nd z with ⟨hn, hf⟩ | ⟨f, φ, hy, hS, hf⟩
          · rw [hn]
            refine if_t ?_
            walk_at "ww"
            exact w_kb (hf es) k1
          · rw [hy]
            refine if_f ?_
            walk_at "ww"
            refine o_ixT (sh1.sqT (sqT_mono s1 ha)) at0 ?_
            walk_at "ww"
            refine o_ixTab T.t_LOOKS hy ?_
            walk_at "ww"
            refine w_callA rfl hS ?_
            walk_at "ww"
            refine w_Tt sh1 (sqT_mono s1 ha) (dqAll_mono s1 _ _ hds) hs fun G2 H2 s2 sh2 => ?_
            exact w_kb (hf es) (k G2 H2 (s1.trans s2) sh2)
end
end W
namespace W
open PySem PySem.Spec PyProof.Rows L2 WB TL
local macro_rules | `(tactic| walk_at "w") => `(tactic| first
  | ((with_reducible refine' w_var ?h1 ?h2); (case h1 => exact rfl))
  | with_reducible refine w_c ?_
  | with_reducible refine w_op ?_
  | with_reducible refine w_cons ?_
  | with_reducible refine w_nil ?_
  | with_reducible refine w_seq ?_
  | with_reducible refine w_asg ?_
  | with_reducible refine w_name ?_
  | with_reducible refine w_ret ?_
  | with_reducible refine w_ifS ?_
  | with_reducible refine w_test ?_
  | with_reducible refine w_call ?_
  | with_reducible refine w_cb ?_
  | with_reducible refine w_un ?_
  | with_reducible refine w_tup ?_
  | with_reducible refine w_lst ?_
  | with_reducible refine w_B ?_
  | with_reducible refine w_and ?_
  | with_reducible refine w_or ?_
  | with_reducible refine w_not ?_
  | with_reducible refine w_andV ?_
  | with_reducible refine w_orV ?_
  | with_reducible refine w_notV ?_
  | with_reducible refine w_if ?_
  | with_reducible refine w_next ?_
  | with_reducible refine w_retN ?_
  | with_reducible refine w_drop ?_
  | with_reducible refine w_gsub ?_
  | with_reducible refine w_chain ?_
  | with_reducible refine w_sl ?_
  | with_reducible refine w_noPart ?_
  | with_reducible refine w_part ?_
  | with_reducible refine w_bm ?_
  | with_reducible refine w_bm0 ?_
  | with_reducible refine bl_ex ?_
  | with_reducible refine int_ex ?_
  | with_reducible refine if_t ?_
  | with_reducible refine if_f ?_
  | with_reducible refine if_nt ?_
  | with_reducible refine if_nf ?_
  | with_reducible refine o_I0 ?_
  | with_reducible refine o_U ?_)
local macro_rules | `(tactic| walk_at "ww") => `(tactic| repeat walk_at "w")
local macro_rules | `(tactic| walk_at "w") => `(tactic| first
  | with_reducible refine w_lc ?_
  | with_reducible refine w_for ?_
  | with_reducible refine w_rng1 ?_
  | with_reducible refine w_rng2 ?_
  | with_reducible refine w_iStr ?_
  | with_reducible refine w_iStr' ?_
  | with_reducible refine w_iList ?_
  | with_reducible refine w_iTup ?_
  | with_reducible refine w_yes ?_
  | with_reducible refine w_tm1 ?_
  | with_reducible refine str_ty ?_
  | with_reducible refine nx_mk ?_
  | with_reducible refine rt_mk ?_
  | with_reducible refine bk_mk ?_
  | with_reducible refine ct_mk ?_)
local macro_rules | `(tactic| walk_at "w") => `(tactic| first
  | with_reducible refine w_enumT ?_
  | with_reducible refine w_dnew ?_
  | with_reducible refine w_gcons ?_
  | with_reducible refine w_gnil ?_
  | with_reducible refine w_lenSetT ?_
  | with_reducible refine o_reprB ?_)

section
variable {P : Program} {w : World} {K : PySem.W.Frag} {mg : Str → Option Value} {base : Heap}
theorem ok_lpot {f : Addr} {fd : FuncData} (F : FnP K "_law_pot" s_lpot f fd) (T : Txt K w mg) : FnOk P w K mg base CX0 2 f fd P_lpot (spPot K) := by
  refine F.ok sc_lpot (fun vs H Q E h => ?_) (fun cdv A outer s H vs Q E hr h => ⟨_, (PSs.nox (pss_cons (ps_set (i := 2) sc_lpot.nd rfl (Or.inl rfl) (pe_ifExp (pt_cmpR op_lt (pv 1) (pe_callB (kLen (K := K)) (by rfl) T.len (by decide +kernel) (pa_cons (pv 0) pa_nil)) (nomark _)) (pe_ix (kIx (K := K)) (pv 0) (pv 1) (fun _ _ => rfl)) pe_int))
      (pss_one (ps_ret (pe_lst (pa_cons (pe_callB (kMax2 rfl) (by rfl) T.max (by decide +kernel) (pa_cons pe_int (pa_cons (pe_op op_sub (pe_callB kAbs (by rfl) T.abs (by decide +kernel) (pa_cons (pv 2) pa_nil)) (pe_op op_pow pe_int pe_int)) pa_nil))) (pa_cons (pe_op op_add (pe_op op_add (pe_op op_mod (pe_callB kAbs (by rfl) T.abs (by decide +kernel) (pa_cons (pv 2) pa_nil)) pe_int) (pe_op op_mul pe_int (pv 1))) pe_int) pa_nil))))))), ?_⟩)
  · obtain ⟨G, L, s0, ns, k, rfl, _⟩ := h
    rfl
  · obtain ⟨G, L, s0, ns, k, rfl, sh, hs, hk0, hk1, q⟩ := h
    have fin : ∀ c : Int, tRet (tLst (tCons (tCB rMax2 (tCons (tC (V.int 0)) (tCons (tOp (rI0 fun i j => V.int (i - j)) (tCB rAbs (tCons (tVar 2) tNil)) (tOp (rI CPow fun i j => V.int (i ^ j.toNat)) (tC (V.int 10)) (tC (V.int 18)))) tNil))) (tCons
        (tOp (rI0 fun i j => V.int (i + j)) (tOp (rI0 fun i j => V.int (i + j)) (tOp (rI (fun _ j => 0 < j) fun i j => V.int (i % j)) (tCB rAbs (tCons (tVar 2) tNil)) (tC (V.int 2147483587))) (tOp (rI CMul fun i j => V.int (i * j)) (tC (V.int 101)) (tVar 1))) (tC (V.int 3))) tNil)))
        { nx := fun x H' => Q V.non H', rt := Q } ((L2.start N_lpot [V.ref s0, V.int k]).set 2 (some (V.int c))) H := by
      intro c
      walk_at "ww"
      refine o_abs ?_
      walk_at "ww"
      refine o_I ⟨by decide, by decide, by decide⟩ ?_
      walk_at "ww"
      refine o_max2 ?_
      walk_at "ww"
      refine o_abs ?_
      walk_at "ww"
      refine o_I (by decide) ?_
      walk_at "ww"
      refine o_I (.inl ⟨by decide, by decide⟩) ?_
      walk_at "ww"
      refine w_nLm sh (fun p H1 sh1 => q p _ _ H1 ⟨?_, ?_, ?_⟩ sh1) (by show 2 ≤ 16777216; decide)
      · split <;> omega
      · have := Int.emod_nonneg (if c < 0 then -c else c) (show (2147483587 : Int) ≠ 0 by decide); omega
      · have := Int.emod_lt_of_pos (if c < 0 then -c else c) (show (0 : Int) < 2147483587 by decide); omega
    walk_at "ww"
    refine o_len (lenL (sh.sqL hs)) ?_
    walk_at "ww"
    refine if_b (fun e => ?_) (fun e => ?_)
    · have hlt : k.toNat < ns.length := by have := of_decide_eq_true e; simp only [List.length_map] at this; omega
      walk_at "ww"
      refine o_ixL (v := .int ns[k.toNat]) (sh.sqL hs) (at_ints hk0 hlt) ?_
      refine w_name ?_
      exact fin _
    · refine w_c ?_
      refine w_name ?_
      exact fin _
theorem ok_lwhole {f : Addr} {fd : FuncData} (F : FnP K "_law_whole" s_lwhole f fd) (T : Txt K w mg) (c_ldigit : Cal P w K mg base CX0 2 "_law_digit" P_ldigit spDigit) : FnOk P w K mg base CX0 3 f fd P_lwhole spWholeN := by
  refine F.ok sc_lwhole (fun vs H Q E h => ?_) (fun cdv A outer s H vs Q E hr h => ⟨_, (PSs.nox (pss_one (ps_ret (pe_op op_add (pv 1) (pe_ix (kIx (K := K)) (pe_lst (pa_cons pe_int (pa_cons (c_ldigit.pe hr rfl (pa_cons (pv 0) (pa_cons pe_int pa_nil))) (pa_cons (c_ldigit.pe hr rfl (pa_cons (pv 0) (pa_cons (pe_op op_sub (pe_op op_pow pe_int pe_int) pe_int) pa_nil))) pa_nil)))) (c_ldigit.pe hr rfl (pa_cons (pv 0) (pa_cons pe_int pa_nil))) (fun _ _ => rfl)))))), ?_⟩)
  · obtain ⟨G, L, p, a, b, m, rfl, _⟩ := h
    rfl
  · obtain ⟨G, L, p, a, b, m, rfl, sh, hb, hm100, k⟩ := h
    walk_at "ww"
    refine w_digit sh hb (by decide) (by decide +kernel) fun d1 a1 b1 H1 l1 u1 hb1 sh1 => ?_
    walk_at "ww"
    refine o_I ⟨by decide, by decide, by decide⟩ ?_
    walk_at "ww"
    refine w_digit sh1 hb1 (by decide) (by decide +kernel) fun d2 a2 b2 H2 l2 u2 hb2 sh2 => ?_
    walk_at "ww"
    refine w_nL sh2 (fun l G1 H3 s1 e1 sh3 => ?_) (by show 3 ≤ 16777216; decide)
    walk_at "ww"
    refine w_digit sh3 hb2 (by decide) (by decide +kernel) fun d3 a3 b3 H4 l3 u3 hb3 sh4 => ?_
    have hm : ∃ i : Int, atI [V.int 0, V.int d1, V.int d2] d3 = some (.int i) ∧ 0 ≤ i ∧ i < 10 ^ 31 := by
      have : d3 = 0 ∨ d3 = 1 ∨ d3 = 2 := by omega
      rcases this with rfl | rfl | rfl
      · exact ⟨0, rfl, by decide, by decide⟩
      · exact ⟨d1, rfl, l1, by omega⟩
      · exact ⟨d2, rfl, l2, Int.lt_trans u2 (by decide +kernel)⟩
    obtain ⟨i, ei, i0, i1⟩ := hm
    refine o_ixL (SqL.of (sh4.same _ _ e1)) ei ?_
    walk_at "ww"
    obtain ⟨n, hn⟩ : ∃ n : Nat, (m : Int) + i = n := ⟨((m : Int) + i).toNat, by omega⟩
    rw [hn]
    exact k _ _ n _ _ s1 sh4 hb3 (by omega) (by have : (10 : Int) ^ 31 + 100 < ((bigN : Nat) : Int) := by decide +kernel
                                                omega)
theorem ok_lword {f : Addr} {fd : FuncData} (F : FnP K "_law_word" s_lword f fd) (T : Txt K w mg) (c_ldigit : Cal P w K mg base CX0 2 "_law_digit" P_ldigit spDigit) : FnOk P w K mg base CX0 3 f fd P_lword spWord := by
  refine F.ok sc_lword (fun vs H Q E h => ?_) (fun cdv A outer s H vs Q E hr h => ⟨_, (PSs.nox (pss_cons (ps_set (i := 1) sc_lword.nd rfl (Or.inr rfl) pe_str)
      (pss_one (ps_ret (kJoin (K := K) pe_str (pe_lc (own := [("_law_k", 2)]) (g := gName 2) (by rfl) sc_lword.nd (pi_range1 (by rfl) T.range (pa_cons (pe_op op_add pe_int (c_ldigit.pe hr rfl (pa_cons (pv 0) (pa_cons (pe_ix (kIx (K := K)) (pe_lst (pa_cons pe_int (pa_cons pe_int (pa_cons pe_int pa_nil)))) (c_ldigit.pe hr rfl (pa_cons (pv 0) (pa_cons pe_int pa_nil))) (fun _ _ => rfl)) pa_nil)))) pa_nil)) (blkOk_by (own := [("_law_k", 2)]) (N := N_lword) (sc := defScope s_lword) (by decide +kernel)) (fun _ _ _ _ _ => (pg_name (i := 2) sc_lword.nd rfl (Or.inl rfl))) (fun _ _ _ _ _ => pts_nil) (fun _ _ _ _ _ => (pe_ix (kIx (K := K)) (pv 1) (c_ldigit.pe hr rfl (pa_cons (pv 0) (pa_cons pe_int pa_nil))) (fun _ _ => rfl))))))))), ?_⟩)
  · obtain ⟨G, L, p, a, b, rfl, _⟩ := h
    rfl
  · obtain ⟨G, L, p, a, b, rfl, sh, hb, k⟩ := h
    walk_at "ww"
    refine w_nL sh fun l G1 H1 s1 e1 sh1 => ?_
    walk_at "ww"
    refine w_digit sh1 hb (by decide) (by decide +kernel) fun d1 a1 b1 H2 d1l d1u hb1 sh2 => ?_
    have hm : ∃ m : Int, atI [V.int 1, V.int 4, V.int 12] d1 = some (.int m) ∧ 0 < m ∧ m ≤ 12 := by
      have : d1 = 0 ∨ d1 = 1 ∨ d1 = 2 := by omega
      rcases this with rfl | rfl | rfl
      · exact ⟨1, rfl, by decide, by decide⟩
      · exact ⟨4, rfl, by decide, by decide⟩
      · exact ⟨12, rfl, by decide, by decide⟩
    obtain ⟨m, em, hm0, hm8⟩ := hm
    refine o_ixL (SqL.of (sh2.same _ _ e1)) em ?_
    walk_at "ww"
    refine w_digit sh2 hb1 hm0 (log2_lt hm0 (by omega)) fun d2 a2 b2 H3 d2l d2u hb2 sh3 => ?_
    walk_at "ww"
    refine w_rng1i (by omega) (by omega) fun n en => ?_
    have hn : 1 ≤ n ∧ n ≤ 12 := by omega
    refine w_lcW walk_range sh3 (fun i acc G' L' => ∃ cs a' b', acc = (cs.map sgn).map V.str ∧ cs.length = i ∧ (∀ c ∈ cs, isLow c = true ∨ isFig c = true) ∧ Same G1 G' ∧ L' = (p, potO a' b') :: L ∧ PotB a' b')
      ⟨[], _, _, rfl, rfl, (fun _ h => by cases h), Same.refl _, rfl, hb2⟩ (fun _ _ _ _ _ _ _ _ => trivial) ?_ ?_
    · rintro D i x H4 H5 acc G2 L2 hi ⟨cs, a3, b3, rfl, hc, hcs, s2, rfl, hb3⟩ sh4 ⟨rfl, rfl⟩
      walk_at "ww"
      refine ⟨rfl, ?_⟩
      walk_at "ww"
      refine w_digit sh4.swap hb3 (by decide) (by decide +kernel) fun d4 a4 b4 H6 d4l d4u hb4 sh5 => ?_
      obtain ⟨c, hc1, hc2⟩ : ∃ c, (tl (Str.ofString "abcdefghijklmnopqrstuvwxyz0123456789"))[d4.toNat]? = some c ∧ (isLow c = true ∨ isFig c = true) := by
        have h36 : d4.toNat < 36 := by omega
        have key : ∀ j : Nat, j < 36 → ∃ c, (tl (Str.ofString "abcdefghijklmnopqrstuvwxyz0123456789"))[j]? = some c ∧ (isLow c || isFig c) = true := by
          intro j hj
          have hl : j < (tl (Str.ofString "abcdefghijklmnopqrstuvwxyz0123456789")).length := by rw [show (tl (Str.ofString "abcdefghijklmnopqrstuvwxyz0123456789")).length = 36 by decide +kernel]; exact hj
          refine ⟨_, List.getElem?_eq_getElem hl, ?_⟩
          have hall : (tl (Str.ofString "abcdefghijklmnopqrstuvwxyz0123456789")).all (fun c => isLow c || isFig c) = true := by decide +kernel
          exact List.all_eq_true.mp hall _ (List.getElem_mem hl)
        obtain ⟨c, h1, h2⟩ := key _ h36
        exact ⟨c, h1, by simpa using h2⟩
      refine o_ixS (sz _ (by decide +kernel)) (by rw [show d4 = ((d4.toNat : Nat) : Int) by omega]; exact atI_nat hc1) ?_
      refine lc_end sh5.swap ⟨cs ++ [c], _, _, ?_, ?_, ?_, s2, rfl, hb4⟩ ?_
      · simp
      · simp [hc]
      · intro c' hm
        rcases List.mem_append.mp hm with hm | hm
        · exact hcs c' hm
        · have : c' = c := by simpa using hm
          subst this; exact hc2
      · simp; omega
    rintro D acc G2 L2 H4 ⟨cs, a3, b3, rfl, hc, hcs, s2, rfl, hb3⟩ sh4
    refine o_join (SqL.of sh4.hd) (sum_join0 cs (by omega)) ?_
    rw [join_sgn]
    exact k _ _ _ _ _ (s1.trans s2) sh4.drop hb3 (wordB_iff.mpr ⟨by rw [tl_strOf]; omega, by rw [tl_strOf]; omega, by rw [tl_strOf]; exact fun c hm => by simpa using hcs c hm⟩)
end
end W
namespace W
open PySem PySem.Spec PyProof.Rows L2 WB TL
local macro_rules | `(tactic| walk_at "w") => `(tactic| first
  | ((with_reducible refine' w_var ?h1 ?h2); (case h1 => exact rfl))
  | with_reducible refine w_c ?_
  | with_reducible refine w_op ?_
  | with_reducible refine w_cons ?_
  | with_reducible refine w_nil ?_
  | with_reducible refine w_seq ?_
  | with_reducible refine w_asg ?_
  | with_reducible refine w_name ?_
  | with_reducible refine w_ret ?_
  | with_reducible refine w_ifS ?_
  | with_reducible refine w_test ?_
  | with_reducible refine w_call ?_
  | with_reducible refine w_cb ?_
  | with_reducible refine w_un ?_
  | with_reducible refine w_tup ?_
  | with_reducible refine w_lst ?_
  | with_reducible refine w_B ?_
  | with_reducible refine w_and ?_
  | with_reducible refine w_or ?_
  | with_reducible refine w_not ?_
  | with_reducible refine w_andV ?_
  | with_reducible refine w_orV ?_
  | with_reducible refine w_notV ?_
  | with_reducible refine w_if ?_
  | with_reducible refine w_next ?_
  | with_reducible refine w_retN ?_
  | with_reducible refine w_drop ?_
  | with_reducible refine w_gsub ?_
  | with_reducible refine w_chain ?_
  | with_reducible refine w_sl ?_
  | with_reducible refine w_noPart ?_
  | with_reducible refine w_part ?_
  | with_reducible refine w_bm ?_
  | with_reducible refine w_bm0 ?_
  | with_reducible refine bl_ex ?_
  | with_reducible refine int_ex ?_
  | with_reducible refine if_t ?_
  | with_reducible refine if_f ?_
  | with_reducible refine if_nt ?_
  | with_reducible refine if_nf ?_
  | with_reducible refine o_I0 ?_
  | with_reducible refine o_U ?_)
local macro_rules | `(tactic| walk_at "ww") => `(tactic| repeat walk_at "w")
local macro_rules | `(tactic| walk_at "w") => `(tactic| first
  | with_reducible refine w_lc ?_
  | with_reducible refine w_for ?_
  | with_reducible refine w_rng1 ?_
  | with_reducible refine w_rng2 ?_
  | with_reducible refine w_iStr ?_
  | with_reducible refine w_iStr' ?_
  | with_reducible refine w_iList ?_
  | with_reducible refine w_iTup ?_
  | with_reducible refine w_yes ?_
  | with_reducible refine w_tm1 ?_
  | with_reducible refine str_ty ?_
  | with_reducible refine nx_mk ?_
  | with_reducible refine rt_mk ?_
  | with_reducible refine bk_mk ?_
  | with_reducible refine ct_mk ?_)
local macro_rules | `(tactic| walk_at "w") => `(tactic| first
  | with_reducible refine w_enumT ?_
  | with_reducible refine w_dnew ?_
  | with_reducible refine w_gcons ?_
  | with_reducible refine w_gnil ?_
  | with_reducible refine w_lenSetT ?_
  | with_reducible refine o_reprB ?_)

section
variable {P : Program} {w : World} {K : PySem.W.Frag} {mg : Str → Option Value} {base : Heap}
theorem nd2 {ys : List Str} (h : (ys.length : Int) = 2) : ∃ y1 y2, ys = [y1, y2] := by
  match ys with
  | [] => simp at h
  | [_] => simp at h
  | [a, b] => exact ⟨a, b, rfl⟩
  | _ :: _ :: _ :: _ => simp at h; omega
theorem w_name0 {G H : Hp} {L : List (Addr × HO)} {p u : Addr} {a b : Int} {Q : VK} {E : XK} (sh : SH G ((p, potO a b) :: L) H) (hb : PotB a b) (hu : G u = some (.lst []))
    (k : ∀ (G' H' : Hp) (z : Str) (a' b' : Int), Same G G' → SH G' ((p, potO a' b') :: L) H' → PotB a' b' → nameB z = true → Q (.str z) H') : spName K [.ref p, .ref u] H Q E :=
  ⟨G, L, p, u, a, b, [], rfl, sh, hb, SqL.of hu, (fun _ h => by cases h), by decide, fun G' H' z a' b' s sh hb hz _ => k G' H' z a' b' s sh hb hz⟩
theorem ok_lthing {f : Addr} {fd : FuncData} (F : FnP K "_law_thing" s_lthing f fd) (T : Txt K w mg) (c_ldigit : Cal P w K mg base CX0 2 "_law_digit" P_ldigit spDigit) (c_lname : Cal P w K mg base CX0 3 "_law_name" P_lname (spName K)) (c_lnames : Cal P w K mg base CX0 4 "_law_names" P_lnames spNames) (c_lword : Cal P w K mg base CX0 3 "_law_word" P_lword spWord) (c_lwhole : Cal P w K mg base CX0 3 "_law_whole" P_lwhole spWholeN) : FnOk P w K mg base CX0 5 f fd P_lthing (spThingM K) := by
  refine F.ok sc_lthing (fun vs H Q E h => ?_) (fun cdv A outer s H vs Q E hr h => ⟨_, (PSs.nox (pss_cons (ps_asg (c_lnames.pe hr rfl (pa_cons (pv 0) (pa_cons pe_int (pa_cons (pe_lst pa_nil) pa_nil)))) (kgUnl (K := K) (n := 2) (ts := (gCons (gName 1) ((gCons (gName 2) (gNil))))) rfl (pgs_cons (pg_name (i := 1) sc_lthing.nd rfl (Or.inl rfl)) (pgs_cons (pg_name (i := 2) sc_lthing.nd rfl (Or.inl rfl)) pgs_nil))))
      (pss_cons (ps_set (i := 3) sc_lthing.nd rfl (Or.inl rfl) (pe_ix (kIx (K := K)) (pe_lst (pa_cons pe_str (pa_cons pe_str (pa_cons pe_str (pa_cons pe_str pa_nil))))) (c_ldigit.pe hr rfl (pa_cons (pv 0) (pa_cons pe_int pa_nil))) (fun _ _ => rfl)))
      (pss_cons (ps_set (i := 4) sc_lthing.nd rfl (Or.inl rfl) (c_ldigit.pe hr rfl (pa_cons (pv 0) (pa_cons pe_int pa_nil))))
      (pss_cons (ps_if (pt_cmpR (kEqD (K := K) hr.units) (pv 4) pe_int (nomark _)) (pss_one (ps_ret (pe_tup (pa_cons pe_str (pa_cons (pv 1) (pa_cons (pe_ix (kIx (K := K)) (pe_lst (pa_cons (pv 2) (pa_cons (pv 1) pa_nil))) (c_ldigit.pe hr rfl (pa_cons (pv 0) (pa_cons pe_int pa_nil))) (fun _ _ => rfl)) (pa_cons (c_lword.pe hr rfl (pa_cons (pv 0) pa_nil)) pa_nil))))))) pss_nil)
      (pss_cons (ps_if (pt_cmpR (kEqD (K := K) hr.units) (pv 4) pe_int (nomark _)) (pss_one (ps_ret (pe_tup (pa_cons pe_str (pa_cons (pv 1) (pa_cons (pe_ix (kIx (K := K)) (pe_lst (pa_cons (pv 2) (pa_cons (pv 1) pa_nil))) (c_ldigit.pe hr rfl (pa_cons (pv 0) (pa_cons pe_int pa_nil))) (fun _ _ => rfl)) (pa_cons (pv 3) (pa_cons (pe_tup (pa_cons (c_lname.pe hr rfl (pa_cons (pv 0) (pa_cons (pe_lst pa_nil) pa_nil))) (pa_cons (c_lwhole.pe hr rfl (pa_cons (pv 0) (pa_cons pe_int pa_nil))) pa_nil))) pa_nil)))))))) pss_nil)
      (pss_cons (ps_if (pt_cmpR (kEqD (K := K) hr.units) (pv 4) pe_int (nomark _)) (pss_cons (ps_set (i := 5) sc_lthing.nd rfl (Or.inl rfl) (pe_tup (pa_cons (pe_ix (kIx (K := K)) (pe_lst (pa_cons (pv 2) (pa_cons (pv 1) pa_nil))) (c_ldigit.pe hr rfl (pa_cons (pv 0) (pa_cons pe_int pa_nil))) (fun _ _ => rfl)) (pa_cons (c_lwhole.pe hr rfl (pa_cons (pv 0) (pa_cons pe_int pa_nil))) pa_nil))))
      (pss_one (ps_ret (pe_tup (pa_cons pe_str (pa_cons (pv 1) (pa_cons (pv 3) (pa_cons (pe_tup (pa_cons (c_lname.pe hr rfl (pa_cons (pv 0) (pa_cons (pe_lst pa_nil) pa_nil))) (pa_cons (c_lwhole.pe hr rfl (pa_cons (pv 0) (pa_cons pe_int pa_nil))) pa_nil))) (pa_cons (pv 5) pa_nil))))))))) pss_nil)
      (pss_one (ps_ret (pe_tup (pa_cons pe_str (pa_cons (pv 1) (pa_cons (c_lwhole.pe hr rfl (pa_cons (pv 0) (pa_cons pe_int pa_nil))) (pa_cons (pe_callTy (kTupOf (K := K)) (by rfl) T.tuple (by decide +kernel) (pa_cons (c_lnames.pe hr rfl (pa_cons (pv 0) (pa_cons (c_ldigit.pe hr rfl (pa_cons (pv 0) (pa_cons pe_int pa_nil))) (pa_cons (pe_lst pa_nil) pa_nil)))) pa_nil)) pa_nil)))))))))))))), ?_⟩)
  · obtain ⟨G, L, p, a, b, rfl, _⟩ := h
    rfl
  · obtain ⟨G, L, p, a, b, rfl, sh, hb, k⟩ := h
    walk_at "ww"
    refine w_nL sh (fun l0 G1 H1 s1 e1 sh1 => ?_) (by decide)
    refine ⟨G1, L, p, l0, a, b, 2, [], rfl, sh1, hb, e1, (fun _ h => by cases h), by decide, fun G2 H2 q ys a2 b2 s2 sh2 hq hb2 hl hys _ => ?_⟩
    obtain ⟨z1, z2, rfl⟩ := nd2 hl
    have n1 := (hys z1 (by simp)).1
    have n2 := (hys z2 (by simp)).1
    refine w_unl (xs := [.str z1, .str z2]) (SqL.of (sh2.same _ _ hq)) rfl ?_
    walk_at "ww"
    have s02 := s1.trans s2
    refine w_nL sh2 (fun l3 G3 H3 s3 e3 sh3 => ?_) (by show 4 ≤ 16777216; decide)
    walk_at "ww"
    refine w_digit sh3 hb2 (by decide) (by decide +kernel) fun d4 a4 b4 H4 l4 u4 hb4 sh4 => ?_
    have hso : ∃ z, atI [V.str "came", V.str "short", V.str "ask", V.str "row"] d4 = some (.str z) ∧ z ∈ sortsT := by
      have : d4 = 0 ∨ d4 = 1 ∨ d4 = 2 ∨ d4 = 3 := by omega
      rcases this with rfl | rfl | rfl | rfl
      · exact ⟨"came", rfl, by decide +kernel⟩
      · exact ⟨"short", rfl, by decide +kernel⟩
      · exact ⟨"ask", rfl, by decide +kernel⟩
      · exact ⟨"row", rfl, by decide +kernel⟩
    obtain ⟨so, eso, hso⟩ := hso
    refine o_ixL (SqL.of (sh4.same _ _ e3)) eso ?_
    walk_at "ww"
    refine w_digit sh4 hb4 (by decide) (by decide +kernel) fun d5 a5 b5 H5 l5 u5 hb5 sh5 => ?_
    walk_at "ww"
    have s03 := s02.trans s3
    refine o_eqD (.int _) (.int _) rfl rfl ?_
    walk_at "ww"
    refine if_b (fun e => ?_) (fun e => ?_)
    · walk_at "ww"
      refine w_nL sh5 (fun l6 G6 H6 s6 e6 sh6 => ?_) (by show 2 ≤ 16777216; decide)
      walk_at "ww"
      refine w_digit sh6 hb5 (by decide) (by decide +kernel) fun d7 a7 b7 H7 l7 u7 hb7 sh7 => ?_
      obtain ⟨z3, ez3, hz3⟩ := pick2 (x := z2) (y := z1) l7 u7
      have n3 : nameB z3 = true := by rcases hz3 with rfl | rfl <;> assumption
      refine o_ixL (SqL.of (sh7.same _ _ e6)) ez3 ?_
      walk_at "ww"
      refine ⟨G6, L, p, a7, b7, rfl, sh7, hb7, fun G8 H8 z4 a8 b8 s8 sh8 hb8 hz4 => ?_⟩
      walk_at "ww"
      refine w_nT sh8 (fun t G9 H9 s9 e9 sh9 => ?_) (by show 4 ≤ 16777216; decide)
      exact k G9 H9 t [.str "letter", .str z1, .str z3, .str z4] a8 b8 (((s03.trans s6).trans s8).trans s9) sh9 hb8 (.tup (.inl (.inl e9)) (.cons (.str _) (.cons (.str _) (.cons (.str _) (.cons (.str _) .nil)))))
        (.letter n1 n3 hz4)
    · walk_at "ww"
      refine o_eqD (.int _) (.int _) rfl rfl ?_
      walk_at "ww"
      refine if_b (fun e => ?_) (fun e => ?_)
      · walk_at "ww"
        refine w_nL sh5 (fun l6 G6 H6 s6 e6 sh6 => ?_) (by show 2 ≤ 16777216; decide)
        walk_at "ww"
        refine w_digit sh6 hb5 (by decide) (by decide +kernel) fun d7 a7 b7 H7 l7 u7 hb7 sh7 => ?_
        obtain ⟨z3, ez3, hz3⟩ := pick2 (x := z2) (y := z1) l7 u7
        have n3 : nameB z3 = true := by rcases hz3 with rfl | rfl <;> assumption
        refine o_ixL (SqL.of (sh7.same _ _ e6)) ez3 ?_
        walk_at "ww"
        refine w_nL sh7 (fun l8 G8 H8 s8 e8 sh8 => ?_) (by decide)
        refine w_nil ?_
        refine w_name0 sh8 hb7 e8 fun G9 H9 z4 a9 b9 s9 sh9 hb9 n4 => ?_
        walk_at "ww"
        refine w_whole (m := 0) sh9 hb9 (by decide) fun G10 H10 i a10 b10 s10 sh10 hb10 hi hiu => ?_
        walk_at "ww"
        refine w_nT sh10 (fun t1 G11 H11 s11 e11 sh11 => ?_) (by show 2 ≤ 16777216; decide)
        walk_at "ww"
        refine w_nT sh11 (fun t G12 H12 s12 e12 sh12 => ?_) (by show 5 ≤ 16777216; decide)
        exact k G12 H12 t [.str "echo", .str z1, .str z3, .str so, .tuple [.str z4, .int i]] a10 b10 (((((s03.trans s6).trans s8).trans s9).trans s10).trans (s11.trans s12)) sh12 hb10
          (.tup (.inl (.inl e12)) (.cons (.str _) (.cons (.str _) (.cons (.str _) (.cons (.str _) (.cons (.tup (.inl (.inl (s12 _ _ e11))) (.cons (.str _) (.cons (.int _) .nil))) .nil))))))
          (.echo n1 n3 hso n4 hiu)
      · walk_at "ww"
        refine o_eqD (.int _) (.int _) rfl rfl ?_
        walk_at "ww"
        refine if_b (fun e => ?_) (fun e => ?_)
        · walk_at "ww"
          refine w_nL sh5 (fun l6 G6 H6 s6 e6 sh6 => ?_) (by show 2 ≤ 16777216; decide)
          walk_at "ww"
          refine w_digit sh6 hb5 (by decide) (by decide +kernel) fun d7 a7 b7 H7 l7 u7 hb7 sh7 => ?_
          obtain ⟨z3, ez3, hz3⟩ := pick2 (x := z2) (y := z1) l7 u7
          have n3 : nameB z3 = true := by rcases hz3 with rfl | rfl <;> assumption
          refine o_ixL (SqL.of (sh7.same _ _ e6)) ez3 ?_
          walk_at "ww"
          refine w_whole (m := 1) sh7 hb7 (by decide) fun G8 H8 j a8 b8 s8 sh8 hb8 hj hju => ?_
          walk_at "ww"
          refine w_nT sh8 (fun t0 G9 H9 s9 e9 sh9 => ?_) (by show 2 ≤ 16777216; decide)
          walk_at "ww"
          refine w_nL sh9 (fun l10 G10 H10 s10 e10 sh10 => ?_) (by decide)
          refine w_nil ?_
          refine w_name0 sh10 hb8 e10 fun G11 H11 z4 a11 b11 s11 sh11 hb11 n4 => ?_
          walk_at "ww"
          refine w_whole (m := 0) sh11 hb11 (by decide) fun G12 H12 i a12 b12 s12 sh12 hb12 hi hiu => ?_
          walk_at "ww"
          refine w_nT sh12 (fun t1 G13 H13 s13 e13 sh13 => ?_) (by show 2 ≤ 16777216; decide)
          walk_at "ww"
          refine w_nT sh13 (fun t G14 H14 s14 e14 sh14 => ?_) (by show 5 ≤ 16777216; decide)
          have s9e := (((s10.trans s11).trans s12).trans s13).trans s14
          exact k G14 H14 t [.str "answer", .str z1, .str so, .tuple [.str z4, .int i], .tuple [.str z3, .int j]] a12 b12 ((((s03.trans s6).trans s8).trans s9).trans s9e) sh14 hb12
            (.tup (.inl (.inl e14)) (.cons (.str _) (.cons (.str _) (.cons (.str _) (.cons (.tup (.inl (.inl (s14 _ _ e13))) (.cons (.str _) (.cons (.int _) .nil))) (.cons (.tup (.inl (.inl (s9e _ _ e9))) (.cons (.str _) (.cons (.int _) .nil))) .nil))))))
            (.answer n1 hso n4 hiu n3 hj hju)
        · walk_at "ww"
          refine w_whole (m := 2) sh5 hb5 (by decide) fun G6 H6 i a6 b6 s6 sh6 hb6 hi hiu => ?_
          walk_at "ww"
          refine w_digit sh6 hb6 (by decide) (by decide +kernel) fun d7 a7 b7 H7 l7 u7 hb7 sh7 => ?_
          walk_at "ww"
          refine w_nL sh7 (fun l8 G8 H8 s8 e8 sh8 => ?_) (by decide)
          refine ⟨G8, L, p, l8, a7, b7, d7, [], rfl, sh8, hb7, e8, (fun _ h => by cases h), ⟨l7, by show (0 : Int) + d7 ≤ 26; omega⟩, fun G9 H9 q9 ys9 a9 b9 s9 sh9 hq9 hb9 hl9 hys9 hnd9 => ?_⟩
          walk_at "ww"
          refine o_tupOfL sh9 (SqL.of hq9) fun t1 G10 H10 s10 e10 sh10 => ?_
          walk_at "ww"
          refine w_nT sh10 (fun t G11 H11 s11 e11 sh11 => ?_) (by show 4 ≤ 16777216; decide)
          exact k G11 H11 t [.str "goer", .str z1, .int i, .tuple (ys9.map PyData.str)] a9 b9 ((((s03.trans s6).trans s8).trans s9).trans (s10.trans s11)) sh11 hb9
            (.tup (.inl (.inl e11)) (.cons (.str _) (.cons (.str _) (.cons (.int _) (.cons (.tup (.inl (.inl (s11 _ _ e10))) (dp_strs _)) .nil)))))
            (.goer n1 hi hiu (fun z hz => (hys9 z hz).1) hnd9 (by omega))
end
end W
namespace W
open PySem PySem.Spec PyProof.Rows L2 WB TL

section
variable {P : Program} {w : World} {K : PySem.W.Frag} {mg : Str → Option Value} {base : Heap}

theorem bs_tuple {d : PyData} (h : isTy "tuple" d = false) : flatD [d] = [d] := by
  cases d <;> first | rfl | cases h
theorem flat_app : ∀ ds es : List PyData, flatD (ds ++ es) = flatD ds ++ flatD es
  | [], _ => rfl
  | d :: ds, es => by
    have ih := flat_app ds es
    cases d with
    | tuple xs => show xs ++ flatD (ds ++ es) = (xs ++ flatD ds) ++ flatD es; rw [ih, List.append_assoc]
    | _ => exact congrArg (List.cons _) ih
theorem dpAll_app {G : Hp} : ∀ {xs ys : List V} {ds es : List PyData}, DpAll K G xs ds → DpAll K G ys es → DpAll K G (xs ++ ys) (ds ++ es)
  | _, _, _, _, .nil, h => h
  | _, _, _, _, .cons a b, h => .cons a (dpAll_app b h)
theorem dpAll_len {G : Hp} : ∀ {xs : List V} {ds : List PyData}, DpAll K G xs ds → xs.length = ds.length
  | _, _, .nil => rfl
  | _, _, .cons _ b => congrArg Nat.succ (dpAll_len b)
theorem dpAll_get {G : Hp} : ∀ {xs : List V} {ds : List PyData} {i : Nat} {x : V}, DpAll K G xs ds → xs[i]? = some x → ∃ d, ds[i]? = some d ∧ Dp K G x d
  | _, _, 0, _, .cons a _, h => by cases h; exact ⟨_, rfl, a⟩
  | _, _, i + 1, _, .cons _ b, h => dpAll_get (i := i) b (by simpa using h)
theorem dp_tup {G : Hp} {v : V} {d : PyData} (h : Dp K G v d) (t : isTy "tuple" d = true) : ∃ a xs ds, d = .tuple ds ∧ v = .ref a ∧ SqT K G a xs ∧ DpAll K G xs ds := by
  cases h with
  | tup h1 h2 => exact ⟨_, _, _, rfl, rfl, h1, h2⟩
  | _ => exact absurd t (by simp [isTy, isTyN, tyName])
theorem flat_take {ds : List PyData} {i : Nat} {d : PyData} (h : ds[i]? = some d) : flatD (ds.take (i + 1)) = flatD (ds.take i) ++ flatD [d] := by
  rw [List.take_add_one, h, flat_app]; rfl
theorem flat_le : ∀ (ds : List PyData) (i : Nat), (flatD (ds.take i)).length ≤ (flatD ds).length := fun ds i => by
  have e : ds = ds.take i ++ ds.drop i := (List.take_append_drop i ds).symm
  have : flatD ds = flatD (ds.take i) ++ flatD (ds.drop i) := by rw [← flat_app, ← e]
  rw [this, List.length_append]; omega
theorem part_str {G H : Hp} {x : V} {d : PyData} {Q : VK} (h : Dp K G x d) (p : PartD d) (q : Q (.str (textOf d)) H) : rStrP [x] H Q := by
  cases p with
  | str _ _ _ => cases h; exact .inl ⟨_, rfl, q⟩
  | num hn => cases h; exact .inr ⟨_, rfl, num_log hn, q⟩
theorem ok_thing_text {f : Addr} {fd : FuncData} (F : FnP K "thing_text" s_thing_text f fd) (T : Txt K w mg) : FnOk P w K mg base CX0 2 f fd P_thing_text (spText K) := by
  refine F.ok sc_thing_text (fun vs H Q E h => ?_) (fun cdv A outer s H vs Q E hr h => ⟨_, (PSs.nox (pss_cons (ps_set (i := 1) sc_thing_text.nd rfl (Or.inl rfl) (pe_lst pa_nil))
      (pss_cons (ps_for PassesOwn.never rfl (kiTup (K := K) (pv 0)) (pg_name (i := 2) sc_thing_text.nd rfl (Or.inl rfl)) (pss_one (ps_expr (kBm (K := K) PySem.F.plainAttrs_list PySem.F.slot_list_extend PySem.F.type_list_extend (kExtendA (K := K)) (pv 1) (pa_cons (pe_ifExp (pt_val (pe_callB (kIsi (K := K)) (by rfl) T.isinstance (by decide +kernel) (pa_cons (pv 2) (pa_cons (pe_ty (T := "tuple") T.tuple (by decide +kernel)) pa_nil)))) (pv 2) (pe_lst (pa_cons (pv 2) pa_nil))) pa_nil)))))
      (pss_one (ps_ret (kJoin (K := K) pe_str (pe_lc (own := [("part", 2)]) (g := gName 2) (by rfl) sc_thing_text.nd (kiList (K := K) (pv 1)) (blkOk_by (own := [("part", 2)]) (N := N_thing_text) (sc := defScope s_thing_text) (by decide +kernel)) (fun _ _ _ _ _ => (pg_name (i := 2) sc_thing_text.nd rfl (Or.inl rfl))) (fun _ _ _ _ _ => pts_nil) (fun _ _ _ _ _ => (pe_callTy kStrP (by rfl) T.str (by decide +kernel) (pa_cons (pv 2) pa_nil)))))))))), ?_⟩)
  · obtain ⟨G, L, t, ds, rfl, _⟩ := h
    rfl
  · obtain ⟨G, L, t, ds, rfl, sh, hd, hm, k⟩ := h
    obtain ⟨t', xs, ds', e1, e2, ht, hxs⟩ := dp_tup hd rfl
    cases e1; cases e2
    have hlen := dpAll_len hxs
    have few := hm.few
    walk_at "ww"
    refine w_nLm sh (fun l H1 sh1 => ?_) (by decide)
    walk_at "ww"
    refine w_iTup' (sh1.sqT ht) ?_
    refine w_forW walk_tup sh1 (fun i σ G' L' => ∃ (v : Option V) (ys : List V), σ = [some (.ref t), some (.ref l), v] ∧ L' = (l, .lst ys) :: L ∧ DpAll K G' ys (flatD (ds.take i)) ∧ Same G G') ⟨_, _, rfl, rfl, .nil, Same.refl _⟩
      (fun i σ' G' L' H' _ ⟨_, _, _, _, _, s⟩ sh' => sh'.sqT (sqT_mono s ht)) ?_ ?_
    · rintro i x σ H2 H3 G2 L2 hi ⟨v, ys, rfl, rfl, hys, s2⟩ sh2 ⟨rfl, hx⟩
      obtain ⟨d, hdi, dx⟩ := dpAll_get hxs hx
      have ef := flat_take hdi
      have fl := flat_le ds (i + 1)
      rw [ef, List.length_append] at fl
      have yl := dpAll_len hys
      walk_at "ww"
      refine ⟨.inl ⟨rfl, _, SqL.of sh2.hd⟩, ?_⟩
      walk_at "ww"
      refine o_isi (kit_tuple d) (sh2.dq (Dqm s2 (dq_of _ _ dx))) ?_
      walk_at "ww"
      cases ht2 : isTy "tuple" d with
      | true =>
        obtain ⟨b, us, es, rfl, rfl, hb, hus⟩ := dp_tup dx ht2
        have e2 : flatD [.tuple es] = es := by show es ++ [] = es; rw [List.append_nil]
        rw [e2] at ef fl
        have ul := dpAll_len hus
        walk_at "ww"
        refine o_extT sh2.hd (sh2.sqT (sqT_mono s2 hb)) (by omega) ?_
        walk_at "ww"
        exact for_end (sh2.put _) ⟨_, ys ++ us, rfl, rfl, by rw [ef]; exact dpAll_app hys (dpAll_mono s2 _ _ hus), s2⟩
      | false =>
        rw [bs_tuple ht2] at ef fl
        simp only [List.length_cons, List.length_nil] at fl
        walk_at "ww"
        refine w_nLm sh2 (fun q H4 sh3 => ?_) (by show 1 ≤ 16777216; decide)
        refine w_nil ?_
        refine o_extL sh3.swap.hd sh3.hd (by simp only [List.length_cons, List.length_nil]; omega) ?_
        walk_at "ww"
        exact for_end (sh3.swap.put _).swap.drop ⟨_, ys ++ [x], rfl, rfl, by rw [ef]; exact dpAll_app hys (.cons (Dpm s2 dx) .nil), s2⟩
    · rintro σ G2 L2 H2 ⟨v, ys, rfl, rfl, hys, s2⟩ sh2
      rw [hlen, List.take_length] at hys
      have yl := dpAll_len hys
      walk_at "ww"
      refine w_iList' (SqL.of sh2.hd) ?_
      have sf := sh2.freeze
      have s3 := s2.trans (same_upd (o := .lst ys) sh2.gnone)
      refine w_lcW walk_list sf (fun i acc G' L' => acc = (((flatD ds).take i).map textOf).map V.str ∧ G' = upd G2 l (.lst ys) ∧ L' = L) ⟨by simp, rfl, rfl⟩ (fun i acc G' L' H' _ ⟨_, e, _⟩ sh' => by subst e; exact SqL.of (sh'.same _ _ upd_same)) ?_ ?_
      · rintro D i x H3 H4 acc G3 L3 hi ⟨rfl, rfl, rfl⟩ sh3 ⟨rfl, hx⟩
        obtain ⟨d, hdi, dx⟩ := dpAll_get hys hx
        walk_at "ww"
        refine ⟨rfl, ?_⟩
        walk_at "ww"
        refine part_str dx (hm.parts d (List.mem_of_getElem? hdi)) ?_
        refine lc_end sh3 ⟨?_, rfl, rfl⟩ (by simp only [List.length_map, List.length_take]; omega)
        rw [List.take_add_one, hdi, List.map_append, List.map_append]; rfl
      · rintro D acc G3 L3 H3 ⟨rfl, rfl, rfl⟩ sh3
        have e1 : (flatD ds).take ys.length = flatD ds := by rw [yl]; exact List.take_length
        rw [e1] at sh3
        refine o_join (ys := wordsT ds) (SqL.of sh3.hd) (Nat.le_trans hm.sum (by decide)) ?_
        exact k _ _ s3 sh3.drop
theorem ok_number_of {f : Addr} {fd : FuncData} (F : FnP K "number_of" s_number_of f fd) (T : Txt K w mg) : FnOk P w K mg base CX0 2 f fd P_number_of spNum := by
  refine F.ok sc_number_of (fun vs H Q E h => ?_) (fun cdv A outer s H vs Q E hr h => ⟨_, (PSs.nox (pss_cons (ps_if (PW.pt (pw_or (pt_cmpR (kEqD (K := K) hr.units) (pv 0) pe_str (nomark _)) (pw_or (pt_cmpR op_gt (pe_callB (kLen (K := K)) (by rfl) T.len (by decide +kernel) (pa_cons (pv 0) pa_nil)) (pe_gi T.c_MOST_FIGURES) (nomark _)) (pw_or1 (pt_not (pt_val (pe_callB (kAll (K := K) rfl) (by rfl) T.all (by decide +kernel) (pa_cons (pe_lc (own := [("sign", 1)]) (g := gName 1) (by rfl) sc_number_of.nd (pi_str (pv 0)) (blkOk_by (own := [("sign", 1)]) (N := N_number_of) (sc := defScope s_number_of) (by decide +kernel)) (fun _ _ _ _ _ => (pg_name (i := 1) sc_number_of.nd rfl (Or.inl rfl))) (fun _ _ _ _ _ => pts_nil) (fun _ _ _ _ _ => (pe_cmpR kInSg (pv 1) (pe_gs T.c_FIGURES) (by rfl)))) pa_nil)))))))) (pss_one (ps_ret (pe_gi T.c_NO_NUMBER))) pss_nil)
      (pss_one (ps_ret (pe_callTy kIntS (by rfl) T.int (by decide +kernel) (pa_cons (pv 0) pa_nil)))))), ?_⟩)
  · obtain ⟨G, L, n, rfl, _⟩ := h
    rfl
  · obtain ⟨G, L, n, rfl, sh, hn, k⟩ := h
    have hl := num_len hn
    have hne := numL_ne n
    walk_at "ww"
    refine o_eqD (.str _) (.str _) ?_ (by decide +kernel) ?_
    · have hs : smD (.str (numT n)) = true := by
        simp only [smD, Bool.and_eq_true, decide_eq_true_eq, List.all_eq_true]
        refine ⟨by omega, fun c hc => ?_⟩
        rw [tl_num] at hc
        have := numL_digits n c hc
        omega
      exact shaped_str hs
    have e0 : PyData.eqv (.str (numT n)) (.str "") = false := by
      simp only [PyData.eqv, beq_eq_false_iff_ne]
      intro q
      have := congrArg tl q
      rw [tl_num] at this
      exact hne this
    rw [e0]
    walk_at "ww"
    refine o_len (lenS (by omega)) ?_
    walk_at "ww"
    rw [decide_eq_false (show ¬ ((numT n).length : Int) > 4000 by omega)]
    walk_at "ww"
    refine w_lcW walk_str sh (fun i acc G' L' => acc = (List.replicate i true).map V.bl ∧ G' = G ∧ L' = L) ⟨rfl, rfl, rfl⟩ (fun _ _ _ _ _ _ _ _ => trivial) ?_ ?_
    · rintro D i x H1 H2 acc G1 L1 hi ⟨rfl, rfl, rfl⟩ sh1 ⟨rfl, c, hc1, rfl⟩
      have hci : c ∈ tl (numT n) := by
        have : (tl (numT n))[i]? = some c := by simpa [tl] using hc1
        exact List.mem_of_getElem? this
      rw [tl_num] at hci
      have hc2 := numL_digits n c hci
      walk_at "ww"
      refine ⟨rfl, ?_⟩
      walk_at "ww"
      refine o_inSg ?_
      have hf : c ∈ tl (Str.ofString "0123456789") := by
        have : ∀ c : Nat, 48 ≤ c → c ≤ 57 → c ∈ tl (Str.ofString "0123456789") := by
          intro c h1 h2
          have : c = 48 ∨ c = 49 ∨ c = 50 ∨ c = 51 ∨ c = 52 ∨ c = 53 ∨ c = 54 ∨ c = 55 ∨ c = 56 ∨ c = 57 := by omega
          rcases this with rfl | rfl | rfl | rfl | rfl | rfl | rfl | rfl | rfl | rfl <;> decide +kernel
        exact this c hc2.1 hc2.2
      rw [decide_eq_true hf]
      have hsz : (numT n).cps.size ≤ 32 := hl
      refine lc_end sh1 ⟨?_, rfl, rfl⟩ (by simp only [List.length_map, List.length_replicate]; omega)
      rw [List.replicate_succ', List.map_append]; rfl
    · rintro D acc G1 L1 H1 ⟨rfl, rfl, rfl⟩ sh1
      walk_at "ww"
      refine o_all (bs := List.replicate (numT n).cps.size true) (SqL.of sh1.hd) ?_
      have e2 : (List.replicate (numT n).cps.size true).all id = true := by simp
      rw [e2]
      walk_at "ww"
      exact ⟨_, _, rfl, int_num (by have := numL_len (n := n) (k := 32) (by decide) hn; omega), by omega, k _ _ (Same.refl _) sh1.drop⟩
theorem ok_pair_of {f : Addr} {fd : FuncData} (F : FnP K "pair_of" s_pair_of f fd) (T : Txt K w mg) (c_number_of : Cal P w K mg base CX0 2 "number_of" P_number_of spNum) : FnOk P w K mg base CX0 3 f fd P_pair_of (spPairOf K) := by
  refine F.ok sc_pair_of (fun vs H Q E h => ?_) (fun cdv A outer s H vs Q E hr h => ⟨_, (PSs.nox (pss_one (ps_ret (pe_tup (pa_cons (pe_ix (kIx (K := K)) (pv 0) pe_int (fun _ _ => rfl)) (pa_cons (c_number_of.pe hr rfl (pa_cons (pe_ix (kIx (K := K)) (pv 0) pe_int (fun _ _ => rfl)) pa_nil)) pa_nil)))))), ?_⟩)
  · obtain ⟨G, L, l, z, n, rfl, _⟩ := h
    rfl
  · obtain ⟨G, L, l, z, n, rfl, sh, hl, hn, k⟩ := h
    walk_at "ww"
    refine o_ixL (sh.sqL hl) at0 ?_
    walk_at "ww"
    refine o_ixL (sh.sqL hl) at1 ?_
    walk_at "ww"
    refine ⟨G, L, n, rfl, sh, hn, fun G1 H1 s1 sh1 => ?_⟩
    walk_at "ww"
    refine w_nT sh1 (fun t G2 H2 s2 e2 sh2 => ?_) (by show 2 ≤ 16777216; decide)
    exact k _ _ t (s1.trans s2) sh2 (.tup (.inl (.inl e2)) (.cons (.str _) (.cons (.int _) .nil)))
end
end W
namespace W
open PySem PySem.Spec PyProof.Rows L2 WB TL

section
variable {P : Program} {w : World} {K : PySem.W.Frag} {mg : Str → Option Value} {base : Heap}

theorem is_letterM {ds : List PyData} {ws : List Str} (h : MadeT ds) (e : wordsT ds = Str.ofString "letter" :: ws) : ∃ a b w, ds = [.str "letter", .str a, .str b, .str w] ∧ ws = [a, b, w] := by
  cases h <;> simp only [wordsT, flatD, List.append_nil, List.map_cons, List.map_nil, List.cons_append, List.nil_append, textOf, words_tuple] at e <;> injection e with e0 e1
  · exact ⟨_, _, _, rfl, e1.symm⟩
  all_goals exact absurd e0 (by decide +kernel)
theorem is_echoM {ds : List PyData} {ws : List Str} (h : MadeT ds) (e : wordsT ds = Str.ofString "echo" :: ws) : ∃ (a b s n : Str) (i : Nat), i < bigN ∧ ds = [.str "echo", .str a, .str b, .str s, .tuple [.str n, .int i]] ∧ ws = [a, b, s, n, numT i] := by
  cases h <;> simp only [wordsT, flatD, List.append_nil, List.map_cons, List.map_nil, List.cons_append, List.nil_append, textOf, words_tuple] at e <;> injection e with e0 e1
  · exact absurd e0 (by decide +kernel)
  · exact ⟨_, _, _, _, _, ‹_›, rfl, e1.symm⟩
  all_goals exact absurd e0 (by decide +kernel)
theorem is_answerM {ds : List PyData} {ws : List Str} (h : MadeT ds) (e : wordsT ds = Str.ofString "answer" :: ws) : ∃ (a s n m : Str) (i j : Nat), i < bigN ∧ j < bigN ∧ ds = [.str "answer", .str a, .str s, .tuple [.str n, .int i], .tuple [.str m, .int j]] ∧ ws = [a, s, n, numT i, m, numT j] := by
  cases h <;> simp only [wordsT, flatD, List.append_nil, List.map_cons, List.map_nil, List.cons_append, List.nil_append, textOf, words_tuple] at e <;> injection e with e0 e1
  · exact absurd e0 (by decide +kernel)
  · exact absurd e0 (by decide +kernel)
  · rename_i hi hm h1 hj
    exact ⟨_, _, _, _, _, _, hi, hj, rfl, e1.symm⟩
  · exact absurd e0 (by decide +kernel)
theorem is_goerM {ds : List PyData} {ws : List Str} (h : MadeT ds) (e : wordsT ds = Str.ofString "goer" :: ws) : ∃ (a : Str) (i : Nat) (zs : List Str), i < bigN ∧ zs.length ≤ 26 ∧ ds = [.str "goer", .str a, .int i, .tuple (zs.map PyData.str)] ∧ ws = a :: numT i :: zs := by
  cases h <;> simp only [wordsT, flatD, List.append_nil, List.map_cons, List.map_nil, List.cons_append, List.nil_append, textOf, words_tuple] at e <;> injection e with e0 e1
  · exact absurd e0 (by decide +kernel)
  · exact absurd e0 (by decide +kernel)
  · exact absurd e0 (by decide +kernel)
  · exact ⟨_, _, _, ‹_›, ‹_›, rfl, e1.symm⟩
theorem w_num {G H : Hp} {L : List (Addr × HO)} {n : Nat} {Q : VK} {E : XK} (sh : SH G L H) (hn : n < bigN) (k : ∀ (G' H' : Hp), Same G G' → SH G' L H' → Q (.int n) H') : spNum [.str (numT n)] H Q E := ⟨G, L, n, rfl, sh, hn, k⟩
theorem w_pairOf {G H : Hp} {L : List (Addr × HO)} {l : Addr} {z : Str} {n : Nat} {Q : VK} {E : XK} (sh : SH G L H) (hl : SqL K G l [.str z, .str (numT n)]) (hn : n < bigN)
    (k : ∀ (G' H' : Hp) (t : Addr), Same G G' → SH G' L H' → Dp K G' (.ref t) (.tuple [.str z, .int n]) → Q (.ref t) H') : spPairOf K [.ref l] H Q E := ⟨G, L, l, z, n, rfl, sh, hl, hn, k⟩
theorem ok_letter_of {f : Addr} {fd : FuncData} (F : FnP K "letter_of" s_letter_of f fd) (T : Txt K w mg) : FnOk P w K mg base CX0 4 f fd P_letter_of (spMaker K "letter") := by
  refine F.ok sc_letter_of (fun vs H Q E h => ?_) (fun cdv A outer s H vs Q E hr h => ⟨_, (PSs.nox (pss_one (ps_ret (pe_op (kCatA (K := K)) (pe_tup (pa_cons (pe_gs T.c_LETTER) pa_nil)) (pe_callTy (kTupOf (K := K)) (by rfl) T.tuple (by decide +kernel) (pa_cons (pv 0) pa_nil)))))), ?_⟩)
  · obtain ⟨G, L, l, ds, ws, rfl, _⟩ := h
    rfl
  · obtain ⟨G, L, l, ds, ws, rfl, sh, hm, he, hl, k⟩ := h
    obtain ⟨a, b, w', rfl, rfl⟩ := is_letterM hm he
    walk_at "ww"
    refine w_nT sh (fun t1 G1 H1 s1 e1 sh1 => ?_) (by show 1 ≤ 16777216; decide)
    walk_at "ww"
    refine o_tupOfL sh1 (s1.seq hl) fun t2 G2 H2 s2 e2 sh2 => ?_
    refine o_catT sh2 (.inl (.inl (s2 _ _ e1))) (.inl (.inl e2)) (by show 4 ≤ 16777216; decide) fun t3 G3 H3 s3 h3 sh3 => ?_
    exact k _ _ t3 ((s1.trans s2).trans s3) sh3 (.tup h3 (.cons (.str _) (.cons (.str _) (.cons (.str _) (.cons (.str _) .nil)))))
theorem ok_echo_of {f : Addr} {fd : FuncData} (F : FnP K "echo_of" s_echo_of f fd) (T : Txt K w mg) (c_pair_of : Cal P w K mg base CX0 3 "pair_of" P_pair_of (spPairOf K)) : FnOk P w K mg base CX0 4 f fd P_echo_of (spMaker K "echo") := by
  refine F.ok sc_echo_of (fun vs H Q E h => ?_) (fun cdv A outer s H vs Q E hr h => ⟨_, (PSs.nox (pss_cons (ps_asg (pv 0) (kgStar (K := K) (n := 4) (i := 3) (ts := (gCons (gName 1) ((gCons (gName 2) ((gCons (gName 3) ((gCons (gName 4) (gNil))))))))) rfl (pgs_cons (pg_name (i := 1) sc_echo_of.nd rfl (Or.inl rfl)) (pgs_cons (pg_name (i := 2) sc_echo_of.nd rfl (Or.inl rfl)) (pgs_cons (pg_name (i := 3) sc_echo_of.nd rfl (Or.inl rfl)) (pgs_star (pg_name (i := 4) sc_echo_of.nd rfl (Or.inl rfl)) pgs_nil))))))
      (pss_one (ps_ret (pe_tup (pa_cons (pe_gs T.c_ECHO) (pa_cons (pv 1) (pa_cons (pv 2) (pa_cons (pv 3) (pa_cons (c_pair_of.pe hr rfl (pa_cons (pv 4) pa_nil)) pa_nil)))))))))), ?_⟩)
  · obtain ⟨G, L, l, ds, ws, rfl, _⟩ := h
    rfl
  · obtain ⟨G, L, l, ds, ws, rfl, sh, hm, he, hl, k⟩ := h
    obtain ⟨a, b, so, n, i, hi, rfl, rfl⟩ := is_echoM hm he
    walk_at "ww"
    refine w_gstar (xs := [.str a, .str b, .str so, .str n, .str (numT i)]) sh (sh.sqL hl) (by decide) (by show 4 ≤ 6; decide) fun p G1 H1 s1 e1 sh1 => ?_
    refine w_gcons (xs := [.str b, .str so, .ref p]) ?_
    walk_at "ww"
    refine w_pairOf (z := n) sh1 (SqL.of e1) hi fun G2 H2 t2 s2 sh2 d2 => ?_
    walk_at "ww"
    refine w_nT sh2 (fun t3 G3 H3 s3 e3 sh3 => ?_) (by show 5 ≤ 16777216; decide)
    exact k _ _ t3 ((s1.trans s2).trans s3) sh3 (.tup (.inl (.inl e3)) (.cons (.str _) (.cons (.str _) (.cons (.str _) (.cons (.str _) (.cons (Dpm s3 d2) .nil))))))
theorem ok_answer_of {f : Addr} {fd : FuncData} (F : FnP K "answer_of" s_answer_of f fd) (T : Txt K w mg) (c_pair_of : Cal P w K mg base CX0 3 "pair_of" P_pair_of (spPairOf K)) : FnOk P w K mg base CX0 4 f fd P_answer_of (spMaker K "answer") := by
  refine F.ok sc_answer_of (fun vs H Q E h => ?_) (fun cdv A outer s H vs Q E hr h => ⟨_, (PSs.nox (pss_cons (ps_asg (pv 0) (kgStar (K := K) (n := 3) (i := 2) (ts := (gCons (gName 1) ((gCons (gName 2) ((gCons (gName 3) (gNil))))))) rfl (pgs_cons (pg_name (i := 1) sc_answer_of.nd rfl (Or.inl rfl)) (pgs_cons (pg_name (i := 2) sc_answer_of.nd rfl (Or.inl rfl)) (pgs_star (pg_name (i := 3) sc_answer_of.nd rfl (Or.inl rfl)) pgs_nil)))))
      (pss_one (ps_ret (pe_tup (pa_cons (pe_gs T.c_ANSWER) (pa_cons (pv 1) (pa_cons (pv 2) (pa_cons (c_pair_of.pe hr rfl (pa_cons (pe_slice (kSlL (K := K)) (pv 3) po_none (po_some pe_int)) pa_nil)) (pa_cons (c_pair_of.pe hr rfl (pa_cons (pe_slice (kSlL (K := K)) (pv 3) (po_some pe_int) po_none) pa_nil)) pa_nil)))))))))), ?_⟩)
  · obtain ⟨G, L, l, ds, ws, rfl, _⟩ := h
    rfl
  · obtain ⟨G, L, l, ds, ws, rfl, sh, hm, he, hl, k⟩ := h
    obtain ⟨a, so, n, m, i, j, hi, hj, rfl, rfl⟩ := is_answerM hm he
    walk_at "ww"
    refine w_gstar (xs := [.str a, .str so, .str n, .str (numT i), .str m, .str (numT j)]) sh (sh.sqL hl) (by decide) (by show 3 ≤ 7; decide) fun p G1 H1 s1 e1 sh1 => ?_
    refine w_gcons (xs := [.str so, .ref p]) ?_
    walk_at "ww"
    have e1' : G1 p = some (.lst [.str n, .str (numT i), .str m, .str (numT j)]) := e1
    refine o_slL sh1 (SqL.of (sh1.same _ _ e1')) [.str n, .str (numT i)] rfl fun p2 G2 H2 s2 e2 sh2 => ?_
    walk_at "ww"
    refine w_pairOf (z := n) sh2 (SqL.of e2) hi fun G3 H3 t3 s3 sh3 d3 => ?_
    walk_at "ww"
    refine o_slL sh3 (SqL.of (sh3.same _ _ (s3 _ _ (s2 _ _ e1')))) [.str m, .str (numT j)] rfl fun p4 G4 H4 s4 e4 sh4 => ?_
    walk_at "ww"
    refine w_pairOf (z := m) sh4 (SqL.of e4) hj fun G5 H5 t5 s5 sh5 d5 => ?_
    walk_at "ww"
    refine w_nT sh5 (fun t6 G6 H6 s6 e6 sh6 => ?_) (by show 5 ≤ 16777216; decide)
    have s36 := (s4.trans s5).trans s6
    exact k _ _ t6 (((s1.trans s2).trans s3).trans s36) sh6 (.tup (.inl (.inl e6)) (.cons (.str _) (.cons (.str _) (.cons (.str _) (.cons (Dpm s36 d3) (.cons (Dpm s6 d5) .nil))))))
theorem ok_goer_of {f : Addr} {fd : FuncData} (F : FnP K "goer_of" s_goer_of f fd) (T : Txt K w mg) (c_number_of : Cal P w K mg base CX0 2 "number_of" P_number_of spNum) : FnOk P w K mg base CX0 4 f fd P_goer_of (spMaker K "goer") := by
  refine F.ok sc_goer_of (fun vs H Q E h => ?_) (fun cdv A outer s H vs Q E hr h => ⟨_, (PSs.nox (pss_cons (ps_asg (pv 0) (kgStar (K := K) (n := 3) (i := 2) (ts := (gCons (gName 1) ((gCons (gName 2) ((gCons (gName 3) (gNil))))))) rfl (pgs_cons (pg_name (i := 1) sc_goer_of.nd rfl (Or.inl rfl)) (pgs_cons (pg_name (i := 2) sc_goer_of.nd rfl (Or.inl rfl)) (pgs_star (pg_name (i := 3) sc_goer_of.nd rfl (Or.inl rfl)) pgs_nil)))))
      (pss_one (ps_ret (pe_tup (pa_cons (pe_gs T.c_GOER) (pa_cons (pv 1) (pa_cons (c_number_of.pe hr rfl (pa_cons (pv 2) pa_nil)) (pa_cons (pe_callTy (kTupOf (K := K)) (by rfl) T.tuple (by decide +kernel) (pa_cons (pv 3) pa_nil)) pa_nil))))))))), ?_⟩)
  · obtain ⟨G, L, l, ds, ws, rfl, _⟩ := h
    rfl
  · obtain ⟨G, L, l, ds, ws, rfl, sh, hm, he, hl, k⟩ := h
    obtain ⟨a, i, zs, hi, hz, rfl, rfl⟩ := is_goerM hm he
    walk_at "ww"
    refine w_gstar (xs := .str a :: .str (numT i) :: zs.map V.str) sh (sh.sqL hl) (by decide) (by simp only [List.length_cons]; omega) fun p G1 H1 s1 e1 sh1 => ?_
    have e5 : List.take ((V.str a :: V.str (numT i) :: zs.map V.str).length + 1 - 3) (List.drop 2 (V.str a :: V.str (numT i) :: zs.map V.str)) = zs.map V.str := by
      simp only [List.length_cons, List.drop_succ_cons, List.drop_zero]
      exact List.take_of_length_le (by omega)
    rw [e5] at e1
    have e6 : List.take 2 (V.str a :: V.str (numT i) :: zs.map V.str) ++ [V.ref p] ++ List.drop ((V.str a :: V.str (numT i) :: zs.map V.str).length + 1 - 3) (List.drop 2 (V.str a :: V.str (numT i) :: zs.map V.str)) = [V.str a, V.str (numT i), V.ref p] := by
      simp only [List.length_cons, List.drop_succ_cons, List.drop_zero, List.take_succ_cons, List.take_zero]
      rw [List.drop_of_length_le (by omega)]; rfl
    rw [e6]
    walk_at "ww"
    refine w_num sh1 hi fun G2 H2 s2 sh2 => ?_
    walk_at "ww"
    refine o_tupOfL sh2 (SqL.of (s2 _ _ e1)) fun t3 G3 H3 s3 e3 sh3 => ?_
    walk_at "ww"
    refine w_nT sh3 (fun t4 G4 H4 s4 e4 sh4 => ?_) (by show 4 ≤ 16777216; decide)
    exact k _ _ t4 (((s1.trans s2).trans s3).trans s4) sh4 (.tup (.inl (.inl e4)) (.cons (.str _) (.cons (.str _) (.cons (.int _) (.cons (.tup (.inl (.inl (s4 _ _ e3))) (dp_strs zs)) .nil)))))
end
end W
namespace W
open PySem PySem.Spec PyProof.Rows L2 WB TL

section
variable {P : Program} {w : World} {K : PySem.W.Frag} {mg : Str → Option Value} {base : Heap}

def makersS (K : PySem.W.Frag) (f : Addr) : Option Sp :=
  if f = He.ga K "letter_of" then some (spMaker K "letter") else if f = He.ga K "echo_of" then some (spMaker K "echo") else if f = He.ga K "answer_of" then some (spMaker K "answer") else if f = He.ga K "goer_of" then some (spMaker K "goer") else none
theorem makers_held (c1 : Cal P w K mg base CX0 4 "letter_of" P_letter_of (spMaker K "letter")) (c2 : Cal P w K mg base CX0 4 "echo_of" P_echo_of (spMaker K "echo")) (c3 : Cal P w K mg base CX0 4 "answer_of" P_answer_of (spMaker K "answer")) (c4 : Cal P w K mg base CX0 4 "goer_of" P_goer_of (spMaker K "goer")) (T : Txt K w mg) :
    ∀ f sp, makersS K f = some sp → Held P w K mg base 4 f sp := by
  intro f sp h
  unfold makersS at h
  split at h
  · rename_i e; cases h; subst e; exact held_of c1 T.g_letter_of
  · split at h
    · rename_i e; cases h; subst e; exact held_of c2 T.g_echo_of
    · split at h
      · rename_i e; cases h; subst e; exact held_of c3 T.g_answer_of
      · split at h
        · rename_i e; cases h; subst e; exact held_of c4 T.g_goer_of
        · cases h
abbrev ApartM (K : PySem.W.Frag) : Prop := He.ga K "echo_of" ≠ He.ga K "letter_of" ∧ He.ga K "answer_of" ≠ He.ga K "letter_of" ∧ He.ga K "goer_of" ≠ He.ga K "letter_of" ∧ He.ga K "answer_of" ≠ He.ga K "echo_of" ∧ He.ga K "goer_of" ≠ He.ga K "echo_of" ∧ He.ga K "goer_of" ≠ He.ga K "answer_of"
theorem makers_at (nd : ApartM K) {ds : List PyData} (h : MadeT ds) : ∃ (s : Str) (ws : List Str) (f : Addr) (lo hi : Int), wordsT ds = s :: ws ∧
    ([("letter", .ref (He.ga K "letter_of")), ("echo", .ref (He.ga K "echo_of")), ("answer", .ref (He.ga K "answer_of")), ("goer", .ref (He.ga K "goer_of"))] : List (Str × V)).lookup s = some (.ref f) ∧
    ([("letter", .int 3), ("echo", .int 5), ("answer", .int 6), ("goer", .int 2)] : List (Str × V)).lookup s = some (.int lo) ∧ ([("letter", .int 3), ("echo", .int 5), ("answer", .int 6), ("goer", .int 6000)] : List (Str × V)).lookup s = some (.int hi) ∧
    makersS K f = some (spMaker K s) ∧ lo ≤ (ws.length : Int) ∧ (ws.length : Int) ≤ hi := by
  obtain ⟨n1, n2, n3, n4, n5, n6⟩ := nd
  unfold makersS
  cases h with
  | letter => exact ⟨"letter", _, He.ga K "letter_of", 3, 3, rfl, rfl, rfl, rfl, by rw [if_pos rfl], by show (3 : Int) ≤ 3; decide, by show (3 : Int) ≤ 3; decide⟩
  | echo => exact ⟨"echo", _, He.ga K "echo_of", 5, 5, rfl, rfl, rfl, rfl, by rw [if_neg n1, if_pos rfl], by show (5 : Int) ≤ 5; decide, by show (5 : Int) ≤ 5; decide⟩
  | answer => exact ⟨"answer", _, He.ga K "answer_of", 6, 6, rfl, rfl, rfl, rfl, by rw [if_neg n2, if_neg n4, if_pos rfl], by show (6 : Int) ≤ 6; decide, by show (6 : Int) ≤ 6; decide⟩
  | @goer a i zs _ _ _ _ _ hl =>
    refine ⟨"goer", a :: numT i :: zs, He.ga K "goer_of", 2, 6000, ?_, rfl, rfl, rfl, by rw [if_neg n3, if_neg n5, if_neg n6, if_pos rfl], by simp only [List.length_cons]; omega, by simp only [List.length_cons]; omega⟩
    simp only [wordsT, flatD, List.append_nil, List.map_cons, textOf, words_tuple]
theorem w_made {G H : Hp} {L : List (Addr × HO)} {s : Str} {l : Addr} {ds : List PyData} {ws : List Str} {Q : VK} {E : XK} (sh : SH G L H) (hm : MadeT ds) (he : wordsT ds = s :: ws) (hl : SqL K G l (ws.map V.str))
    (k : ∀ (G' H' : Hp) (t : Addr), Same G G' → SH G' L H' → Dp K G' (.ref t) (.tuple ds) → Q (.ref t) H') : spMaker K s [.ref l] H Q E := ⟨G, L, l, ds, ws, rfl, sh, hm, he, hl, k⟩
theorem ok_thing_of {f : Addr} {fd : FuncData} (F : FnP K "thing_of" s_thing_of f fd) (T : Txt K w mg) (c_letter_of : Cal P w K mg base CX0 4 "letter_of" P_letter_of (spMaker K "letter")) (c_echo_of : Cal P w K mg base CX0 4 "echo_of" P_echo_of (spMaker K "echo")) (c_answer_of : Cal P w K mg base CX0 4 "answer_of" P_answer_of (spMaker K "answer")) (c_goer_of : Cal P w K mg base CX0 4 "goer_of" P_goer_of (spMaker K "goer")) (c_is_thing : Cal P w K mg base CX0 6 "is_thing" P_is_thing (spT1 K thingD)) (c_thing_text : Cal P w K mg base CX0 2 "thing_text" P_thing_text (spText K)) (nd : ApartM K) : FnOk P w K mg base CX0 7 f fd P_thing_of (spRead K) := by
  refine F.ok sc_thing_of (fun vs H Q E h => ?_) (fun cdv A outer s H vs Q E hr h => ⟨_, (PSs.nox (pss_cons (ps_if (pt_not (pt_val (pe_callB (kIsi (K := K)) (by rfl) T.isinstance (by decide +kernel) (pa_cons (pv 0) (pa_cons (pe_ty (T := "str") T.str (by decide +kernel)) pa_nil))))) (pss_one ps_never) pss_nil)
      (pss_cons (ps_asg (kSplit (pv 0) pe_str) (kgStar (K := K) (n := 2) (i := 1) (ts := (gCons (gName 1) ((gCons (gName 2) (gNil))))) rfl (pgs_cons (pg_name (i := 1) sc_thing_of.nd rfl (Or.inl rfl)) (pgs_star (pg_name (i := 2) sc_thing_of.nd rfl (Or.inl rfl)) pgs_nil))))
      (pss_cons (ps_if (PW.pt (pw_or (pt_cmpR (kNotInTab (K := K) (w := w)) (pv 1) (pe_gr T.c_MAKERS) (by rfl)) (pw_or1 (pt_not (pt_chain op_le op_le (pe_ix (kIxTab (K := K) (w := w)) (pe_gr T.c_LEAST_WORDS) (pv 1) (fun _ _ => rfl)) (pe_callB (kLen (K := K)) (by rfl) T.len (by decide +kernel) (pa_cons (pv 2) pa_nil)) (pe_ix (kIxTab (K := K) (w := w)) (pe_gr T.c_MOST_WORDS) (pv 1) (fun _ _ => rfl))))))) (pss_one ps_never) pss_nil)
      (pss_cons (ps_set (i := 3) sc_thing_of.nd rfl (Or.inl rfl) (pe_ix (kIxTab (K := K) (w := w)) (pe_gr T.c_MAKERS) (pv 1) (fun _ _ => rfl)))
      (pss_cons (ps_set (i := 4) sc_thing_of.nd rfl (Or.inl rfl) (pe_callA (i := 3) (S := makersS K) (makers_held c_letter_of c_echo_of c_answer_of c_goer_of T) (hr.mono (by decide)) rfl (.inl rfl) (pa_cons (pv 2) pa_nil)))
      (pss_cons (ps_if (PW.pt (pw_or (pt_not (pt_val (c_is_thing.pe hr rfl (pa_cons (pv 4) pa_nil)))) (pw_or1 (pt_cmpR (kNeD (K := K) hr.units) (c_thing_text.pe hr rfl (pa_cons (pv 4) pa_nil)) (pv 0) (nomark _))))) (pss_one ps_never) pss_nil)
      (pss_one (ps_ret (pv 4)))))))))), ?_⟩)
  · obtain ⟨G, L, ds, rfl, _⟩ := h
    rfl
  · obtain ⟨G, L, ds, rfl, sh, hm, k⟩ := h
    have hl := hm.len
    obtain ⟨s0, ws, mf, lo, hi, ew, e1, e2, e3, e4, h1, h2⟩ := makers_at nd hm
    walk_at "ww"
    refine o_isi (kit_str (.str (textT ds))) (.str _) ?_
    walk_at "ww"
    refine if_f ?_
    walk_at "ww"
    refine o_split (a := textT ds) (b := " ") sh (by decide +kernel) (by omega) fun p G1 H1 s1 q1 sh1 => ?_
    rw [hm.split, ew] at q1
    refine w_gstar (xs := .str s0 :: ws.map V.str) sh1 (SqL.of (sh1.same _ _ q1)) (by decide) (by simp only [List.length_cons]; omega) fun p2 G2 H2 s2 q2 sh2 => ?_
    have e5 : List.take ((V.str s0 :: ws.map V.str).length + 1 - 2) (List.drop 1 (V.str s0 :: ws.map V.str)) = ws.map V.str := by
      simp only [List.length_cons, List.drop_succ_cons, List.drop_zero]
      exact List.take_of_length_le (by omega)
    rw [e5] at q2
    have e6 : List.take 1 (V.str s0 :: ws.map V.str) ++ [V.ref p2] ++ List.drop ((V.str s0 :: ws.map V.str).length + 1 - 2) (List.drop 1 (V.str s0 :: ws.map V.str)) = [V.str s0, V.ref p2] := by
      simp only [List.length_cons, List.drop_succ_cons, List.drop_zero, List.take_succ_cons, List.take_zero]
      rw [List.drop_of_length_le (by omega)]; rfl
    rw [e6]
    walk_at "ww"
    refine o_ninTab T.t_MAKERS ?_
    rw [e1]
    refine bl_ex ?_
    refine if_f ?_
    walk_at "ww"
    refine o_ixTab T.t_LEAST e2 ?_
    walk_at "ww"
    refine o_len (lenL (SqL.of (sh2.same _ _ q2))) ?_
    rw [List.length_map]
    walk_at "ww"
    rw [decide_eq_true h1]
    walk_at "ww"
    refine o_ixTab T.t_MOST e3 ?_
    walk_at "ww"
    rw [decide_eq_true h2]
    walk_at "ww"
    refine o_ixTab T.t_MAKERS e1 ?_
    walk_at "ww"
    refine w_callA rfl e4 ?_
    walk_at "ww"
    refine w_made sh2 hm ew (SqL.of q2) fun G3 H3 t s3 sh3 d3 => ?_
    walk_at "ww"
    refine w_T1 sh3 (dq_of _ _ d3) hm.sm fun G4 H4 s4 sh4 => ?_
    rw [hm.thing]
    walk_at "ww"
    refine w_text sh4 (Dpm s4 d3) hm fun G5 H5 s5 sh5 => ?_
    walk_at "ww"
    refine o_neD (.str _) (.str _) (shaped_str hm.smT) (shaped_str hm.smT) ?_
    have e7 : PyData.eqv (.str (textT ds)) (.str (textT ds)) = true := by simp [PyData.eqv]
    rw [e7]
    walk_at "ww"
    exact k _ _ t ((((s1.trans s2).trans s3).trans s4).trans s5) sh5 (Dpm (s4.trans s5) d3)
end
end W
namespace W
open PySem PySem.Spec PyProof.Rows L2 WB TL

section
variable {P : Program} {w : World} {K : PySem.W.Frag} {mg : Str → Option Value} {base : Heap}

theorem ok_ltext {f : Addr} {fd : FuncData} (F : FnP K "_law_text" s_ltext f fd) (T : Txt K w mg) : FnOk P w K mg base CX0 2 f fd P_ltext (spText K) := by
  refine F.ok sc_ltext (fun vs H Q E h => ?_) (fun cdv A outer s H vs Q E hr h => ⟨_, (PSs.nox (pss_cons (ps_set (i := 1) sc_ltext.nd rfl (Or.inl rfl) (pe_lst pa_nil))
      (pss_cons (ps_for PassesOwn.never rfl (kiTup (K := K) (pv 0)) (pg_name (i := 2) sc_ltext.nd rfl (Or.inl rfl)) (pss_one (ps_if (pt_val (pe_callB (kIsi (K := K)) (by rfl) T.isinstance (by decide +kernel) (pa_cons (pv 2) (pa_cons (pe_ty (T := "tuple") T.tuple (by decide +kernel)) pa_nil)))) (pss_one (ps_set (i := 1) sc_ltext.nd rfl (Or.inl rfl) (pe_op op_cat (pv 1) (pe_lc (own := [("_law_one", 3)]) (g := gName 3) (by rfl) sc_ltext.nd (kiTup (K := K) (pv 2)) (blkOk_by (own := [("_law_one", 3)]) (N := N_ltext) (sc := defScope s_ltext) (by decide +kernel)) (fun _ _ _ _ _ => (pg_name (i := 3) sc_ltext.nd rfl (Or.inl rfl))) (fun _ _ _ _ _ => pts_nil) (fun _ _ _ _ _ => (pe_callTy kStrP (by rfl) T.str (by decide +kernel) (pa_cons (pv 3) pa_nil))))))) (pss_one (ps_expr (kBm (K := K) PySem.F.plainAttrs_list PySem.F.slot_list_append PySem.F.type_list_append mt_append (pv 1) (pa_cons (pe_callTy kStrP (by rfl) T.str (by decide +kernel) (pa_cons (pv 2) pa_nil)) pa_nil)))))))
      (pss_one (ps_ret (kJoin (K := K) pe_str (pv 1))))))), ?_⟩)
  · obtain ⟨G, L, t, ds, rfl, _⟩ := h
    rfl
  · obtain ⟨G, L, t, ds, rfl, sh, hd, hm, k⟩ := h
    obtain ⟨t', xs, ds', e1, e2, ht, hxs⟩ := dp_tup hd rfl
    cases e1; cases e2
    have hlen := dpAll_len hxs
    have few := hm.few
    walk_at "ww"
    refine w_nLm sh (fun l H1 sh1 => ?_) (by decide)
    walk_at "ww"
    refine w_iTup' (sh1.sqT ht) ?_
    refine w_forW walk_tup sh1 (fun i σ G' L' => ∃ (v1 v2 : Option V) (l : Addr), σ = [some (.ref t), some (.ref l), v1, v2] ∧ L' = (l, .lst (((flatD (ds.take i)).map textOf).map V.str)) :: L ∧ Same G G') ⟨_, _, _, rfl, rfl, Same.refl _⟩
      (fun i σ' G' L' H' _ ⟨_, _, _, _, _, s⟩ sh' => sh'.sqT (sqT_mono s ht)) ?_ ?_
    · rintro i x σ H2 H3 G2 L2 hi ⟨v1, v2, l, rfl, rfl, s2⟩ sh2 ⟨rfl, hx⟩
      obtain ⟨d, hdi, dx⟩ := dpAll_get hxs hx
      have ef := flat_take hdi
      have fl := flat_le ds (i + 1)
      rw [ef, List.length_append] at fl
      walk_at "ww"
      refine o_isi (kit_tuple d) (sh2.dq (Dqm s2 (dq_of _ _ dx))) ?_
      walk_at "ww"
      cases ht2 : isTy "tuple" d with
      | true =>
        obtain ⟨b, us, es, rfl, rfl, hb, hus⟩ := dp_tup dx ht2
        have e2 : flatD [.tuple es] = es := by show es ++ [] = es; rw [List.append_nil]
        rw [e2] at ef fl
        have ul := dpAll_len hus
        have parts : ∀ d ∈ es, PartD d := fun d hd => hm.parts d (by
          have e3 : ds = ds.take i ++ .tuple es :: ds.drop (i + 1) := by
            have h1 := (List.getElem?_eq_some_iff.mp hdi)
            obtain ⟨h1, h2⟩ := h1
            rw [← h2, List.getElem_cons_drop h1, List.take_append_drop]
          rw [e3, flat_app]
          exact List.mem_append.mpr (.inr (List.mem_append.mpr (.inl hd))))
        walk_at "ww"
        refine w_iTup' (sh2.sqT (sqT_mono s2 hb)) ?_
        refine w_lcW walk_tup sh2 (fun j acc G' L' => acc = ((es.take j).map textOf).map V.str ∧ G' = G2 ∧ L' = (l, .lst (((flatD (ds.take i)).map textOf).map V.str)) :: L) ⟨by simp, rfl, rfl⟩ (fun j acc G' L' H' _ ⟨_, e, _⟩ sh' => by subst e; exact sh'.sqT (sqT_mono s2 hb)) ?_ ?_
        · rintro D j y H3 H4 acc G3 L3 hj ⟨rfl, rfl, rfl⟩ sh3 ⟨rfl, hy⟩
          obtain ⟨e, hej, ey⟩ := dpAll_get hus hy
          walk_at "ww"
          refine ⟨rfl, ?_⟩
          walk_at "ww"
          refine part_str (Dpm s2 ey) (parts e (List.mem_of_getElem? hej)) ?_
          refine lc_end sh3 ⟨?_, rfl, rfl⟩ (by simp only [List.length_map, List.length_take]; omega)
          rw [List.take_add_one, hej, List.map_append, List.map_append]; rfl
        · rintro D acc G3 L3 H3 ⟨rfl, rfl, rfl⟩ sh3
          have e1 : es.take us.length = es := by rw [ul]; exact List.take_length
          rw [e1] at sh3
          refine o_catM sh3 sh3.swap.hd sh3.hd (by simp only [List.length_map]; omega) fun q H4 sh4 => ?_
          walk_at "ww"
          refine for_end (sh4.perm (.cons _ (.swap ..))).swap.drop.swap.drop ⟨_, _, q, rfl, ?_, s2⟩
          rw [ef, List.map_append, List.map_append]
      | false =>
        rw [bs_tuple ht2] at ef fl
        simp only [List.length_cons, List.length_nil] at fl
        have pd : PartD d := hm.parts d (by
          have e3 : ds = ds.take i ++ d :: ds.drop (i + 1) := by
            obtain ⟨h1, h2⟩ := List.getElem?_eq_some_iff.mp hdi
            rw [← h2, List.getElem_cons_drop h1, List.take_append_drop]
          have e4 : flatD ds = flatD (ds.take i) ++ (flatD [d] ++ flatD (ds.drop (i + 1))) := by
            rw [← flat_app, ← flat_app]; exact congrArg flatD e3
          rw [e4, bs_tuple ht2]; simp)
        walk_at "ww"
        refine ⟨.inl ⟨rfl, _, SqL.of sh2.hd⟩, ?_⟩
        walk_at "ww"
        refine part_str (Dpm s2 dx) pd ?_
        walk_at "ww"
        refine o_append sh2.hd (szl _ (by simp only [List.length_map]; omega)) ?_
        walk_at "ww"
        refine for_end (sh2.put _) ⟨_, _, l, rfl, ?_, s2⟩
        rw [ef, List.map_append, List.map_append]; rfl
    · rintro σ G2 L2 H2 ⟨v1, v2, l, rfl, rfl, s2⟩ sh2
      rw [hlen, List.take_length] at sh2
      walk_at "ww"
      refine o_join (ys := wordsT ds) (SqL.of sh2.hd) (Nat.le_trans hm.sum (by decide)) ?_
      exact k _ _ s2 sh2.drop
def spRightM (K : PySem.W.Frag) : Sp := fun vs H Q _ => ∃ (G : Hp) (L : List (Addr × HO)) (t : Addr) (ds : List PyData), vs = [.ref t] ∧ SH G L H ∧ Dp K G (.ref t) (.tuple ds) ∧ MadeT ds ∧ ∀ (G' H' : Hp), Same G G' → SH G' L H' → Q (.bl true) H'
theorem w_rightM {G H : Hp} {L : List (Addr × HO)} {t : Addr} {ds : List PyData} {Q : VK} {E : XK} (sh : SH G L H) (hd : Dp K G (.ref t) (.tuple ds)) (hm : MadeT ds) (k : ∀ (G' H' : Hp), Same G G' → SH G' L H' → Q (.bl true) H') : spRightM K [.ref t] H Q E := ⟨G, L, t, ds, rfl, sh, hd, hm, k⟩
theorem w_readM {G H : Hp} {L : List (Addr × HO)} {ds : List PyData} {Q : VK} {E : XK} (sh : SH G L H) (hm : MadeT ds) (k : ∀ (G' H' : Hp) (t : Addr), Same G G' → SH G' L H' → Dp K G' (.ref t) (.tuple ds) → Q (.ref t) H') : spRead K [.str (textT ds)] H Q E := ⟨G, L, ds, rfl, sh, hm, k⟩
theorem ok_lright {f : Addr} {fd : FuncData} (F : FnP K "_law_right" s_lright f fd) (T : Txt K w mg) (c_thing_text : Cal P w K mg base CX0 2 "thing_text" P_thing_text (spText K)) (c_ltext : Cal P w K mg base CX0 2 "_law_text" P_ltext (spText K)) (k_thing_of : CalK P w K mg base CX0 7 "thing_of" P_thing_of 0 ["text"] (fun vs zs => vs ++ zs) (spRead K)) (c_is_thing : Cal P w K mg base CX0 6 "is_thing" P_is_thing (spT1 K thingD)) : FnG P w K mg base CX0 8 f fd P_lright (spRightM K) := by
  refine FunD.okG F sc_lright (fun vs H Q E h => ?_) (fun cdv A outer s H vs Q E hn hr h => ⟨_, (PSs.nox (pss_cons (ps_set (i := 1) sc_lright.nd rfl (Or.inl rfl) (c_thing_text.pe hr rfl (pa_cons (pv 0) pa_nil)))
      (pss_cons (ps_if (PW.pt (pw_or (pt_cmpR (kNeD (K := K) hr.units) (pv 1) (c_ltext.pe hr rfl (pa_cons (pv 0) pa_nil)) (nomark _)) (pw_or1 (pt_not (pt_val (pe_callB (kIsi (K := K)) (by rfl) T.isinstance (by decide +kernel) (pa_cons (pv 1) (pa_cons (pe_ty (T := "str") T.str (by decide +kernel)) pa_nil)))))))) (pss_one (ps_ret pe_bl)) pss_nil)
      (pss_cons (ps_set (i := 2) sc_lright.nd rfl (Or.inl rfl) (k_thing_of.pe0 hr rfl (pk_cons (pv 1) pk_nil)))
      (pss_one (ps_ret (pe_and (pe_cmpR op_eq (pe_callB (kReprD (K := K) hn hr.units) (by rfl) T.repr (by decide +kernel) (pa_cons (pv 2) pa_nil)) (pe_callB (kReprD (K := K) hn hr.units) (by rfl) T.repr (by decide +kernel) (pa_cons (pv 0) pa_nil)) (nomark _)) (pe_one (pe_cmpR op_is_bl (c_is_thing.pe hr rfl (pa_cons (pv 2) pa_nil)) pe_bl (nomark _)))))))))), ?_⟩)
  · obtain ⟨G, L, t, ds, rfl, _⟩ := h
    rfl
  · obtain ⟨G, L, t, ds, rfl, sh, hd, hm, k⟩ := h
    have sw := hm.show
    walk_at "ww"
    refine w_text sh hd hm fun G1 H1 s1 sh1 => ?_
    walk_at "ww"
    refine w_text sh1 (Dpm s1 hd) hm fun G2 H2 s2 sh2 => ?_
    refine o_neD (.str _) (.str _) (shaped_str hm.smT) (shaped_str hm.smT) ?_
    have e7 : PyData.eqv (.str (textT ds)) (.str (textT ds)) = true := by simp [PyData.eqv]
    rw [e7]
    walk_at "ww"
    refine o_isi (kit_str (.str (textT ds))) (.str _) ?_
    walk_at "ww"
    refine if_f ?_
    walk_at "ww"
    refine ⟨rfl, rfl, ?_⟩
    refine w_readM sh2 hm fun G3 H3 t3 s3 sh3 d3 => ?_
    walk_at "ww"
    refine o_reprS (sh3.dp d3) sw ?_
    walk_at "ww"
    refine o_reprS (sh3.dp (Dpm ((s1.trans s2).trans s3) hd)) sw ?_
    refine o_eq rfl ?_
    rw [decide_eq_true rfl]
    walk_at "ww"
    refine w_T1 sh3 (dq_of _ _ d3) hm.sm fun G4 H4 s4 sh4 => ?_
    rw [hm.thing]
    walk_at "ww"
    exact ⟨true, true, rfl, rfl, k _ _ (((s1.trans s2).trans s3).trans s4) sh4⟩
def spLaw (K : PySem.W.Frag) : Sp := fun vs H Q _ => ∃ (a : Addr) (ns : List Int), vs = [.ref a] ∧ SqL K H a (ns.map V.int) ∧ ns.length ≤ 63 ∧ ∀ H', Q (.bl true) H'
/-- what was seen: texts with what was shown -/
def SeenOk (kvs : List (Key × V)) : Prop := ∀ z v, valV kvs (.inr z) = some v → ∃ ds, MadeT ds ∧ z = textT ds ∧ v = .str (PyData.tuple ds).shown
theorem SeenOk.get {kvs : List (Key × V)} (h : SeenOk kvs) {ds : List PyData} (hm : MadeT ds) : (valV kvs (.inr (textT ds))).getD (.str (PyData.tuple ds).shown) = .str (PyData.tuple ds).shown := by
  cases e : valV kvs (.inr (textT ds)) with
  | none => rfl
  | some v =>
    obtain ⟨es, he, e1, rfl⟩ := h _ _ e
    rw [hm.text_inj he e1]; rfl
theorem SeenOk.put {kvs : List (Key × V)} (h : SeenOk kvs) {ds : List PyData} (hm : MadeT ds) : SeenOk (putK kvs (.inr (textT ds)) (.str (PyData.tuple ds).shown)) := by
  intro z v e
  rw [valV_put] at e
  split at e
  · rename_i ez
    cases e
    injection ez with ez
    exact ⟨ds, hm, ez, rfl⟩
  · exact h z v e
theorem ok_law {f : Addr} {fd : FuncData} (F : FnP K "law" s_law f fd) (T : Txt K w mg) (c_lpot : Cal P w K mg base CX0 2 "_law_pot" P_lpot (spPot K)) (c_lthing : Cal P w K mg base CX0 5 "_law_thing" P_lthing (spThingM K)) (k_thing_text : CalK P w K mg base CX0 2 "thing_text" P_thing_text 0 ["thing"] (fun vs zs => vs ++ zs) (spText K)) (c_lright : CalG P w K mg base CX0 8 "_law_right" P_lright (spRightM K)) : FnG P w K mg base CX0 9 f fd P_law (spLaw K) := by
  refine FunD.okG F sc_law (fun vs H Q E h => ?_) (fun cdv A outer s H vs Q E hn hr h => ⟨_, (PSs.nox (pss_cons (ps_set (i := 1) sc_law.nd rfl (Or.inl rfl) pe_dnewK)
      (pss_cons (ps_for PassesOwn.never rfl (pi_range1 (by rfl) T.range (pa_cons (pe_callB (kMax2 rfl) (by rfl) T.max (by decide +kernel) (pa_cons pe_int (pa_cons (pe_callB (kMin2 rfl) (by rfl) T.min (by decide +kernel) (pa_cons pe_int (pa_cons (pe_callB (kLen (K := K)) (by rfl) T.len (by decide +kernel) (pa_cons (pv 0) pa_nil)) pa_nil))) pa_nil))) pa_nil)) (pg_name (i := 2) sc_law.nd rfl (Or.inl rfl)) (pss_cons (ps_set (i := 3) sc_law.nd rfl (Or.inl rfl) (c_lpot.pe hr rfl (pa_cons (pv 0) (pa_cons (pv 2) pa_nil))))
      (pss_one (ps_for PassesOwn.never rfl (pi_range1 (by rfl) T.range (pa_cons pe_int pa_nil)) (pg_name (i := 4) sc_law.nd rfl (Or.inl rfl)) (pss_cons (ps_set (i := 5) sc_law.nd rfl (Or.inl rfl) (c_lthing.pe hr rfl (pa_cons (pv 3) pa_nil)))
      (pss_cons (ps_set (i := 6) sc_law.nd rfl (Or.inl rfl) (k_thing_text.pe0 hr rfl (pk_cons (pv 5) pk_nil)))
      (pss_cons (ps_if (PW.pt (pw_or (pt_not (pt_val (c_lright.pe hn hr rfl (pa_cons (pv 5) pa_nil)))) (pw_or1 (pt_cmpR op_ne (pe_callB (kReprD (K := K) hn hr.units) (by rfl) T.repr (by decide +kernel) (pa_cons (pv 5) pa_nil)) (pe_dget2 (hu_of hr) (pv 1) (pv 6) (pe_callB (kReprD (K := K) hn hr.units) (by rfl) T.repr (by decide +kernel) (pa_cons (pv 5) pa_nil)) ⟨rfl, rfl, rfl, rfl⟩) (nomark _))))) (pss_one (ps_ret pe_bl)) pss_nil)
      (pss_one (ps_dput (hu_of hr) (pv 1) (pv 6) (pe_callB (kReprD (K := K) hn hr.units) (by rfl) T.repr (by decide +kernel) (pa_cons (pv 5) pa_nil)) rfl)))))))))
      (pss_one (ps_ret pe_bl))))), ?_⟩)
  · obtain ⟨a, ns, rfl, _⟩ := h
    rfl
  · obtain ⟨a, ns, rfl, hs, hl, k⟩ := h
    have sh : SH H [] H := SH.refl H
    walk_at "ww"
    refine w_nDm sh fun d H0 sh0 => ?_
    walk_at "ww"
    refine o_len (lenL (sh0.sqL hs)) ?_
    walk_at "ww"
    refine o_min2 ?_
    walk_at "ww"
    refine o_max2 ?_
    walk_at "ww"
    refine w_rng1i (by split <;> omega) (by split <;> split <;> omega) fun n en => ?_
    have hn4 : n ≤ 4 := by
      rw [List.length_map] at en
      split at en <;> split at en <;> omega
    refine w_forW walk_range sh0 (fun i σ G' L' => ∃ (v2 v3 v4 v5 v6 : Option V) (kvs : List (Key × V)), σ = [some (.ref a), some (.ref d), v2, v3, v4, v5, v6] ∧ L' = [(d, .dK kvs)] ∧ SeenOk kvs ∧ kvs.length ≤ 3 * i ∧ Same H G')
      ⟨_, _, _, _, _, [], rfl, rfl, (fun _ _ e => by cases e), Nat.zero_le _, Same.refl _⟩ (fun _ _ _ _ _ _ _ _ => trivial) ?_ ?_
    · rintro i x σ H1 H2 G1 L1 hi ⟨v2, v3, v4, v5, v6, kvs, rfl, rfl, ok1, hk1, s1⟩ sh1 ⟨rfl, rfl⟩
      walk_at "ww"
      refine ⟨G1, [(d, .dK kvs)], a, ns, _, rfl, sh1, s1.seq hs, by omega, by omega, fun p a0 b0 H3 hb0 sh2 => ?_⟩
      walk_at "ww"
      refine w_rng1i (by decide) (by decide) fun n2 en2 => ?_
      have hn3 : n2 = 3 := by omega
      subst hn3
      refine w_forW walk_range sh2 (fun j σ G' L' => ∃ (v4 v5 v6 : Option V) (kvs : List (Key × V)) (a' b' : Int), σ = [some (.ref a), some (.ref d), some (.int (0 + (i : Int))), some (.ref p), v4, v5, v6] ∧ L' = [(p, potO a' b'), (d, .dK kvs)] ∧ PotB a' b' ∧ SeenOk kvs ∧ kvs.length ≤ 3 * i + j ∧ Same H G')
        ⟨_, _, _, kvs, _, _, rfl, rfl, hb0, ok1, hk1, s1⟩ (fun _ _ _ _ _ _ _ _ => trivial) ?_ ?_
      · rintro j x σ H4 H5 G2 L2 hj ⟨v4, v5, v6, kvs2, a1, b1, rfl, rfl, hb1, ok2, hk2, s2⟩ sh3 ⟨rfl, rfl⟩
        walk_at "ww"
        refine ⟨G2, [(d, .dK kvs2)], p, a1, b1, rfl, sh3, hb1, fun G3 H6 t ds a2 b2 s3 sh4 hb2 hd hm => ?_⟩
        have sw := hm.show
        walk_at "ww"
        refine ⟨rfl, rfl, ?_⟩
        refine w_text sh4 hd hm fun G4 H7 s4 sh5 => ?_
        walk_at "ww"
        refine w_rightM sh5 (Dpm s4 hd) hm fun G5 H8 s5 sh6 => ?_
        have hd6 := Dpm (s4.trans s5) hd
        walk_at "ww"
        refine o_reprS (sh6.dp hd6) sw ?_
        walk_at "ww"
        refine o_dg2 sh6.swap.hd ?_
        walk_at "ww"
        refine o_reprS (sh6.dp hd6) sw ?_
        refine o_getd sh6.swap.hd ?_
        rw [ok2.get hm]
        refine o_ne rfl ?_
        rw [decide_eq_true rfl]
        walk_at "ww"
        refine o_reprS (sh6.dp hd6) sw ?_
        walk_at "ww"
        refine o_putd sh6.swap.hd (by omega) ?_
        walk_at "ww"
        refine for_end (sh6.swap.put _).swap ⟨_, _, _, putK kvs2 (.inr (textT ds)) (.str (PyData.tuple ds).shown), a2, b2, rfl, rfl, hb2, ok2.put hm, ?_, ((s2.trans s3).trans s4).trans s5⟩
        have := DSub.putK_len kvs2 (.inr (textT ds)) (.str (PyData.tuple ds).shown)
        omega
      · rintro σ G2 L2 H4 ⟨v4, v5, v6, kvs2, a1, b1, rfl, rfl, hb1, ok2, hk2, s2⟩ sh3
        walk_at "ww"
        exact for_end sh3.drop ⟨_, _, _, _, _, kvs2, rfl, rfl, ok2, by omega, s2⟩
    · rintro σ G1 L1 H1 ⟨v2, v3, v4, v5, v6, kvs, rfl, rfl, ok1, hk1, s1⟩ sh1
      walk_at "ww"
      exact k _
end
end W
end
namespace W
open PySem PySem.Spec PyProof.Rows L2 WB TL
abbrev R : PySem.W.OpenRow := PySem.W.OpenLaw.row PySem.Challenge.rw_walkbox_k15_whole_thing_texts
def names : List PySem.Str := (["WalkError", "NoThing", "LETTERS", "FIGURES", "MOST_LETTERS", "MOST_SIGNS", "is_made_of", "is_name", "is_word", "LETTER", "ECHO", "ANSWER", "GOER", "CAME", "SHORT", "ASK", "ROW", "SORTS", "SECOND_STAY", "is_whole"] : List PySem.Str) ++ (["is_pair", "is_sort", "is_letter", "is_echo", "is_answer", "is_goer", "LOOKS", "is_thing", "MOST_FIGURES", "NO_NUMBER", "thing_text", "number_of", "pair_of", "letter_of", "echo_of", "answer_of", "goer_of", "MAKERS", "LEAST_WORDS", "MOST_WORDS"] : List PySem.Str) ++ (["thing_of", "_law_pot", "_law_digit", "_law_name", "_law_names", "_law_word", "_law_whole", "_law_thing", "_law_text", "_law_right"] : List PySem.Str)
def d_ldigit : He.DefD := ⟨("_law_digit", none), "_law_digit", "_law_digit", defArgs s_ldigit, defBody s_ldigit, defScope s_ldigit, [], []⟩
def d_lname : He.DefD := ⟨("_law_name", none), "_law_name", "_law_name", defArgs s_lname, defBody s_lname, defScope s_lname, [], []⟩
def d_lnames : He.DefD := ⟨("_law_names", none), "_law_names", "_law_names", defArgs s_lnames, defBody s_lnames, defScope s_lnames, [], []⟩
def d_is_made_of : He.DefD := ⟨("is_made_of", none), "is_made_of", "is_made_of", defArgs s_is_made_of, defBody s_is_made_of, defScope s_is_made_of, [], []⟩
def d_is_name : He.DefD := ⟨("is_name", none), "is_name", "is_name", defArgs s_is_name, defBody s_is_name, defScope s_is_name, [], []⟩
def d_is_word : He.DefD := ⟨("is_word", none), "is_word", "is_word", defArgs s_is_word, defBody s_is_word, defScope s_is_word, [], []⟩
def d_is_whole : He.DefD := ⟨("is_whole", none), "is_whole", "is_whole", defArgs s_is_whole, defBody s_is_whole, defScope s_is_whole, [], []⟩
def d_is_pair : He.DefD := ⟨("is_pair", none), "is_pair", "is_pair", defArgs s_is_pair, defBody s_is_pair, defScope s_is_pair, [], []⟩
def d_is_letter : He.DefD := ⟨("is_letter", none), "is_letter", "is_letter", defArgs s_is_letter, defBody s_is_letter, defScope s_is_letter, [], []⟩
def d_is_sort : He.DefD := ⟨("is_sort", none), "is_sort", "is_sort", defArgs s_is_sort, defBody s_is_sort, defScope s_is_sort, [], []⟩
def d_is_echo : He.DefD := ⟨("is_echo", none), "is_echo", "is_echo", defArgs s_is_echo, defBody s_is_echo, defScope s_is_echo, [], []⟩
def d_is_answer : He.DefD := ⟨("is_answer", none), "is_answer", "is_answer", defArgs s_is_answer, defBody s_is_answer, defScope s_is_answer, [], []⟩
def d_is_goer : He.DefD := ⟨("is_goer", none), "is_goer", "is_goer", defArgs s_is_goer, defBody s_is_goer, defScope s_is_goer, [], []⟩
def d_is_thing : He.DefD := ⟨("is_thing", none), "is_thing", "is_thing", defArgs s_is_thing, defBody s_is_thing, defScope s_is_thing, [], []⟩
def d_lpot : He.DefD := ⟨("_law_pot", none), "_law_pot", "_law_pot", defArgs s_lpot, defBody s_lpot, defScope s_lpot, [], []⟩
def d_lwhole : He.DefD := ⟨("_law_whole", none), "_law_whole", "_law_whole", defArgs s_lwhole, defBody s_lwhole, defScope s_lwhole, [], []⟩
def d_lword : He.DefD := ⟨("_law_word", none), "_law_word", "_law_word", defArgs s_lword, defBody s_lword, defScope s_lword, [], []⟩
def d_lthing : He.DefD := ⟨("_law_thing", none), "_law_thing", "_law_thing", defArgs s_lthing, defBody s_lthing, defScope s_lthing, [], []⟩
def d_thing_text : He.DefD := ⟨("thing_text", none), "thing_text", "thing_text", defArgs s_thing_text, defBody s_thing_text, defScope s_thing_text, [], []⟩
def d_number_of : He.DefD := ⟨("number_of", none), "number_of", "number_of", defArgs s_number_of, defBody s_number_of, defScope s_number_of, [], []⟩
def d_pair_of : He.DefD := ⟨("pair_of", none), "pair_of", "pair_of", defArgs s_pair_of, defBody s_pair_of, defScope s_pair_of, [], []⟩
def d_letter_of : He.DefD := ⟨("letter_of", none), "letter_of", "letter_of", defArgs s_letter_of, defBody s_letter_of, defScope s_letter_of, [], []⟩
def d_echo_of : He.DefD := ⟨("echo_of", none), "echo_of", "echo_of", defArgs s_echo_of, defBody s_echo_of, defScope s_echo_of, [], []⟩
def d_answer_of : He.DefD := ⟨("answer_of", none), "answer_of", "answer_of", defArgs s_answer_of, defBody s_answer_of, defScope s_answer_of, [], []⟩
def d_goer_of : He.DefD := ⟨("goer_of", none), "goer_of", "goer_of", defArgs s_goer_of, defBody s_goer_of, defScope s_goer_of, [], []⟩
def d_thing_of : He.DefD := ⟨("thing_of", none), "thing_of", "thing_of", defArgs s_thing_of, defBody s_thing_of, defScope s_thing_of, [], []⟩
def d_ltext : He.DefD := ⟨("_law_text", none), "_law_text", "_law_text", defArgs s_ltext, defBody s_ltext, defScope s_ltext, [], []⟩
def d_lright : He.DefD := ⟨("_law_right", none), "_law_right", "_law_right", defArgs s_lright, defBody s_lright, defScope s_lright, [], []⟩
def d_law : He.DefD := ⟨("law", none), "law", "law", defArgs s_law, defBody s_law, defScope s_law, [], []⟩
def fn : List He.DefD := ([d_ldigit, d_lname, d_lnames, d_is_made_of, d_is_name, d_is_word, d_is_whole, d_is_pair, d_is_letter, d_is_sort, d_is_echo, d_is_answer, d_is_goer, d_is_thing, d_lpot, d_lwhole, d_lword, d_lthing, d_thing_text, d_number_of] : List He.DefD) ++ ([d_pair_of, d_letter_of, d_echo_of, d_answer_of, d_goer_of, d_thing_of, d_ltext, d_lright, d_law] : List He.DefD)
def fa : List He.Fa := ([.free "abs", .free "all", .free "bool", .free "int", .free "isinstance", .free "len", .free "max", .free "min", .free "range", .free "repr", .free "set", .free "str", .free "tuple", .str "LETTERS" "abcdefghijklmnopqrstuvwxyz", .str "FIGURES" "0123456789", .int "MOST_LETTERS" 8, .int "MOST_SIGNS" 12, .str "LETTER" "letter", .str "ECHO" "echo", .str "ANSWER" "answer"] : List He.Fa) ++ ([.str "GOER" "goer", .str "CAME" "came", .str "SHORT" "short", .str "ASK" "ask", .str "ROW" "row", .glo "SORTS", .int "SECOND_STAY" 2, .glo "LOOKS", .int "MOST_FIGURES" 4000, .int "NO_NUMBER" (-1), .glo "MAKERS", .glo "LEAST_WORDS", .glo "MOST_WORDS", .glo "is_letter", .glo "is_echo", .glo "is_answer", .glo "is_goer", .glo "letter_of", .glo "echo_of", .glo "answer_of"] : List He.Fa) ++ ([.glo "goer_of", .glo "_law_digit", .glo "_law_name", .glo "_law_names", .glo "is_made_of", .glo "is_name", .glo "is_word", .glo "is_whole", .glo "is_pair", .glo "is_letter", .glo "is_sort", .glo "is_echo", .glo "is_answer", .glo "is_goer", .glo "is_thing", .glo "_law_pot", .glo "_law_whole", .glo "_law_word", .glo "_law_thing", .glo "thing_text"] : List He.Fa) ++ ([.glo "number_of", .glo "pair_of", .glo "letter_of", .glo "echo_of", .glo "answer_of", .glo "goer_of", .glo "thing_of", .glo "_law_text", .glo "_law_right", .glo "law"] : List He.Fa)
def tb_LOOKS (K : PySem.W.Frag) : List (Str × V) := [("letter", .ref (He.ga K "is_letter")), ("echo", .ref (He.ga K "is_echo")), ("answer", .ref (He.ga K "is_answer")), ("goer", .ref (He.ga K "is_goer"))]
def tb_MAKERS (K : PySem.W.Frag) : List (Str × V) := [("letter", .ref (He.ga K "letter_of")), ("echo", .ref (He.ga K "echo_of")), ("answer", .ref (He.ga K "answer_of")), ("goer", .ref (He.ga K "goer_of"))]
def tb_LEAST_WORDS (K : PySem.W.Frag) : List (Str × V) := [("letter", .int 3), ("echo", .int 5), ("answer", .int 6), ("goer", .int 2)]
def tb_MOST_WORDS (K : PySem.W.Frag) : List (Str × V) := [("letter", .int 3), ("echo", .int 5), ("answer", .int 6), ("goer", .int 6000)]
def ts : List He.Tab := [(fun K => He.ga K "LOOKS", ["letter", "echo", "answer", "goer"]), (fun K => He.ga K "MAKERS", ["letter", "echo", "answer", "goer"]), (fun K => He.ga K "LEAST_WORDS", ["letter", "echo", "answer", "goer"]), (fun K => He.ga K "MOST_WORDS", ["letter", "echo", "answer", "goer"])]
def ex (K : PySem.W.Frag) : Bool := (He.tupB K "SORTS" (sortsT.map He.Dv.str) && (tabB K (He.ga K "LOOKS") (tb_LOOKS K) && (tabB K (He.ga K "MAKERS") (tb_MAKERS K) && (tabB K (He.ga K "LEAST_WORDS") (tb_LEAST_WORDS K) && (tabB K (He.ga K "MOST_WORDS") (tb_MOST_WORDS K) && (decide (Apart K) && (decide (ApartM K) && true)))))))
abbrev hk : PySem.W.Hook := He.hookZ 6 fa fn ts ex
def ob (s : PySem.W.SharedT) : He.AlZ := He.obsZG 6 fa fn ts ex (HandSHeadRun.getT s)
theorem ob_eq (s : PySem.W.SharedT) : ob s = hk.obs s.abs := He.obsZG_eq (HandSHeadRun.getT_eq s)
theorem run (w : World) : HandSHeadRun.RunEq R (PySem.W.view R.prog [55]) hk ob 3000 names w :=
  PySem.W.byRow2 "special-get-raises" (P := fun w => HandSHeadRun.RunEq R (PySem.W.view R.prog [55]) hk ob 3000 names w) (fun w => by intro os; kernel_rfl) (fun w => by intro os; kernel_rfl) w
theorem facts {P : Program} {w : World} {K : PySem.W.Frag} {h : Heap} {mg : Str → Option Value} {f : Addr} (X : K.In h) (G : h.Ns mainGlobals mg) (hfa : mg ("law" : Str) = some (.ref f)) (c : He.SaysZ fa fn ts ex w K) :
    ∃ fd : FuncData, (∀ (s : Shared) (v : Value), BindsTo s fd ⟨[v], []⟩ [("_law_script", v)]) ∧ ∀ base : Heap, K.In base → base.Ns mainGlobals mg → FnG P w K mg base CX0 9 f fd ["_law_script"] (spLaw K) := by
  have D := c.t.d
  have F : ∀ (i : Nat) {f : He.Fa}, fa[i]? = some f → f.ok K = true := fun i {f} h => D.fact i h
  have e := c.ex
  obtain ⟨x_SORTS, e⟩ := He.ba e
  obtain ⟨x_LOOKS, e⟩ := He.ba e
  obtain ⟨x_MAKERS, e⟩ := He.ba e
  obtain ⟨x_LEAST_WORDS, e⟩ := He.ba e
  obtain ⟨x_MOST_WORDS, e⟩ := He.ba e
  obtain ⟨e_Apart, e⟩ := He.ba e
  have nd_Apart : Apart K := of_decide_eq_true e_Apart
  obtain ⟨e_ApartM, e⟩ := He.ba e
  have nd_ApartM : ApartM K := of_decide_eq_true e_ApartM
  have T : Txt K w mg := ⟨He.free_ok X G (F 0 (f := .free "abs") rfl),
    He.free_ok X G (F 1 (f := .free "all") rfl),
    He.free_ok X G (F 2 (f := .free "bool") rfl),
    He.free_ok X G (F 3 (f := .free "int") rfl),
    He.free_ok X G (F 4 (f := .free "isinstance") rfl),
    He.free_ok X G (F 5 (f := .free "len") rfl),
    He.free_ok X G (F 6 (f := .free "max") rfl),
    He.free_ok X G (F 7 (f := .free "min") rfl),
    He.free_ok X G (F 8 (f := .free "range") rfl),
    He.free_ok X G (F 9 (f := .free "repr") rfl),
    He.free_ok X G (F 10 (f := .free "set") rfl),
    He.free_ok X G (F 11 (f := .free "str") rfl),
    He.free_ok X G (F 12 (f := .free "tuple") rfl),
    He.str_ok X G (F 13 (f := .str "LETTERS" "abcdefghijklmnopqrstuvwxyz") rfl),
    He.str_ok X G (F 14 (f := .str "FIGURES" "0123456789") rfl),
    He.int_ok X G (F 15 (f := .int "MOST_LETTERS" 8) rfl),
    He.int_ok X G (F 16 (f := .int "MOST_SIGNS" 12) rfl),
    He.str_ok X G (F 17 (f := .str "LETTER" "letter") rfl),
    He.str_ok X G (F 18 (f := .str "ECHO" "echo") rfl),
    He.str_ok X G (F 19 (f := .str "ANSWER" "answer") rfl),
    He.str_ok X G (F 20 (f := .str "GOER" "goer") rfl),
    He.str_ok X G (F 21 (f := .str "CAME" "came") rfl),
    He.str_ok X G (F 22 (f := .str "SHORT" "short") rfl),
    He.str_ok X G (F 23 (f := .str "ASK" "ask") rfl),
    He.str_ok X G (F 24 (f := .str "ROW" "row") rfl),
    He.glo_ok X G (F 25 (f := .glo "SORTS") rfl),
    He.int_ok X G (F 26 (f := .int "SECOND_STAY" 2) rfl),
    He.glo_ok X G (F 27 (f := .glo "LOOKS") rfl),
    He.int_ok X G (F 28 (f := .int "MOST_FIGURES" 4000) rfl),
    He.int_ok X G (F 29 (f := .int "NO_NUMBER" (-1)) rfl),
    He.glo_ok X G (F 30 (f := .glo "MAKERS") rfl),
    He.glo_ok X G (F 31 (f := .glo "LEAST_WORDS") rfl),
    He.glo_ok X G (F 32 (f := .glo "MOST_WORDS") rfl),
    fun H => He.tupB_ok (vs := sortsT.map He.Dv.str) x_SORTS H,
    tab_ok (c.t.tab 0 rfl) x_LOOKS,
    He.glo_ok X G (F 33 (f := .glo "is_letter") rfl),
    He.glo_ok X G (F 34 (f := .glo "is_echo") rfl),
    He.glo_ok X G (F 35 (f := .glo "is_answer") rfl),
    He.glo_ok X G (F 36 (f := .glo "is_goer") rfl),
    tab_ok (c.t.tab 1 rfl) x_MAKERS,
    tab_ok (c.t.tab 2 rfl) x_LEAST_WORDS,
    tab_ok (c.t.tab 3 rfl) x_MOST_WORDS,
    He.glo_ok X G (F 37 (f := .glo "letter_of") rfl),
    He.glo_ok X G (F 38 (f := .glo "echo_of") rfl),
    He.glo_ok X G (F 39 (f := .glo "answer_of") rfl),
    He.glo_ok X G (F 40 (f := .glo "goer_of") rfl)⟩
  obtain ⟨fd_ldigit, F_ldigit⟩ := D.def_ 0 (d := d_ldigit) rfl
  have b_ldigit : Binds K fd_ldigit P_ldigit [] := FunD.bindsN F_ldigit fun _ _ _ _ _ _ us hl => match us, hl with | [_, _], _ => rfl
  have g_ldigit := He.glo_ok X G (F 41 (f := .glo "_law_digit") rfl)
  obtain ⟨fd_lname, F_lname⟩ := D.def_ 1 (d := d_lname) rfl
  have b_lname : Binds K fd_lname P_lname [] := FunD.bindsN F_lname fun _ _ _ _ _ _ us hl => match us, hl with | [_, _], _ => rfl
  have g_lname := He.glo_ok X G (F 42 (f := .glo "_law_name") rfl)
  obtain ⟨fd_lnames, F_lnames⟩ := D.def_ 2 (d := d_lnames) rfl
  have b_lnames : Binds K fd_lnames P_lnames [] := FunD.bindsN F_lnames fun _ _ _ _ _ _ us hl => match us, hl with | [_, _, _], _ => rfl
  have g_lnames := He.glo_ok X G (F 43 (f := .glo "_law_names") rfl)
  obtain ⟨fd_is_made_of, F_is_made_of⟩ := D.def_ 3 (d := d_is_made_of) rfl
  have b_is_made_of : Binds K fd_is_made_of P_is_made_of [] := FunD.bindsN F_is_made_of fun _ _ _ _ _ _ us hl => match us, hl with | [_, _, _], _ => rfl
  have g_is_made_of := He.glo_ok X G (F 44 (f := .glo "is_made_of") rfl)
  obtain ⟨fd_is_name, F_is_name⟩ := D.def_ 4 (d := d_is_name) rfl
  have b_is_name : Binds K fd_is_name P_is_name [] := FunD.bindsN F_is_name fun _ _ _ _ _ _ us hl => match us, hl with | [_], _ => rfl
  have g_is_name := He.glo_ok X G (F 45 (f := .glo "is_name") rfl)
  obtain ⟨fd_is_word, F_is_word⟩ := D.def_ 5 (d := d_is_word) rfl
  have b_is_word : Binds K fd_is_word P_is_word [] := FunD.bindsN F_is_word fun _ _ _ _ _ _ us hl => match us, hl with | [_], _ => rfl
  have g_is_word := He.glo_ok X G (F 46 (f := .glo "is_word") rfl)
  obtain ⟨fd_is_whole, F_is_whole⟩ := D.def_ 6 (d := d_is_whole) rfl
  have b_is_whole : Binds K fd_is_whole P_is_whole [] := FunD.bindsN F_is_whole fun _ _ _ _ _ _ us hl => match us, hl with | [_, _], _ => rfl
  have g_is_whole := He.glo_ok X G (F 47 (f := .glo "is_whole") rfl)
  obtain ⟨fd_is_pair, F_is_pair⟩ := D.def_ 7 (d := d_is_pair) rfl
  have b_is_pair : Binds K fd_is_pair P_is_pair [] := FunD.bindsN F_is_pair fun _ _ _ _ _ _ us hl => match us, hl with | [_, _], _ => rfl
  have g_is_pair := He.glo_ok X G (F 48 (f := .glo "is_pair") rfl)
  obtain ⟨fd_is_letter, F_is_letter⟩ := D.def_ 8 (d := d_is_letter) rfl
  have b_is_letter : Binds K fd_is_letter P_is_letter [] := FunD.bindsN F_is_letter fun _ _ _ _ _ _ us hl => match us, hl with | [_], _ => rfl
  have g_is_letter := He.glo_ok X G (F 49 (f := .glo "is_letter") rfl)
  obtain ⟨fd_is_sort, F_is_sort⟩ := D.def_ 9 (d := d_is_sort) rfl
  have b_is_sort : Binds K fd_is_sort P_is_sort [] := FunD.bindsN F_is_sort fun _ _ _ _ _ _ us hl => match us, hl with | [_], _ => rfl
  have g_is_sort := He.glo_ok X G (F 50 (f := .glo "is_sort") rfl)
  obtain ⟨fd_is_echo, F_is_echo⟩ := D.def_ 10 (d := d_is_echo) rfl
  have b_is_echo : Binds K fd_is_echo P_is_echo [] := FunD.bindsN F_is_echo fun _ _ _ _ _ _ us hl => match us, hl with | [_], _ => rfl
  have g_is_echo := He.glo_ok X G (F 51 (f := .glo "is_echo") rfl)
  obtain ⟨fd_is_answer, F_is_answer⟩ := D.def_ 11 (d := d_is_answer) rfl
  have b_is_answer : Binds K fd_is_answer P_is_answer [] := FunD.bindsN F_is_answer fun _ _ _ _ _ _ us hl => match us, hl with | [_], _ => rfl
  have g_is_answer := He.glo_ok X G (F 52 (f := .glo "is_answer") rfl)
  obtain ⟨fd_is_goer, F_is_goer⟩ := D.def_ 12 (d := d_is_goer) rfl
  have b_is_goer : Binds K fd_is_goer P_is_goer [] := FunD.bindsN F_is_goer fun _ _ _ _ _ _ us hl => match us, hl with | [_], _ => rfl
  have g_is_goer := He.glo_ok X G (F 53 (f := .glo "is_goer") rfl)
  obtain ⟨fd_is_thing, F_is_thing⟩ := D.def_ 13 (d := d_is_thing) rfl
  have b_is_thing : Binds K fd_is_thing P_is_thing [] := FunD.bindsN F_is_thing fun _ _ _ _ _ _ us hl => match us, hl with | [_], _ => rfl
  have g_is_thing := He.glo_ok X G (F 54 (f := .glo "is_thing") rfl)
  obtain ⟨fd_lpot, F_lpot⟩ := D.def_ 14 (d := d_lpot) rfl
  have b_lpot : Binds K fd_lpot P_lpot [] := FunD.bindsN F_lpot fun _ _ _ _ _ _ us hl => match us, hl with | [_, _], _ => rfl
  have g_lpot := He.glo_ok X G (F 55 (f := .glo "_law_pot") rfl)
  obtain ⟨fd_lwhole, F_lwhole⟩ := D.def_ 15 (d := d_lwhole) rfl
  have b_lwhole : Binds K fd_lwhole P_lwhole [] := FunD.bindsN F_lwhole fun _ _ _ _ _ _ us hl => match us, hl with | [_, _], _ => rfl
  have g_lwhole := He.glo_ok X G (F 56 (f := .glo "_law_whole") rfl)
  obtain ⟨fd_lword, F_lword⟩ := D.def_ 16 (d := d_lword) rfl
  have b_lword : Binds K fd_lword P_lword [] := FunD.bindsN F_lword fun _ _ _ _ _ _ us hl => match us, hl with | [_], _ => rfl
  have g_lword := He.glo_ok X G (F 57 (f := .glo "_law_word") rfl)
  obtain ⟨fd_lthing, F_lthing⟩ := D.def_ 17 (d := d_lthing) rfl
  have b_lthing : Binds K fd_lthing P_lthing [] := FunD.bindsN F_lthing fun _ _ _ _ _ _ us hl => match us, hl with | [_], _ => rfl
  have g_lthing := He.glo_ok X G (F 58 (f := .glo "_law_thing") rfl)
  obtain ⟨fd_thing_text, F_thing_text⟩ := D.def_ 18 (d := d_thing_text) rfl
  have b_thing_text : Binds K fd_thing_text P_thing_text [] := FunD.bindsN F_thing_text fun _ _ _ _ _ _ us hl => match us, hl with | [_], _ => rfl
  have g_thing_text := He.glo_ok X G (F 59 (f := .glo "thing_text") rfl)
  obtain ⟨fd_number_of, F_number_of⟩ := D.def_ 19 (d := d_number_of) rfl
  have b_number_of : Binds K fd_number_of P_number_of [] := FunD.bindsN F_number_of fun _ _ _ _ _ _ us hl => match us, hl with | [_], _ => rfl
  have g_number_of := He.glo_ok X G (F 60 (f := .glo "number_of") rfl)
  obtain ⟨fd_pair_of, F_pair_of⟩ := D.def_ 20 (d := d_pair_of) rfl
  have b_pair_of : Binds K fd_pair_of P_pair_of [] := FunD.bindsN F_pair_of fun _ _ _ _ _ _ us hl => match us, hl with | [_], _ => rfl
  have g_pair_of := He.glo_ok X G (F 61 (f := .glo "pair_of") rfl)
  obtain ⟨fd_letter_of, F_letter_of⟩ := D.def_ 21 (d := d_letter_of) rfl
  have b_letter_of : Binds K fd_letter_of P_letter_of [] := FunD.bindsN F_letter_of fun _ _ _ _ _ _ us hl => match us, hl with | [_], _ => rfl
  have g_letter_of := He.glo_ok X G (F 62 (f := .glo "letter_of") rfl)
  obtain ⟨fd_echo_of, F_echo_of⟩ := D.def_ 22 (d := d_echo_of) rfl
  have b_echo_of : Binds K fd_echo_of P_echo_of [] := FunD.bindsN F_echo_of fun _ _ _ _ _ _ us hl => match us, hl with | [_], _ => rfl
  have g_echo_of := He.glo_ok X G (F 63 (f := .glo "echo_of") rfl)
  obtain ⟨fd_answer_of, F_answer_of⟩ := D.def_ 23 (d := d_answer_of) rfl
  have b_answer_of : Binds K fd_answer_of P_answer_of [] := FunD.bindsN F_answer_of fun _ _ _ _ _ _ us hl => match us, hl with | [_], _ => rfl
  have g_answer_of := He.glo_ok X G (F 64 (f := .glo "answer_of") rfl)
  obtain ⟨fd_goer_of, F_goer_of⟩ := D.def_ 24 (d := d_goer_of) rfl
  have b_goer_of : Binds K fd_goer_of P_goer_of [] := FunD.bindsN F_goer_of fun _ _ _ _ _ _ us hl => match us, hl with | [_], _ => rfl
  have g_goer_of := He.glo_ok X G (F 65 (f := .glo "goer_of") rfl)
  obtain ⟨fd_thing_of, F_thing_of⟩ := D.def_ 25 (d := d_thing_of) rfl
  have b_thing_of : Binds K fd_thing_of P_thing_of [] := FunD.bindsN F_thing_of fun _ _ _ _ _ _ us hl => match us, hl with | [_], _ => rfl
  have g_thing_of := He.glo_ok X G (F 66 (f := .glo "thing_of") rfl)
  obtain ⟨fd_ltext, F_ltext⟩ := D.def_ 26 (d := d_ltext) rfl
  have b_ltext : Binds K fd_ltext P_ltext [] := FunD.bindsN F_ltext fun _ _ _ _ _ _ us hl => match us, hl with | [_], _ => rfl
  have g_ltext := He.glo_ok X G (F 67 (f := .glo "_law_text") rfl)
  obtain ⟨fd_lright, F_lright⟩ := D.def_ 27 (d := d_lright) rfl
  have b_lright : Binds K fd_lright P_lright [] := FunD.bindsN F_lright fun _ _ _ _ _ _ us hl => match us, hl with | [_], _ => rfl
  have g_lright := He.glo_ok X G (F 68 (f := .glo "_law_right") rfl)
  obtain ⟨fd_law, F_law⟩ := D.def_ 28 (d := d_law) rfl
  have b_law : Binds K fd_law P_law [] := FunD.bindsN F_law fun _ _ _ _ _ _ us hl => match us, hl with | [_], _ => rfl
  have e0 := hfa.symm.trans (He.glo_ok X G (F 69 (f := .glo "law") rfl))
  cases e0
  have bl := FunD.bindsA (ps := ["_law_script"]) F_law fun _ _ _ _ _ _ us hl => match us, hl with | [_], _ => rfl
  refine ⟨fd_law, fun s v => bl s [v] rfl, fun base _ _ => ?_⟩
  have c_lpot : Cal P w K mg base CX0 2 "_law_pot" P_lpot (spPot K) := ⟨_, _, g_lpot, F_lpot.kp, b_lpot, ok_lpot F_lpot T ⟩
  have c_ldigit : Cal P w K mg base CX0 2 "_law_digit" P_ldigit spDigit := ⟨_, _, g_ldigit, F_ldigit.kp, b_ldigit, ok_ldigit F_ldigit T ⟩
  have c_lname : Cal P w K mg base CX0 3 "_law_name" P_lname (spName K) := ⟨_, _, g_lname, F_lname.kp, b_lname, ok_lname F_lname T c_ldigit⟩
  have c_lnames : Cal P w K mg base CX0 4 "_law_names" P_lnames spNames := ⟨_, _, g_lnames, F_lnames.kp, b_lnames, ok_lnames F_lnames T c_lname⟩
  have c_lword : Cal P w K mg base CX0 3 "_law_word" P_lword spWord := ⟨_, _, g_lword, F_lword.kp, b_lword, ok_lword F_lword T c_ldigit⟩
  have c_lwhole : Cal P w K mg base CX0 3 "_law_whole" P_lwhole spWholeN := ⟨_, _, g_lwhole, F_lwhole.kp, b_lwhole, ok_lwhole F_lwhole T c_ldigit⟩
  have c_lthing : Cal P w K mg base CX0 5 "_law_thing" P_lthing (spThingM K) := ⟨_, _, g_lthing, F_lthing.kp, b_lthing, ok_lthing F_lthing T c_ldigit c_lname c_lnames c_lword c_lwhole⟩
  have c_thing_text : Cal P w K mg base CX0 2 "thing_text" P_thing_text (spText K) := ⟨_, _, g_thing_text, F_thing_text.kp, b_thing_text, ok_thing_text F_thing_text T ⟩
  have k_thing_text : CalK P w K mg base CX0 2 "thing_text" P_thing_text 0 ["thing"] (fun vs zs => vs ++ zs) (spText K) := ⟨_, _, _, g_thing_text, F_thing_text.kp, FunD.kw0 F_thing_text 0 ["thing"] (fun us ws => us ++ ws) (fun r1 r2 => r1.append r2) (fun _ _ _ _ _ _ us ws h1 h2 => match us, ws, h1, h2 with | [], [_], _, _ => rfl), ok_thing_text F_thing_text T ⟩
  have c_ltext : Cal P w K mg base CX0 2 "_law_text" P_ltext (spText K) := ⟨_, _, g_ltext, F_ltext.kp, b_ltext, ok_ltext F_ltext T ⟩
  have c_letter_of : Cal P w K mg base CX0 4 "letter_of" P_letter_of (spMaker K "letter") := ⟨_, _, g_letter_of, F_letter_of.kp, b_letter_of, ok_letter_of F_letter_of T ⟩
  have c_number_of : Cal P w K mg base CX0 2 "number_of" P_number_of spNum := ⟨_, _, g_number_of, F_number_of.kp, b_number_of, ok_number_of F_number_of T ⟩
  have c_pair_of : Cal P w K mg base CX0 3 "pair_of" P_pair_of (spPairOf K) := ⟨_, _, g_pair_of, F_pair_of.kp, b_pair_of, ok_pair_of F_pair_of T c_number_of⟩
  have c_echo_of : Cal P w K mg base CX0 4 "echo_of" P_echo_of (spMaker K "echo") := ⟨_, _, g_echo_of, F_echo_of.kp, b_echo_of, ok_echo_of F_echo_of T c_pair_of⟩
  have c_answer_of : Cal P w K mg base CX0 4 "answer_of" P_answer_of (spMaker K "answer") := ⟨_, _, g_answer_of, F_answer_of.kp, b_answer_of, ok_answer_of F_answer_of T c_pair_of⟩
  have c_goer_of : Cal P w K mg base CX0 4 "goer_of" P_goer_of (spMaker K "goer") := ⟨_, _, g_goer_of, F_goer_of.kp, b_goer_of, ok_goer_of F_goer_of T c_number_of⟩
  have c_is_made_of : Cal P w K mg base CX0 2 "is_made_of" P_is_made_of (spMade K) := ⟨_, _, g_is_made_of, F_is_made_of.kp, b_is_made_of, ok_is_made_of F_is_made_of T ⟩
  have c_is_name : Cal P w K mg base CX0 3 "is_name" P_is_name (spT1 K nameD) := ⟨_, _, g_is_name, F_is_name.kp, b_is_name, ok_is_name F_is_name T c_is_made_of⟩
  have c_is_word : Cal P w K mg base CX0 3 "is_word" P_is_word (spT1 K wordD) := ⟨_, _, g_is_word, F_is_word.kp, b_is_word, ok_is_word F_is_word T c_is_made_of⟩
  have c_is_letter : Cal P w K mg base CX0 5 "is_letter" P_is_letter (spTt K letterD) := ⟨_, _, g_is_letter, F_is_letter.kp, b_is_letter, ok_is_letter F_is_letter T c_is_name c_is_word⟩
  have c_is_sort : Cal P w K mg base CX0 2 "is_sort" P_is_sort (spT1 K sortD) := ⟨_, _, g_is_sort, F_is_sort.kp, b_is_sort, ok_is_sort F_is_sort T ⟩
  have c_is_whole : Cal P w K mg base CX0 2 "is_whole" P_is_whole (spT2 K wholeD) := ⟨_, _, g_is_whole, F_is_whole.kp, b_is_whole, ok_is_whole F_is_whole T ⟩
  have c_is_pair : Cal P w K mg base CX0 4 "is_pair" P_is_pair (spT2 K pairD) := ⟨_, _, g_is_pair, F_is_pair.kp, b_is_pair, ok_is_pair F_is_pair T c_is_name c_is_whole⟩
  have c_is_echo : Cal P w K mg base CX0 5 "is_echo" P_is_echo (spTt K echoD) := ⟨_, _, g_is_echo, F_is_echo.kp, b_is_echo, ok_is_echo F_is_echo T c_is_name c_is_sort c_is_pair⟩
  have c_is_answer : Cal P w K mg base CX0 5 "is_answer" P_is_answer (spTt K answerD) := ⟨_, _, g_is_answer, F_is_answer.kp, b_is_answer, ok_is_answer F_is_answer T c_is_name c_is_sort c_is_pair⟩
  have c_is_goer : Cal P w K mg base CX0 5 "is_goer" P_is_goer (spTt K goerD) := ⟨_, _, g_is_goer, F_is_goer.kp, b_is_goer, ok_is_goer F_is_goer T c_is_name c_is_whole⟩
  have c_is_thing : Cal P w K mg base CX0 6 "is_thing" P_is_thing (spT1 K thingD) := ⟨_, _, g_is_thing, F_is_thing.kp, b_is_thing, ok_is_thing F_is_thing T c_is_letter c_is_echo c_is_answer c_is_goer nd_Apart⟩
  have c_thing_of : Cal P w K mg base CX0 7 "thing_of" P_thing_of (spRead K) := ⟨_, _, g_thing_of, F_thing_of.kp, b_thing_of, ok_thing_of F_thing_of T c_letter_of c_echo_of c_answer_of c_goer_of c_is_thing c_thing_text nd_ApartM⟩
  have k_thing_of : CalK P w K mg base CX0 7 "thing_of" P_thing_of 0 ["text"] (fun vs zs => vs ++ zs) (spRead K) := ⟨_, _, _, g_thing_of, F_thing_of.kp, FunD.kw0 F_thing_of 0 ["text"] (fun us ws => us ++ ws) (fun r1 r2 => r1.append r2) (fun _ _ _ _ _ _ us ws h1 h2 => match us, ws, h1, h2 with | [], [_], _, _ => rfl), ok_thing_of F_thing_of T c_letter_of c_echo_of c_answer_of c_goer_of c_is_thing c_thing_text nd_ApartM⟩
  have c_lright : CalG P w K mg base CX0 8 "_law_right" P_lright (spRightM K) := ⟨_, _, g_lright, F_lright.kp, b_lright, ok_lright F_lright T c_thing_text c_ltext k_thing_of c_is_thing⟩
  exact ok_law F_law T c_lpot c_lthing k_thing_text c_lright
end W
open PySem PySem.W PySem.Calls PyProof.Rows
theorem PySem.Challenge.cw_walkbox_k15_whole_thing_texts_holds : PySem.Challenge.rw_walkbox_k15_whole_thing_texts.Holds := by
  w_on; o_law
  refine HandSHeadRun.head_any (r := OpenLaw.row PySem.Challenge.rw_walkbox_k15_whole_thing_texts) (q := view (OpenLaw.row PySem.Challenge.rw_walkbox_k15_whole_thing_texts).prog [55]) (H := W.hk) (ob := W.ob) (M := 3000) (loose := W.names) (d := HandSHeadRun.topDef (OpenLaw.row PySem.Challenge.rw_walkbox_k15_whole_thing_texts).prog 55) (kwd := []) W.ob_eq
    (by kernel_rfl) (fun s => by kernel_rfl) W.run (by kernel_rfl) (by kernel_rfl) (by kernel_rfl) (by rfl) (by first | assumption | decide +kernel) (by decide +kernel) ⟨rfl, rfl, rfl, rfl, rfl, by decide +kernel⟩ ?hw ?hc
  case hw => w_witness2
  case hc =>
    refine WB.walk_ofG (l := PySem.Challenge.rw_walkbox_k15_whole_thing_texts) (n := 63) (k := 9) (x := "_law_script") (CX := L2.CX0) rfl (by decide) (by kernel_rfl) ⟨rfl, by decide, by decide⟩ ?F (fun _ _ _ _ z => z)
    intro w mg fa h Y G hmg0
    obtain ⟨K, KX, c⟩ := Y
    have hmg : mg ("law" : PySem.Str) = some (.ref fa) := by
      have e : (HandSHeadRun.topDef (OpenLaw.row PySem.Challenge.rw_walkbox_k15_whole_thing_texts).prog 55).name = ("law" : PySem.Str) := by kernel_rfl
      rw [← e]
      exact hmg0
    obtain ⟨fd, hb, hF⟩ := W.facts (P := (PySem.Challenge.rw_walkbox_k15_whole_thing_texts).prog) (w := w) KX G hmg c
    exact ⟨K, fd, W.spLaw K, KX, hb, fun H a ns hl _ hS => ⟨a, ns, rfl, hS, hl, fun _ => rfl⟩, hF⟩
