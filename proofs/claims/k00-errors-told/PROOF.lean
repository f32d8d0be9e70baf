import PyProof.Rows.All
import Wide.All
import OpenK.AllK
import Wide.FinOn
import PyProof.EqAt
import PyProof.EqKinds
import PyProof.TupleCall
import KE.KExcInit
import KE.KIsAll
import KE.KTryMore
import HandS.ForMost
import HandS.Exc
import HandS.ExcInit
import HandS.ExcIs
import HandS.ExcField
import HandS.ExcValue
import HandS.IsInst
import HandS.Defaults
import HandS.HotCalls
import PySem.Challenge.RW_bothleast_k00_errors_told
import HandS.Wide
import PyProof.FitsReplace
import HandS.Walk
import HandS.WordsExc
import HandS.Conv
set_option Elab.async false
set_option linter.all false
set_option maxRecDepth 100000
set_option maxHeartbeats 4000000
namespace XV
open PySem PySem.Spec PyProof.Rows L2
/-- just this object stands there -/
def pinO (a : Addr) (o : Obj) : HO := .ext fun h => h.get? a = some o
section
variable {P : Program} {w : World} {H : Hp} {h : Heap} {a : Addr} {o : Obj}
theorem pinO_ok (e : h.get? a = some o) : ObjOk P w H h a (pinO a o) := ⟨e, ⟨_, e⟩, fun _ _ z k => k _ z⟩
theorem pinO_at (ok : HOk P w H h) (e : H a = some (pinO a o)) : h.get? a = some o := by
  have x : ObjOk P w H h a (.ext fun h => h.get? a = some o) := ok a _ e
  exact x.1
end
theorem ext_own {φ : Heap → Prop} {x : Addr} : HO.ext φ ≠ HO.own x := fun z => nomatch z
theorem ext_tup {φ : Heap → Prop} {xs : List V} : HO.ext φ ≠ HO.tup xs := fun z => nomatch z
theorem ext_frz {φ : Heap → Prop} {o : Obj} {u : HO} : HO.ext φ ≠ HO.frz o u := fun z => nomatch z
theorem ext_tbl {φ : Heap → Prop} {ps : Array Value} : HO.ext φ ≠ HO.tbl ps := fun z => nomatch z
/-- what the written part says of an own exception class C; tl: the part of its chain behind the own classes -/
structure ExCls (K : PySem.W.Frag) (C : Addr) (newId : String) (tl : List Value) : Prop where
  ini : PySem.W.excInitIn K C tl newId = true
  ovr : PySem.W.excOver K C tl = true
  dic : PySem.W.hasDictIn K C = true
  sa : PySem.W.findIn K (.ref C) "__setattr__" = some (some (.builtin "object.__setattr__"))
  ga : PySem.W.findIn K (.ref C) "__getattribute__" = some (some (.builtin "BaseException.__getattribute__"))
  gg : PySem.W.findIn K (.ref C) "__getattr__" = some none
  exC : PySem.W.subIn K (.ref C) (.type "BaseException") = some true
  tyC : PySem.W.typeIn K (.ref C) = some (.type "type")
  kC : PySem.W.keepIn K (.ref C) = true
  cl : PySem.W.findIn K (.ref C) "__class__" = some (some (.builtin "object.__class__"))
  mro : PySem.W.mroIn K C (.type "object") = some true
section
variable {X : Cx} {pins : List (Addr × Obj)} {σ : L2.St} {H : Hp} {s : Shared} {a C dx : Addr} {f : Str} {y : V} {u : Value} {fs : List (Str × V)} {Q : Unit → Shared → Prop} {E : Value → Shared → Prop} {A : Around} {newId B : String} {tl : List Value}
/-- one object of ours turns, a new one is laid beside it -/
theorem inv_two {h' : Heap} {t' : Nat} {φ : Heap → Prop} {oa od : HO} (I : Inv X pins σ H s) (ea : H a = some (.ext φ)) (dn : s.heap.objs.size ≤ dx) (k : ∀ b o, b ≠ a → s.heap.get? b = some o → h'.get? b = some o) (ha : ∃ o, h'.get? a = some o)
    (oka : ObjOk X.prog X.w (upd (upd H dx od) a oa) h' a oa) (okd : ObjOk X.prog X.w (upd (upd H dx od) a oa) h' dx od) : Inv X pins σ (upd (upd H dx od) a oa) { s with heap := h', toks := t' } := by
  have hd := I.hok.fresh dn
  have hne : ∀ {b o}, s.heap.get? b = some o → b ≠ dx := fun q z => absurd (Nat.lt_of_lt_of_le (Heap.lt_size q) dn) (by rw [z]; exact Nat.lt_irrefl _)
  have ane : ∀ {b}, H b = none → b ≠ a := fun n z => by rw [z, ea] at n; cases n
  have pass : ∀ {b u}, H b = some u → b ≠ a → (upd (upd H dx od) a oa) b = some u := fun q z => by rw [upd_ne z, upd_ne (ne_of_none q hd)]; exact q
  refine I.un (t' := t') { keep := fun b o q n _ _ => k b o (ane n) q, slot := fun b o q n _ _ => ⟨o.slots, k b o (ane n) q⟩, free := fun b o q n _ => ?_, there := fun b o q _ => ?_, tups := fun b xs q => pass q (at_ne ea q ext_tup), frzs := fun b o v q => pass q (at_ne ea q ext_frz), tbls := fun b ps q => ⟨#[], ?_⟩ } fun b o q => ?_
  · rw [upd_ne (ane n), upd_ne (hne q)]; exact n
  · by_cases e : b = a
    · rw [e]; exact ha
    · exact ⟨o, k b o e q⟩
  · rw [Array.append_empty]; exact pass q (at_ne ea q ext_tbl)
  · by_cases e : b = a
    · subst e; rw [upd_same] at q; cases q; exact oka
    rw [upd_ne e] at q
    by_cases e2 : b = dx
    · subst e2; rw [upd_same] at q; cases q; exact okd
    rw [upd_ne e2] at q
    refine (I.hok b o q).stay (fun c v hc z => k c v ?_ z) (fun c hc => pass hc (at_ne ea hc ext_own)) fun c xs hc => pass hc (at_ne ea hc ext_tup)
    rcases hc with rfl | hc
    · exact e
    · exact at_ne ea hc ext_own
theorem taker_none {K : PySem.W.Frag} (h : PySem.W.findIn K (.ref C) f = some none) : PySem.W.takerIn K C f = some none := by
  unfold PySem.W.takerIn
  rw [h] <;> rfl
theorem stx_new (SF : StoreFacts B tl "object.__setattr__" "object") (T : ExCls X.K C newId tl) (I : Inv X pins σ H s) (e : H a = some (exo a C none)) (hno : PySem.W.findIn X.K (.ref C) f = some none) (ry : RelV y u)
    (h : ∀ dx s', H dx = none → dx ≠ a → Inv X pins σ (upd (upd H dx (exd dx [(f, y)])) a (exo a C (some dx))) s' → Q () s') : wpAny (model X.prog X.w) A (setAttr (.ref a) f u) Q E s := by
  obtain ⟨t1, ho⟩ := exo_at I.hok e
  obtain ⟨cd, hcd, hdi⟩ := PySem.W.any_some T.dic
  obtain ⟨hp, g, d, t, os⟩ := s
  refine PySem.W.set_plain I.kIn (od := none) ⟨ho, rfl, rfl, trivial⟩ T.sa (PySem.W.osa_openX (od := none) SF I.kIn ⟨ho, rfl, rfl, trivial⟩ T.ovr (taker_none hno) fun b => ?_)
  refine wpAny_bind (wpAny_pure (wpAny_bind (PySem.W.instanceDict_exc ho (PySem.W.looks_clsIn I.kIn hcd) hdi ?_)))
  have lta : a < hp.objs.size := Heap.lt_size ho
  have nea : a ≠ hp.objs.size := Nat.ne_of_lt lta
  have keep : ∀ b o, b ≠ a → hp.get? b = some o → ((hp.push (PySem.W.dictOf [] 0)).update a fun o => { o with dict := some hp.objs.size }).get? b = some o := fun b o hb q => by
    rw [Heap.get?_update_other _ _ (Ne.symm hb)]
    exact Heap.get?_push_of_some _ q
  show wpAny _ _ (Builtin.ObjectAttr.storeInDict hp.objs.size (.str f t) f u) _ _ _
  refine PySem.HandSPX.store_in_new ?_ fun h' tk' hn hs => ?_
  · refine ⟨PySem.W.dictOf [] 0, #[], 0, ?_, rfl, fun e he => absurd he (by simp), fun _ => rfl⟩
    rw [Heap.get?_update_other _ _ nea]
    exact Heap.get?_push_at rfl rfl
  have hx : h'.get? a = some ({ cls := .ref C, dict := some hp.objs.size, data := .fields #[.ref t1, .none, .none, .none, .bool false, .none] } : Obj) := by
    rw [hs.2 a nea, Heap.get?_update_self _ (Heap.get?_push_of_some _ ho) rfl]
  have J := inv_two (s := ⟨hp, g, d, t, os⟩) (t' := tk') I e (Nat.le_refl _) (fun b o hb q => (hs.2 b (Nat.ne_of_lt (Heap.lt_size q))).trans (keep b o hb q)) ⟨_, hx⟩ (exo_ok hx) (exd_ok hn (relO_put (fs := []) ry fun g => True.intro))
  exact h hp.objs.size _ (I.hok.fresh (Nat.le_refl _)) (Ne.symm nea) J
theorem stx_old (SF : StoreFacts B tl "object.__setattr__" "object") (T : ExCls X.K C newId tl) (I : Inv X pins σ H s) (e : H a = some (exo a C (some dx))) (ed : H dx = some (exd dx fs)) (hl : fs.length ≤ 900) (hno : PySem.W.findIn X.K (.ref C) f = some none) (ry : RelV y u)
    (h : ∀ s', Inv X pins σ (upd H dx (exd dx ((f, y) :: fs))) s' → Q () s') : wpAny (model X.prog X.w) A (setAttr (.ref a) f u) Q E s := by
  obtain ⟨t1, ho⟩ := exo_at I.hok e
  obtain ⟨mA, hns, rel⟩ := exd_at I.hok ed
  obtain ⟨cd, hcd, hdi⟩ := PySem.W.any_some T.dic
  have hw := within_of rel
  obtain ⟨oD, _, _, hoD, _, _⟩ := hns.count hw
  obtain ⟨hp, g, d, t, os⟩ := s
  refine PySem.W.set_plain I.kIn (od := some oD) ⟨ho, rfl, rfl, hoD⟩ T.sa (PySem.W.osa_openX (od := some oD) SF I.kIn ⟨ho, rfl, rfl, hoD⟩ T.ovr (taker_none hno) fun b => ?_)
  refine wpAny_bind (wpAny_pure (wpAny_bind (wpAny_bind (wpAny_loadPart ho (wpAny_bind ((PySem.W.looks_clsIn (h := hp) I.kIn hcd).at ?_))))))
  rw [hdi]
  refine wpAny_pure (a := some dx) ?_
  refine PySem.OEX.store_in_old hns hw (by rw [List.length_map]; omega) fun h' tk' hn hs => ?_
  have there : ∃ o, h'.get? dx = some o := let ⟨o, _, _, q, _⟩ := hn; ⟨o, q⟩
  exact h _ (I.write (t' := tk') (x := dx) (e := dx) (by rw [ed]; exact True.intro) (.inl rfl) (fun b o hb q => (hs.2 b hb).trans q) there (exd_ok hn (relO_put ry rel)))
end
/-- self.f = e on an exception that is being made -/
def tStx (C : Addr) (f : Str) (to te : TE) : TS := fun D σ H => te σ H fun y H1 => to σ H1 fun x H2 => ∃ a : Addr, x = .ref a ∧
  ((H2 a = some (exo a C none) ∧ ∀ dx, H2 dx = none → dx ≠ a → D.nx σ (upd (upd H2 dx (exd dx [(f, y)])) a (exo a C (some dx)))) ∨
    ∃ (dx : Addr) (fs : List (Str × V)), H2 a = some (exo a C (some dx)) ∧ H2 dx = some (exd dx fs) ∧ fs.length ≤ 900 ∧ D.nx σ (upd H2 dx (exd dx ((f, y) :: fs))))
theorem ps_stx {X : Cx} {o e : Expr} {to te : TE} {f : Str} {p' pos : Pos} {C : Addr} {B newId : String} {tl : List Value} (SF : StoreFacts B tl "object.__setattr__" "object") (T : ExCls X.K C newId tl) (hno : PySem.W.findIn X.K (.ref C) f = some none)
    (ho : PE X o to) (he : PE X e te) (hs : swapsWith e (some (.Attribute o f p')) pos.line X.env = pure false := by rfl) : PS X (.Assign [.Attribute o f p'] e pos) (tStx C f to te) := by
  refine ⟨fun pins s σ H D I h => plainObj_wpAny_Assign_Attribute (thn (he.run pins s σ H _ I h) fun v s1 hv => ?_) hs⟩
  obtain ⟨y, H1, I1, ry, q1⟩ := hv
  refine thn (ho.run pins s1 σ H1 _ I1 q1) fun u s2 hu => ?_
  obtain ⟨x, H2, I2, rx, a, rfl, q⟩ := hu
  cases rx
  rcases q with ⟨ea, q⟩ | ⟨dx, fs, ea, ed, hl, q⟩
  · exact stx_new SF T I2 ea hno ry fun dx s' n ne J => ⟨σ, _, J, q dx n ne⟩
  · exact stx_old SF T I2 ea ed hl hno ry fun s' J => ⟨σ, _, J, q⟩
end XV
namespace XK
open PySem
section
variable {M : Model} {A : Around} {E : Value → Shared → Prop} {h : Heap} {g : Array GenState} {d : Drawn} {t : Nat} {os : OsState}
variable {nm q : Str} {C N : Addr} {bs bm bmB : List Value} {hdct : Bool} {sn : List Str} {sub : List Value} {ab : Bool} {col : Option Bool} {dd : Option Addr} {k0 k1 k2 k3 k5 : Option Value} {B newId initId : String} {rest : List Value} {kw : List (Str × Value)}
theorem kwNewCheck (F : ExcBaseFacts B newId initId bmB) (hT : ∀ z : String, bm.contains (.type z) = bmB.contains (.type z)) {Q : Unit → Shared → Prop}
    (hC : h.get? C = some (excClassObj nm q C N bs bm hdct sn sub ab col dd k0 k1 k2 k3 k5 newId)) (hq : Q () ⟨h, g, d, t, os⟩) : wpAny M A (checkBuiltinCall newId ⟨.ref C :: rest, kw⟩) Q E ⟨h, g, d, t, os⟩ := by
  have c1 : (Value.ref C :: bm).contains (.type B) = true := by rw [List.contains_cons, hT, F.hasB, Bool.or_true]
  have c2 := F.noStar
  simp only [checkBuiltinCall, F.newKind, F.newSplit, F.newRow]
  repeat (first
    | refine wpAny_loadPart_at hC ?_
    | (refine wpAny_isSubtype_exc hC ?_
       rw [c1])
    | refine wpAny_staticBase_exc hC ?_
    | refine wpAny_madeBy_exc hC ?_
    | simp only [bne_self_eq_false, Bool.false_eq_true, if_false]
    | wp_step)
  exact hq
theorem kwTcCheck {Q : Unit → Shared → Prop} (hC : h.get? C = some (excClassObj nm q C N bs bm hdct sn sub ab col dd k0 k1 k2 k3 k5 newId)) (hq : Q () ⟨h, g, d, t, os⟩) : wpAny M A (checkBuiltinCall "type.__call__" ⟨.ref C :: rest, kw⟩) Q E ⟨h, g, d, t, os⟩ := by
  have f3 := tc_sub
  have hT : (⟨h, g, d, t, os⟩ : Shared).TypeIs (.ref C) "type" := ⟨_, hC, rfl⟩
  simp only [checkBuiltinCall, tc_kind, tc_split]
  repeat (any_goals (first
    | assumption
    | with_reducible refine wpAny_loadPart_at hC ?_
    | with_reducible refine wpAny_onRaise ?_
    | with_reducible refine wpAny_map ?_
    | wp_step))
end
section
variable {prog : Program} {w : World} {A : Around} {E : Value → Shared → Prop} {R : Result → Shared → Prop} {h : Heap} {g : Array GenState} {d : Drawn} {t : Nat} {os : OsState}
variable {nm q : Str} {C N : Addr} {bs bm bmB : List Value} {hdct : Bool} {sn : List Str} {sub : List Value} {ab : Bool} {col : Option Bool} {dd : Option Addr} {k0 k1 k2 k3 k5 : Option Value} {B newId initId : String} {rest : List Value} {kw : List (Str × Value)}
theorem kwNew (F : ExcBaseFacts B newId initId bmB) (hT : ∀ z : String, bm.contains (.type z) = bmB.contains (.type z)) (hC : h.get? C = some (excClassObj nm q C N bs bm hdct sn sub ab col dd k0 k1 k2 k3 k5 newId))
    (hq : R (.ok (.ret (.ref (h.objs.size + 1)))) ⟨(h.push (PySem.W.kdv_tup rest)).push (PySem.HandSPX.excO C h.objs.size), g, d, t, os⟩) (hrest : rest.length ≤ sizeLine) :
    codeAny (model prog w) A (.builtin newId ⟨.ref C :: rest, kw⟩) R ⟨h, g, d, t, os⟩ := by
  have c0 := F.ends
  have c1 : (Value.ref C :: bm).contains (.type B) = true := by rw [List.contains_cons, hT, F.hasB, Bool.or_true]
  have c2 : (Value.ref C :: bm).contains (.type "AttributeError") = false := by rw [List.contains_cons, hT, F.noAttr]; rfl
  have c3 : (Value.ref C :: bm).contains (.type "NameError") = false := by rw [List.contains_cons, hT, F.noName]; rfl
  refine codeAny_builtinAt F.entry ?_
  unfold Builtin.«BaseException.__new__»
  refine wpAt_bind ?_
  show wpAt _ _ _ (stack >>= _) _ _ _
  refine wpAt_bind (wpAt_stack fun p below => wpAt_of_wpAny ?_)
  wp_walk
  refine wpAt_of_wpAny ?_
  rw [F.owner]
  repeat (first
    | with_reducible refine wpAny_madeHere_exc F.canon hC ?_
    | with_reducible refine wpAny_loadPart_at hC ?_
    | (with_reducible refine wpAny_isSubtype_exc hC ?_
       first
       | rw [c1]
       | rw [c2]
       | rw [c3])
    | wp_step)
  show R _ _
  rw [Heap.size_push]
  exact hq
theorem kwTypeCall (F : ExcBaseFacts B newId initId bmB) (hT : ∀ z : String, bm.contains (.type z) = bmB.contains (.type z)) {fI : Addr} {Q : Fin → Shared → Prop} (hC : h.get? C = some (excClassObj nm q C N bs bm hdct sn sub ab col dd k0 k1 k2 k3 k5 newId))
    (hi : PySem.W.Looks (model prog w) h (typeLookup (.ref C) "__init__") (some (.ref fI))) (hb : ∀ self, PySem.W.Looks (model prog w) h (bindSpecial (.ref fI) self) (.ref fI, [self])) (hrest : rest.length ≤ sizeLine)
    (hq : codeAny (model prog w) A (.call (.ref fI) ⟨.ref (h.objs.size + 1) :: rest, kw⟩) (fun r s' => match r with | .ok (.ret v) => v = .none ∧ Q (.done (.ret (.ref (h.objs.size + 1)))) s' | .ok _ => False | .error e => E e s')
      ⟨(h.push (PySem.W.kdv_tup rest)).push (PySem.HandSPX.excO C h.objs.size), g, d, t, os⟩) :
    wpAny (model prog w) A (Builtin.«type.__call__» ⟨.ref C :: rest, kw⟩) Q E ⟨h, g, d, t, os⟩ := by
  repeat (first
    | with_reducible refine wpAny_loadPart_at hC ?_
    | with_reducible refine wpAny_madeBy_exc hC ?_
    | wp_step)
  refine codeAny_call_builtin_code (Code.quiet_builtin _ F.quiet) (kwNewCheck F hT hC (kwNew F hT hC ?_ hrest))
  have kp : ∀ b o, h.get? b = some o → ((h.push (PySem.W.kdv_tup rest)).push (PySem.HandSPX.excO C h.objs.size)).get? b = some o := fun b o e => Heap.get?_push_of_some _ (Heap.get?_push_of_some _ e)
  have hC1 := kp _ _ hC
  have hg : ((h.push (PySem.W.kdv_tup rest)).push (PySem.HandSPX.excO C h.objs.size)).get? (h.objs.size + 1) = some (PySem.HandSPX.excO C h.objs.size) := by heap_get
  have c4 : (Value.ref C :: bm).contains (.ref C) = true := by simp
  show wpAny _ _ _ _ _ _
  unfold isInstance
  repeat (first
    | with_reducible refine wpAny_loadPart_at hg ?_
    | (with_reducible refine wpAny_isSubtype_exc hC1 ?_
       rw [c4])
    | wp_step)
  show wpAny _ _ (typeLookup (.ref C) _) _ _ _
  refine (hi.keeps kp).at (wpAny_holding (wpAny_bind (((hb (.ref (h.objs.size + 1))).keeps kp).at (wpAny_bind (wpAny_call (codeAny_mono hq fun r s' z => ?_))))))
  cases r with
  | error e => exact z
  | ok f =>
    cases f with
    | ret v =>
      obtain ⟨rfl, z⟩ := z
      first
      | exact wpAny_pure (wpAny_pure z)
      | (wp_walk
         exact z)
    | next => exact z.elim
    | brk => exact z.elim
    | cont => exact z.elim
theorem kwCall (F : ExcBaseFacts B newId initId bmB) (hT : ∀ z : String, bm.contains (.type z) = bmB.contains (.type z)) {fI : Addr} (hC : h.get? C = some (excClassObj nm q C N bs bm hdct sn sub ab col dd k0 k1 k2 k3 k5 newId))
    (hi : PySem.W.Looks (model prog w) h (typeLookup (.ref C) "__init__") (some (.ref fI))) (hb : ∀ self, PySem.W.Looks (model prog w) h (bindSpecial (.ref fI) self) (.ref fI, [self])) (hrest : rest.length ≤ sizeLine)
    (hq : codeAny (model prog w) (A.under (.builtin "type.__call__" ⟨.ref C :: rest, kw⟩)) (.call (.ref fI) ⟨.ref (h.objs.size + 1) :: rest, kw⟩) (PySem.W.InitBack (h.objs.size + 1) R) ⟨(h.push (PySem.W.kdv_tup rest)).push (PySem.HandSPX.excO C h.objs.size), g, d, t, os⟩) :
    codeAny (model prog w) A (.call (.ref C) ⟨rest, kw⟩) R ⟨h, g, d, t, os⟩ := by
  have f1 := tc_lookup
  have f2 := tc_bind (.ref C)
  have hTy : (⟨h, g, d, t, os⟩ : Shared).TypeIs (.ref C) "type" := ⟨_, hC, rfl⟩
  refine codeAny_of_tree ?_
  show wpAny _ _ (callAny (.ref C) _) _ _ _
  repeat (any_goals (first
    | assumption
    | with_reducible refine wpAny_loadPart_at hC ?_
    | wp_step))
  refine ⟨rfl, codeAny_call_builtin_at (Code.quiet_builtin _ (by decide +kernel)) entry_typeCall (kwTcCheck hC (kwTypeCall F hT hC hi hb hrest (codeAny_mono hq fun r s' z => ?_)))⟩
  cases r with
  | error e => exact z
  | ok f => cases f <;> exact z
end
end XK
namespace XV
open PySem PySem.Spec PyProof.Rows L2
/-- a new own exception with its dict -/
abbrev newX (C d t0 : Addr) : Obj := { cls := .ref C, dict := some d, data := .fields #[.ref t0, .none, .none, .none, .bool false, .none] }
/-- an own exception of the class at C stands at a, with these attributes -/
structure ExAt (H : Hp) (a C : Addr) (fs : List (Str × V)) : Prop where
  ex : ∃ (oe : Obj) (d : Addr) (vs : Array Value), H a = some (pinO a oe) ∧ oe.cls = .ref C ∧ oe.dict = some d ∧ oe.data = .fields vs ∧ d ≠ a ∧ H d = some (.xd fs)
theorem ExAt.mono {H H' : Hp} {a C : Addr} {fs : List (Str × V)} (x : ExAt H a C fs) (s : ∀ b o, H b = some o → H' b = some o) : ExAt H' a C fs := by
  obtain ⟨oe, d, vs, h1, h2, h3, h4, h5, h6⟩ := x.ex
  exact ⟨oe, d, vs, s _ _ h1, h2, h3, h4, h5, s _ _ h6⟩
/-- the arguments of C(..) in the order of the parameters vs, then __init__, which keeps sp -/
def tMkx (C : Addr) (sp : Sp) (t : TA) : TE := fun σ H Q => t σ H fun vs H1 => vs.length ≤ 1000 ∧ ∀ a, H1 a = none → sp (.ref a :: vs) (upd H1 a (exo a C none))
  (fun v H2 => v = .non ∧ ∃ (d : Addr) (fs : List (Str × V)), H2 a = some (exo a C (some d)) ∧ H2 d = some (exd d fs) ∧ d ≠ a ∧ ∀ t0, Q (.ref a) (upd (upd H2 a (pinO a (newX C d t0))) d (.xd fs))) (fun _ _ _ => False)
section
variable {X : Cx} {pins : List (Addr × Obj)} {σ : L2.St} {H : Hp} {s : Shared} {C fI : Addr} {k : Nat} {fd : FuncData} {ps : List Str} {sp : Sp} {B newId initId : String} {tl : List Value} {CX : CXT}
/-- what was an exception in the making is read as one that is made -/
theorem inv_made {a d : Addr} {fs : List (Str × V)} (I : Inv X pins σ H s) (ea : H a = some (exo a C (some d))) (ed : H d = some (exd d fs)) (hda : d ≠ a) : ∃ t0, Inv X pins σ (upd (upd H a (pinO a (newX C d t0))) d (.xd fs)) s := by
  obtain ⟨t0, ho⟩ := exo_at I.hok ea
  obtain ⟨mA, hn, rel⟩ := exd_at I.hok ed
  have J := I.write (t' := s.toks) (h' := s.heap) (x := a) (e := a) (o := pinO a (newX C d t0)) (by rw [ea]; exact True.intro) (.inl rfl) (fun _ _ _ q => q) ⟨_, ho⟩ (pinO_ok ho)
  have there : ∃ u, s.heap.get? d = some u := let ⟨o, _, _, q, _⟩ := hn; ⟨o, q⟩
  have J2 := J.write (t' := s.toks) (h' := s.heap) (x := d) (e := d) (o := .xd fs) (by rw [upd_ne hda, ed]; exact True.intro) (.inl rfl) (fun _ _ _ q => q) there ⟨mA, hn, rel⟩
  exact ⟨t0, J2⟩
theorem run_mkx {kw : List (Str × Value)} {us ws : List Value} {vs : List V} {Q : VK} (FB : ExcBaseFacts B newId initId tl) (T : ExCls X.K C newId tl) (iC : PySem.W.findIn X.K (.ref C) "__init__" = some (some (.ref fI))) (tI : PySem.W.typeIn X.K (.ref fI) = some (.type "function"))
    (F : FnOk X.prog X.w X.K X.mg X.base CX k fI fd ps sp) (hr : Room (k + 1) X.A) (hb : ∀ (s : Shared) (x : Value), X.K.In s.heap → BindsTo s fd ⟨x :: us, kw⟩ (ps.zip (x :: ws))) (hx : Passes CX X (fun _ _ _ => False)) (I : Inv X pins σ H s) (r : Vals vs ws) (hus : us.length ≤ sizeLine)
    (h : ∀ a, H a = none → sp (.ref a :: vs) (upd H a (exo a C none)) (fun v H2 => v = .non ∧ ∃ (d : Addr) (fs : List (Str × V)), H2 a = some (exo a C (some d)) ∧ H2 d = some (exd d fs) ∧ d ≠ a ∧ ∀ t0, Q (.ref a) (upd (upd H2 a (pinO a (newX C d t0))) d (.xd fs))) (fun _ _ _ => False)) :
    wpAny (model X.prog X.w) X.A (call (.ref C) us kw) (EP X pins σ Q) X.xe s := by
  obtain ⟨nm, N, qn, bs, bm, hdct, sn, sub, ab, col, dd, k0, k1, k2, k3, k5, hC, hT⟩ := PySem.W.excInit_of I.kIn T.ini
  obtain ⟨hp, g, dr, tk, os⟩ := s
  have hsz : hp.objs.size ≤ hp.objs.size + 1 := Nat.le_succ _
  have hn := I.hok.fresh hsz
  have hq := h _ hn
  have kp : ∀ b o, hp.get? b = some o → ((hp.push (PySem.W.kdv_tup us)).push (PySem.HandSPX.excO C hp.objs.size)).get? b = some o := fun b o e => Heap.get?_push_of_some _ (Heap.get?_push_of_some _ e)
  have hg : ((hp.push (PySem.W.kdv_tup us)).push (PySem.HandSPX.excO C hp.objs.size)).get? (hp.objs.size + 1) = some (PySem.HandSPX.excO C hp.objs.size) := by heap_get
  have I2 : Inv X pins σ (upd H (hp.objs.size + 1) (exo (hp.objs.size + 1) C none)) ⟨(hp.push (PySem.W.kdv_tup us)).push (PySem.HandSPX.excO C hp.objs.size), g, dr, tk, os⟩ := I.laid (t' := tk) kp hsz (exo_ok hg)
  refine wpAny_call (XK.kwCall FB hT hC (PySem.W.looks_findIn I.kIn iC) (fun self => PySem.W.bind_fn I.kIn self tI) hus
    (codeAny_mono (F.run _ X.stack _ _ ⟨.ref (hp.objs.size + 1) :: us, kw⟩ (.ref (hp.objs.size + 1) :: ws) (.ref (hp.objs.size + 1) :: vs) _ (fun _ _ _ => False) (hr.make C us kw) (I2.env0.make C us kw) (hb _ _ I2.kIn) (.cons rfl r) hq) fun r s' hq' => ?_))
  cases r with
  | error er => exact hx pins σ _ _ er s' I2 hq'
  | ok fl =>
    cases fl with
    | ret u =>
      obtain ⟨v, H2, I3, rv, ev, d, fs, ea, ed, hda, q2⟩ := I2.after hq'
      subst ev
      obtain ⟨t0, J⟩ := inv_made I3 ea ed hda
      exact ⟨rv, ⟨.ref (hp.objs.size + 1), _, J, rfl, q2 t0⟩⟩
    | next => exact False.elim hq'
    | brk => exact False.elim hq'
    | cont => exact False.elim hq'
end
section
variable {X : Cx} {C fI : Addr} {k : Nat} {fd : FuncData} {ps : List Str} {sp : Sp} {B newId initId : String} {tl : List Value} {CX : CXT} {x : Str} {p pos : Pos} {e : Expr} {es : List Expr} {kws : List Keyword} {t : TA}
/-- C(e, ..) by position -/
theorem pe_mkx (FB : ExcBaseFacts B newId initId tl) (T : ExCls X.K C newId tl) (iC : PySem.W.findIn X.K (.ref C) "__init__" = some (some (.ref fI))) (tI : PySem.W.typeIn X.K (.ref fI) = some (.type "function"))
    (F : FnOk X.prog X.w X.K X.mg X.base CX k fI fd ps sp) (hr : Room (k + 1) X.A) (hb : Binds X.K fd ps []) (hx : Passes CX X (fun _ _ _ => False)) (hg : Gl X x) (hm : X.mg x = some (.ref C)) (ha : PA X (e :: es) t)
    (hdb : (x == ("__debug__" : Str)) = false := by decide) (he : starEach (e :: es) X.env = (false, eval e X.env) :: starEach es X.env := by rfl) (hpl : (backTo pos (starEach es X.env)).any (·.1) = false := by rfl) :
    PE X (.Call (.Name x p) (e :: es) [] pos) (tMkx C sp t) := by
  refine ⟨fun pins s σ H Q I h => wpAny_Call_Name_kw (ld_glob I hg hm ?_ hdb)⟩
  refine PySem.W.callWith_K (h₀ := X.base) I.ok.mod.kin T.kC (thn (ha.run pos pins s σ H _ I h) fun us s1 hv => ?_) he hpl
  obtain ⟨vs, H1, I1, r1, hz, q1⟩ := hv
  refine ⟨I1.kIn, ?_⟩
  have hn := I1.hok.fresh (Nat.le_refl s1.heap.objs.size)
  have hl : us.length + 1 = ps.length := by
    have e1 := F.len _ _ _ _ (q1 _ hn)
    rw [← r1.length]
    exact e1
  show wpAny _ _ (call (.ref C) us) _ _ _
  refine run_mkx FB T iC tI F hr (fun s' y X' => ?_) hx I1 r1 (by rw [← r1.length, sizeLine_eq]; omega) q1
  have b := hb s' (y :: us) X' (by rw [List.append_nil]; exact hl)
  rw [List.append_nil] at b
  exact b
/-- how a call by names alone binds behind self: g arranges the values -/
structure KwB (K : PySem.W.Frag) (fd : FuncData) (ps ks : List Str) (gU : List Value → List Value) (gV : List V → List V) : Prop where
  to : ∀ (s : Shared) (y : Value) (zs : List Value), K.In s.heap → zs.length = ks.length → BindsTo s fd ⟨[y], ks.zip zs⟩ (ps.zip (y :: gU zs))
  rel : ∀ {vs : List V} {zs : List Value}, Vals vs zs → vs.length = ks.length → Vals (gV vs) (gU zs)
def tKw (n : Nat) (gV : List V → List V) (t : TA) : TA := fun σ H Q => t σ H fun vs H1 => vs.length = n ∧ Q (gV vs) H1
theorem pe_mkxK {ks : List Str} {gU : List Value → List Value} {gV : List V → List V} (FB : ExcBaseFacts B newId initId tl) (T : ExCls X.K C newId tl) (iC : PySem.W.findIn X.K (.ref C) "__init__" = some (some (.ref fI))) (tI : PySem.W.typeIn X.K (.ref fI) = some (.type "function"))
    (F : FnOk X.prog X.w X.K X.mg X.base CX k fI fd ps sp) (hr : Room (k + 1) X.A) (hb : KwB X.K fd ps ks gU gV) (hx : Passes CX X (fun _ _ _ => False)) (hg : Gl X x) (hm : X.mg x = some (.ref C)) (ha : PK X kws t)
    (hall : (backToKw pos (keywordEach kws X.env)).all (·.1.isSome) = true := by rfl) (hks : (backToKw pos (keywordEach kws X.env)).filterMap (·.1) = ks := by rfl) (hdb : (x == ("__debug__" : Str)) = false := by decide)
    (hpl : ((backTo pos (starEach [] X.env)).any (·.1) || (backToKw pos (keywordEach kws X.env)).any (·.1.isNone)) = false := by rfl) :
    PE X (.Call (.Name x p) [] kws pos) (tMkx C sp (tKw ks.length gV t)) := by
  refine ⟨fun pins s σ H Q I h => wpAny_Call_Name_kw (ld_glob I hg hm ?_ hdb)⟩
  refine PySem.W.callWith_KW0 (h₀ := X.base) I.ok.mod.kin T.kC hall (thn (ha.run pos pins s σ H _ I h) fun zs s1 hv => ?_) hpl
  obtain ⟨vs, H1, I1, r1, hl, hz, q1⟩ := hv
  refine ⟨I1.kIn, ?_⟩
  rw [hks]
  exact run_mkx (us := []) FB T iC tI F hr (fun s' y X' => hb.to s' y zs X' (by rw [← r1.length]; exact hl)) hx I1 (hb.rel r1 hl) (Nat.zero_le _) q1
end
end XV
namespace XV
open PySem PySem.Spec PyProof.Rows L2
/-- the facts of K that isinstance asks of every own class -/
structure IsK (K : PySem.W.Frag) : Prop where
  sp : PySem.W.specialIn K (.builtin "object.__class__") "__get__" = some (some (.builtin "getset_descriptor.__get__"))
  tk : PySem.W.takesIn K (.builtin "object.__class__") = some true
section
variable {prog : Program} {w : World} {A : Around} {E : Value → Shared → Prop} {s : Shared} {K : PySem.W.Frag} {x C : Addr} {ox od : Obj} {newId : String} {tl : List Value}
theorem clsOb (h : PySem.W.hasDictIn K C = true) : ∃ oc dc cd sl, K.lookup C = some ⟨oc, dc, .cls cd, sl⟩ := by
  obtain ⟨cd, e, _⟩ := PySem.W.any_some h
  unfold PySem.W.clsIn at e
  split at e
  · exact ⟨_, _, _, _, by assumption⟩
  · cases e
theorem clsAsk {Q : Option Value → Shared → Prop} (T : ExCls K C newId tl) (F : IsK K) (X : K.In s.heap) (I : PySem.W.InstAt s.heap x ox C (some od)) (h : Q (some (.ref C)) { s with toks := s.toks + 1 }) : wpAny (model prog w) A (getAttr? (.ref x) "__class__") Q E s := by
  have fo : PySem.W.findObj K C (some od) "__class__" = some (.bind (.builtin "getset_descriptor.__get__") (.builtin "object.__class__")) := by
    obtain ⟨cd, e, _⟩ := PySem.W.any_some T.dic
    unfold PySem.W.findObj
    rw [e, Option.bind_some, T.cl, Option.bind_some]
    simp [F.sp, F.tk]
  obtain ⟨hp, g, d, t, os⟩ := s
  have a0 := I.type (M := model prog w)
  have a1 := PySem.W.looks_findIn (M := model prog w) X T.ga
  have a2 := PySem.W.looks_findIn (M := model prog w) X T.gg
  have a3 := PySem.W.looks_find (M := model prog w) X I fo
  have isB : PySem.W.Looks (model prog w) hp (isInstance (.ref x) (.type "BaseException")) true := a0.andThen (PySem.W.looks_subIn X T.exC)
  have ne0 : (Value.builtin "BaseException.__getattribute__" == Value.builtin "object.__getattribute__") = false := by decide +kernel
  have ne1 : (onTheHeap (Value.ref C) && Value.builtin "BaseException.__getattribute__" == Value.builtin "object.__getattribute__") = false := by
    rw [ne0]
    rfl
  unfold getAttr? getAttrBy? getAttrBy
  refine wpAny_bind (wpAny_mkText (wpAny_bind (wpAny_attempt (wpAny_holding (wpAny_bind (a0.at (wpAny_bind (a1.at ?_))))))))
  show wpAny _ _ (if (onTheHeap (Value.ref C) && Value.builtin "BaseException.__getattribute__" == Value.builtin "object.__getattribute__") = true then _ else _) _ _ _
  rw [ne1, if_neg Bool.false_ne_true]
  unfold getAttrByItsOwn hookBefore
  refine wpAny_bind ?_
  rw [if_pos (show onTheHeap (Value.ref C) = true from rfl)]
  refine a2.at (wpAny_bind (wpAny_attempt (wpAny_holding ?_)))
  unfold callGetattribute
  rw [if_neg (show ¬ ((false && onTheHeap (Value.builtin "BaseException.__getattribute__")) = true) from Bool.false_ne_true)]
  unfold boundAndCalled
  rw [PySem.F.excAttr_ValueError.ga.bind (.ref x)]
  refine wpAny_bind (wpAny_pure ?_)
  show wpAny _ _ (call (.builtin "BaseException.__getattribute__") [.ref x, .str "__class__" t]) _ _ _
  refine wpAny_call (codeAny_call_builtin PySem.F.excAttr_ValueError.ga.plain PySem.F.entry_bexc_ga ?_)
  refine @PySem.W.check_slot (model prog w) _ _ ⟨hp, g, d, t + 1, os⟩ "BaseException.__getattribute__" "BaseException" "__getattribute__" (.ref x) [.str "__class__" t] [] _ (by decide +kernel) (by decide +kernel) isB (PySem.F.args_bexc_ga (.ref x) (.str "__class__" t)) ?_
  unfold Builtin.«object.__getattribute__»
  refine wpAny_bind (wpAny_of_eq (a := ((Value.ref x : Value), [Value.str "__class__" t])) (by first | rfl | (simp only [slotArgs]; rfl)) ?_)
  refine wpAny_bind (wpAny_pure (wpAny_bind (a0.at (wpAny_bind (a3.at ?_)))))
  show wpAny _ _ (holding [Value.builtin "object.__class__"] (call (.builtin "getset_descriptor.__get__") [.builtin "object.__class__", .ref x, .ref C]) >>= ret) _ _ _
  refine wpAny_bind (wpAny_holding (wpAny_call (PySem.W.class_get (s := ⟨hp, g, d, t + 1, os⟩) X I T.mro (wpAny_pure ?_))))
  show wpAny _ _ (handedOut (.ref C)) _ _ _
  rw [PySem.W.handedOut_of (v := .ref C) rfl]
  first
  | exact wpAny_pure (wpAny_pure h)
  | exact wpAny_pure h
  | exact wpAny_pure (wpAny_bind (wpAny_pure (wpAny_pure h)))
theorem kitx_x (T : ExCls K C newId tl) (F : IsK K) : PySem.W.KitX K (.ref x) (.ref C) (fun h => PySem.W.InstAt h x ox C (some od)) where
  ty := fun _ _ _ I => I.type
  it := fun _ _ X _ => by
    obtain ⟨_, _, _, _, ho⟩ := clsOb T.dic
    intro A' Q' E' s' k q
    exact wpAny_bind (wpAny_loadPart (k _ _ (X _ _ ho)) (wpAny_pure q))
  ne := fun h tp dd its n sl X htp => by
    obtain ⟨_, _, _, _, ho⟩ := clsOb T.dic
    refine Bool.eq_false_iff.mpr fun q => ?_
    have e : C = tp := Value.ref.inj (beq_iff_eq.mp q)
    rw [← e, X _ _ ho] at htp
    cases htp
  ca := fun X I k => clsAsk T F X I k
end
/-- isinstance(e, c), e an own exception that stands at a -/
def rIsX (K : PySem.W.Frag) : List V → Hp → VK → Prop := fun xs H Q => ∃ (a C : Addr) (fs : List (Str × V)) (newId : String) (tl : List Value) (c : V) (cv : Value) (b : Bool), xs = [.ref a, c] ∧ ClsV c cv ∧ ExAt H a C fs ∧ ExCls K C newId tl ∧ IsK K ∧ PySem.W.kitOne K (.ref C) cv = some b ∧ Q (.bl b) H
/-- e.f of such a one -/
def tXa (K : PySem.W.Frag) (f : Str) (te : TE) : TE := fun σ H Q => te σ H fun x H1 => ∃ (a C : Addr) (fs : List (Str × V)) (newId : String) (tl : List Value) (v : V), x = .ref a ∧ ExCls K C newId tl ∧ PySem.W.findIn K (.ref C) f = some none ∧ ExAt H1 a C fs ∧ fs.lookup f = some v ∧ Q v H1
section
variable {X : Cx}
theorem exAt_in {pins : List (Addr × Obj)} {σ : L2.St} {H : Hp} {s : Shared} {a C : Addr} {fs : List (Str × V)} (I : Inv X pins σ H s) (x : ExAt H a C fs) : ∃ (oe od : Obj) (mA : Str → Option Value), PySem.W.InstAt s.heap a oe C (some od) ∧ (∀ name, PySem.W.lookIn name od = some (mA name)) ∧ ∀ f, RelO (fs.lookup f) (mA f) := by
  obtain ⟨oe, d, vs, h1, h2, h3, h4, _, h5⟩ := x.ex
  have g1 := pinO_at I.hok h1
  obtain ⟨mA, hn, hr⟩ : ∃ mA, s.heap.Ns1 d mA ∧ ∀ f, RelO (fs.lookup f) (mA f) := I.hok d _ h5
  obtain ⟨od, ho, hl⟩ := lookIn_ns hn
  refine ⟨oe, od, mA, ⟨g1, h2, ?_, ?_⟩, hl, hr⟩
  · unfold PySem.W.notCls
    rw [h4]
  · rw [h3]
    exact ho
theorem call_isX : CallR X (.builtin "isinstance") (rIsX X.K) := by
  intro pins s σ H xs us Q I r h
  obtain ⟨a, C, fs, newId, tl, c, cv, b, rfl, k, x, T, F, e, q⟩ := h
  obtain ⟨u1, u2, rfl, r1, r2⟩ := vals2 r
  cases r1
  have e2 := k.eq r2
  subst e2
  obtain ⟨oe, od, mA, J, _, _⟩ := exAt_in I x
  exact PySem.W.kia_one (kitx_x T F) I.kIn J e (fun z => nomatch z) fun tk => ⟨.bl b, H, I.tok tk, rfl, q⟩
theorem pe_xa {e : Expr} {te : TE} {f : Str} {pos : Pos} (he : PE X e te) (hb : attributeBase e f X.env (eval e X.env) = eval e X.env := by rfl) : PE X (.Attribute e f pos) (tXa X.K f te) := by
  refine ⟨fun pins s σ H Q I h => attr_of hb (thn (he.run pins s σ H _ I h) fun u s1 hh => ?_)⟩
  obtain ⟨x, H1, I1, rx, a, C, fs, newId, tl, v, rfl, T, hno, ex, l, q⟩ := hh
  cases rx
  obtain ⟨oe, od, mA, J, hl, hr⟩ := exAt_in I1 ex
  obtain ⟨u, hu, ru⟩ := RelO.some_of (v := v) (o := mA f) (by rw [← l]; exact hr f)
  exact HandSPX.exc_get I1.kIn J T.ga T.gg T.exC (PySem.W.findObj_own T.dic hno rfl (by rw [hl, hu])) (handed_of ru) ⟨v, H1, I1.tok _, ru, q⟩
end
end XV
namespace XV
open PySem PySem.Spec PyProof.Rows L2
/-! a made exception, raised -/
def tRaiseV (K : PySem.W.Frag) (H0 : Hp) (te : TE) : L2.St → Hp → XK → Prop := fun σ H Q => te σ H fun x H1 => ∃ (a C d t0 : Addr), x = .ref a ∧ H1 a = some (pinO a (newX C d t0)) ∧ Fr0 H0 a ∧ PySem.W.subIn K (.ref C) (.type "BaseException") = some true ∧ PySem.W.typeIn K (.ref C) = some (.type "type") ∧ Q (.ref C) (some d) (delH H1 a)
theorem pmk_val {X : Cx} {e : Expr} {te : TE} {K : PySem.W.Frag} {H0 : Hp} (eK : X.K = K) (eH : X.H_0 = H0) (hx : X.ex = []) (he : PE X e te) : PMk X e (tRaiseV K H0 te) := by
  subst eK eH
  intro pins s σ H Q I h
  refine wpAny_mono (he.run pins s σ H _ I h) (fun u s1 hu => ?_) fun _ _ x => x
  obtain ⟨v, H1, I1, r1, a, C, d, t0, rfl, ha, h0, hr1, hr2, q⟩ := hu
  cases r1
  have ho := pinO_at I1.hok ha
  obtain ⟨G, gs, ga, J⟩ := I1.untrack ha h0 hx
  exact ⟨a, _, _, { s1 with heap := G }, delH H1 a, .ref C, some d, rfl, J, gs, ga, ho, ⟨rfl, rfl⟩, rfl, rfl, delH_same, rfl, I1.bare, raises_own hr1 hr2, q⟩
/-! defs that may be called while an exception is handled -/
structure FnW (P : Program) (w : World) (K : PySem.W.Frag) (mg : Str → Option Value) (base : Heap) (k : Nat) (f : Addr) (fd : FuncData) (ps : List Str) (sp : Sp) : Prop where
  len : ∀ vs H Q E, sp vs H Q E → vs.length = ps.length
  run : ∀ (A : Around) (outer : List Env) (s : Shared) (H : Hp) (args : Args) (us : List Value) (vs : List V) (Q : VK), L2H.RoomH k A → Env0 P w K mg base A outer s H → BindsTo s fd args (ps.zip us) → Vals vs us → sp vs H Q E0 →
    codeAny (model P w) A (.call (.ref f) args) (CR CX0 outer P w H s Q E0) s
theorem FnW.ok {P : Program} {w : World} {K : PySem.W.Frag} {mg : Str → Option Value} {base : Heap} {k : Nat} {f : Addr} {fd : FuncData} {ps : List Str} {sp : Sp} (F : FnW P w K mg base k f fd ps sp) (hE : ∀ vs H Q E, sp vs H Q E → sp vs H Q E0) : FnOk P w K mg base CX0 k f fd ps sp :=
  ⟨F.len, fun A outer s H args us vs Q E hr e0 hb r h => codeAny_mono (F.run A outer s H args us vs Q (L2H.roomH_of hr) e0 hb r (hE _ _ _ _ h)) fun _ _ z => z⟩
theorem okW {P : Program} {w : World} {K : PySem.W.Frag} {mg : Str → Option Value} {base : Heap} {x qual : Str} {st : Stmt} {f : Addr} {fd : FuncData} {N ps : List Str} {k : Nat} {sp : Sp} (F : Fun K x qual st f fd) (S : FnScope N ps (defScope st)) (len : ∀ vs H Q E, sp vs H Q E → vs.length = ps.length)
    (hbody : ∀ (cdv : Value) (A : Around) (outer : List Env) (s : Shared) (H : Hp) (vs : List V) (Q : VK) (p : Addr × Obj), L2H.RoomH k (A.deeper (envOfC qual (defScope st) s.heap.objs.size f cdv)) → sp vs H Q E0 →
      ∃ t, PSs (L2H.cxH CX0 P w K mg base N qual (defScope st) f cdv A outer s H E0 p) (defBody st) t ∧ t { nx := fun _ H' => Q .non H', rt := Q } (start N vs) H) : FnW P w K mg base (k + 1) f fd ps sp := by
  obtain ⟨oc, od, kV, doc, pm, an, cdv, ct, osl, rfl, lk, hcd⟩ := F.ex
  refine ⟨len, fun A outer s H args us vs Q hr e0 hb r hsp => ?_⟩
  have hf := e0.bs f _ (e0.mod.kin _ _ lk)
  have KX : K.In s.heap := e0.mod.kin.keeps fun b o e => (e0.bs b o e).1
  have lim : s.heap.NoLimit := e0.mod.nolimit.keeps fun b o e => (e0.bs b o e).1
  have hk : ∀ y ∈ ps.zip us, (defScope st).names.lookup y.1 = some .local ∨ ((defScope st).names.lookup y.1 = some .cell ∧ ((cellsFrom (s.heap.objs.size + 1) (defScope st).names []).lookup y.1).isSome = true) := fun ⟨n, v⟩ hy => by
    rcases S.par n (List.of_mem_zip hy).1 with q | q
    · exact .inl q
    · exact .inr ⟨q, PySem.W.cellsFrom_some _ _ _ (.inl q)⟩
  refine codeAny_call_function hr.depth (KX _ _ lk) rfl S.co S.gen rfl (PySem.W.codeRec_of KX hcd) (hb _ _ _ _ (wpAny_newFunctionEnv_cells S.kind hk fun env he s1 x => ?_))
  subst he
  refine ⟨lim.keeps x.toInCall.keep, codeAny_func ?_⟩
  obtain ⟨t, ht, hq⟩ := hbody cdv A outer s H vs Q (f, _) (hr.deeper _) hsp
  have I := L2H.inv_startH (CX := CX0) (E := E0) (cd := cdv) S (p := (f, _)) ⟨hf.1, hf.2, fun z => (by have y := (e0.funs.mem z).1; rw [e0.mod.kin _ _ lk] at y; cases y), fun v z => nomatch z⟩ e0 (len _ _ _ _ hsp) r x
  refine wpAny_mono (ht.run [] s1 _ H _ I hq) (fun fl s' hs => ?_) fun e s' hs => hs
  cases fl with
  | ret u =>
    obtain ⟨v, σ', H', J, rv, q⟩ := hs
    exact ⟨v, H', J.os, J.bare, J.base, J.hok, rv, q⟩
  | next =>
    obtain ⟨σ', H', J, q⟩ := hs
    exact ⟨.non, H', J.os, J.bare, J.base, J.hok, rfl, q⟩
  | brk =>
    obtain ⟨_, _, _, q⟩ := hs
    exact False.elim q
  | cont =>
    obtain ⟨_, _, _, q⟩ := hs
    exact False.elim q
/-! the exception of an except suite, told to a def -/
/-- f(..) in the suite of the exception at a; its own dict at d -/
def tWx (a : Addr) (oe : Obj) (sp : Sp) (t : TA) : TE := fun σ H Q => t σ H fun vs H1 => sp vs (upd H1 a (pinO a oe)) (fun v H2 => H2 a = some (pinO a oe) ∧ Q v (del H2 a)) E0
theorem hok_pin {P : Program} {w : World} {H : Hp} {h : Heap} {a : Addr} {oe : Obj} (ok : HOk P w H h) (na : H a = none) (e : h.get? a = some oe) : HOk P w (upd H a (pinO a oe)) h := fun b o q => by
  by_cases hb : b = a
  · subst hb
    rw [upd_same] at q
    cases q
    exact pinO_ok e
  · rw [upd_ne hb] at q
    exact (ok b o q).stay (fun _ _ _ z => z) (fun c z => by rw [upd_ne (ne_of_none z na)]; exact z) fun c xs z => by rw [upd_ne (ne_of_none z na)]; exact z
theorem hok_unpin {P : Program} {w : World} {H : Hp} {h : Heap} {a : Addr} {oe : Obj} (ok : HOk P w H h) (ea : H a = some (pinO a oe)) : HOk P w (del H a) h := fun b o q => by
  have hb : b ≠ a := fun z => by
    rw [z, del_same] at q
    cases q
  rw [del_ne hb] at q
  exact (ok b o q).stay (fun _ _ _ z => z) (fun c z => by rw [del_ne (at_ne ea z ext_own)]; exact z) fun c xs z => by rw [del_ne (at_ne ea z ext_tup)]; exact z
theorem pe_wx {X : Cx} {a f : Addr} {oe : Obj} {pn : List (Addr × Obj)} {k : Nat} {fd : FuncData} {ps : List Str} {sp : Sp} {x : Str} {q pos : Pos} {e : Expr} {es : List Expr} {t : TA} (hba : X.base.get? a = none) (F : FnW X.prog X.w X.K X.mg X.base k f fd ps sp) (hr : L2H.RoomH k (X.A.mark (some (.ref a))))
    (hg : Gl (X.suite a ((a, oe) :: pn)) x) (hm : X.mg x = some (.ref f)) (hk : PySem.W.keepIn X.K (.ref f) = true) (hb : Binds X.K fd ps []) (ha : PA (X.suite a ((a, oe) :: pn)) (e :: es) t) (hdb : (x == ("__debug__" : Str)) = false := by decide)
    (he : starEach (e :: es) X.env = (false, eval e X.env) :: starEach es X.env := by rfl) (hpl : (backTo pos (starEach es X.env)).any (·.1) = false := by rfl) :
    PE (X.suite a ((a, oe) :: pn)) (.Call (.Name x q) (e :: es) [] pos) (tWx a oe sp t) := by
  refine ⟨fun pins s σ H Q I h => wpAny_Call_Name_kw (ld_glob I hg hm ?_ hdb)⟩
  refine PySem.W.callWith_K (h₀ := X.base) I.ok.mod.kin hk (thn (ha.run pos pins s σ H _ I h) fun us s1 hv => ?_) he hpl
  obtain ⟨vs, H1, I1, r, q1⟩ := hv
  refine ⟨I1.kIn, ?_⟩
  show wpAny _ _ (call (.ref f) us) _ _ _
  obtain ⟨pa, na, nL, nF, nc⟩ := I1.pin (a, oe) (List.mem_append_left _ List.mem_cons_self)
  have neb : ∀ {b o}, X.base.get? b = some o → b ≠ a := fun z y => by rw [y, hba] at z; cases z
  have nfr : ∀ b ∈ frs X.stack, b ≠ a := fun b hb z => (List.mem_cons.mp (I1.stkSub b hb)).elim (fun y => nL (z ▸ y)) (fun y => nF (z ▸ y))
  have e0 := I1.env0
  have e1 : Env0 X.prog X.w X.K X.mg X.base (X.A.mark (some (.ref a))) X.stack s1 (upd H1 a (pinO a oe)) :=
    ⟨e0.frames, e0.mod, fun b o z => ⟨(e0.bs b o z).1, by rw [upd_ne (neb z)]; exact (e0.bs b o z).2⟩, e0.bsz, e0.funs, fun b hb => by rw [upd_ne (nfr b hb)]; exact e0.frf b hb, hok_pin e0.hok na pa, e0.bare⟩
  have hl : us.length = ps.length := by
    rw [← r.length]
    exact F.len _ _ _ _ q1
  have b := hb s1 us I1.kIn (by rw [List.append_nil]; exact hl)
  rw [List.append_nil] at b
  refine wpAny_call (codeAny_mono (F.run _ X.stack s1 _ ⟨us, []⟩ us vs _ hr e1 b r q1) fun r s' hq => ?_)
  cases r with
  | error er => exact hq.elim
  | ok fl =>
    cases fl with
    | ret u =>
      obtain ⟨v, H2, os, bare, un, hok, rv, ea, q2⟩ := hq
      have keepA := pinO_at hok ea
      have un2 : Un (frs X.stack) [] H1 (del H2 a) s1.heap s'.heap := {
        keep := fun b o z n hf hx => by
          by_cases y : b = a
          · subst y
            rw [pa] at z
            cases z
            exact keepA
          · exact un.keep b o z (by rw [upd_ne y]; exact n) hf hx
        slot := fun b o z n hf hx => un.slot b o z (by rw [upd_ne (nfr b hf)]; exact n) hf hx
        free := fun b o z n hx => by
          by_cases y : b = a
          · rw [y, del_same]
          · rw [del_ne y]
            exact un.free b o z (by rw [upd_ne y]; exact n) hx
        there := un.there
        tups := fun b xs z => by
          have y := un.tups b xs (by rw [upd_ne (ne_of_none z na)]; exact z)
          rw [del_ne (ne_of_none z na)]
          exact y
        frzs := fun b o v z => by
          have y := un.frzs b o v (by rw [upd_ne (ne_of_none z na)]; exact z)
          rw [del_ne (ne_of_none z na)]
          exact y
        tbls := fun b ps z => by
          have y := un.tbls b ps (by rw [upd_ne (ne_of_none z na)]; exact z)
          rw [del_ne (ne_of_none z na)]
          exact y }
      exact ⟨v, del H2 a, I1.call' (ch := []) os un2 (hok_unpin hok ea) bare (fun b z => absurd z (by simp)), rv, q2⟩
    | next => exact hq.elim
    | brk => exact hq.elim
    | cont => exact hq.elim
end XV
namespace XV
open PySem PySem.Spec PyProof.Rows L2
abbrev Sui := Addr → Obj → Value → Option Addr → TS
/-- the ends of a suite whose name at slot i goes with it -/
abbrev goneE (D : Ends) (i : Nat) : Ends := { nx := fun σ H => D.nx (σ.set i none) H, rt := D.rt, bk := fun σ H => D.bk (σ.set i none) H, ct := fun σ H => D.ct (σ.set i none) H }
/-- what clauses «except c as n» (n in slot i) wish of an exception of the body -/
def wAll (K : PySem.W.Frag) (Wo : WX) (D : Ends) : List (Value × Nat × Sui) → WX
  | [] => Wo
  | (c, i, ts) :: r => fun cls d σ H => ∃ b, PySem.W.exmOne K cls c = some b ∧
      (b = true → ∀ (a : Addr) (oe : Obj), H a = none → Zc cls d oe → (∃ vs, oe.data = .fields vs) → ts a oe cls d (goneE D i) (σ.set i (some (.ref a))) H) ∧ (b = false → wAll K Wo D r cls d σ H)
inductive Clauses (X : Cx) : List ExceptHandler → List (Value × Nat × Sui) → Prop
  | nil : Clauses X [] []
  | cons {x n : Str} {c : Value} {i : Nat} {ts : Sui} {b₀ : Stmt} {suite : List Stmt} {np pos' : Pos} {hds : List ExceptHandler} {l : List (Value × Nat × Sui)} (hc : Names X x c) (hi : X.N[i]? = some n) (hn : X.env.kindOf n = some .local)
      (su : ∀ (a : Addr) (oe : Obj) (cls : Value) (d : Option Addr) (pn : List (Addr × Obj)), Zc cls d oe → (∃ vs, oe.data = .fields vs) → X.base.get? a = none → PSs (X.suite a ((a, oe) :: pn)) (b₀ :: suite) (ts a oe cls d)) (r : Clauses X hds l) :
      Clauses X (.ExceptHandler (some (.Name x np)) (some n) (b₀ :: suite) pos' :: hds) ((c, i, ts) :: l)
section
variable {X : Cx} {body : List Stmt} {h₀ : ExceptHandler} {hds : List ExceptHandler} {l : List (Value × Nat × Sui)} {pos : Pos} {tb : WX → TS} {Wo : WX}
theorem ps_try_all (hs : X.stack = X.env :: X.outer) (hf : X.env.frame = some X.env.locals) (hN : X.N.Nodup) (tk : Takes X Wo)
    (hb : ∀ (W : WX) (pn : List (Addr × Obj)) (xe : Value → Shared → Prop), Takes (X.tr pn xe) W → PassesOwn (model X.prog X.w) X.A X.env xe → PSs (X.tr pn xe) body (tb W))
    (hh : Clauses X (h₀ :: hds) l) : PS X (.Try body (h₀ :: hds) [] [] pos) (fun D σ H => tb (wAll X.K Wo D l) D σ H) := by
  refine ⟨fun pins s σ H D I h => wpAny_Try_except (wpAny_mono ((hb (wAll X.K Wo D l) (X.pn ++ pins) _ (fun u s' xx => ?_) PassesOwn.looking).run [] s σ H D (I.toTry _) h) (fun f s1 q => ?_) (fun e s1 he => he))⟩
  · have ok := I.ok
    have frs' : X.A.frames = some (X.env :: X.outer) := by rw [ok.frames, hs]
    obtain ⟨a, B, sI, pins', σ', H', cls, d, rfl, J', nb, up, sky, na, os, ag, w⟩ := xx
    have J : Inv X pins σ' H' sI := J'.ofTry ok
    have sky2 : Sky B (X.env :: X.outer) a (Zc cls d) X.env.locals s'.heap := by rw [← hs]; exact sky
    show wpAny (model X.prog X.w) X.A (noteFrame (.ref a) X.env) _ _ _
    refine Sky.land Zc.steady frs' hf sky2 fun h3 fl3 up3 => ?_
    have J3 : Inv X pins σ' H' { s' with heap := h3 } := J.landed nb fl3.1 (up.trans up3) os ag
    obtain ⟨oe3, vs3, he3, hz3, hd3⟩ := fl3.there
    have nfr : a ∉ frs (X.env :: X.outer) := fun hm => by
      obtain ⟨_, o', e', hnf⟩ := fl3.2.2.1.mem hm
      rw [he3] at e'
      cases e'
      exact hnf _ hd3
    have nL : a ≠ X.env.locals := fun z => nfr (List.mem_filterMap.mpr ⟨X.env, List.mem_cons_self, by rw [hf, z]⟩)
    have nF : a ∉ X.fs := fun hm => by
      obtain ⟨e, he, q⟩ := List.mem_filterMap.mp hm
      exact nfr (List.mem_filterMap.mpr ⟨e, List.mem_cons_of_mem _ he, q⟩)
    have nba : X.base.get? a = none := by
      cases z : X.base.get? a with
      | none => rfl
      | some o =>
        have y := nb a o (J.bk a o z) (by rw [hs]; exact nfr)
        rw [fl3.2.1] at y
        cases y
    have S3 := J3.suite he3 hd3 na nL nF
    have go : ∀ {hds' : List ExceptHandler} {l' : List (Value × Nat × Sui)}, Clauses X hds' l' → wAll X.K Wo D l' cls d σ' H' → wpAny (model X.prog X.w) X.A (handleBy (.ref a) X.env hds') (SP X pins D) X.xe { s' with heap := h3 } := by
      intro hds' l' hk
      induction hk with
      | nil =>
        intro w
        obtain ⟨_, _, _, oe, vs, T, oT, ts', he, hz, hd, h1, hr⟩ := id fl3
        refine wpAny_handleBy_nil ?_
        unfold PySem.passOn
        refine wpAny_bind (wpAny_field he hd h1 ?_)
        rw [if_neg (show ¬ ((Value.ref T == Value.none) = true) from by simp)]
        have fin : wpAny (model X.prog X.w) X.A (setFlight (.ref a) X.env.frame) (fun _ s4 => wpAny (model X.prog X.w) X.A (throw (.ref a) : Sem Flow) (SP X pins D) X.xe s4) X.xe { s' with heap := h3 } := by
          rw [hf]
          exact HandSPX.setFlight_upZ fl3 fun h4 hh4 up4 => wpAny_throw (tk _ _ ⟨a, B, sI, pins, σ', H', cls, d, rfl, J, nb, (up.trans up3).trans up4, .inr (.inr (by rw [hs]; exact hh4)), na, os, ag, w⟩)
        first
        | exact wpAny_bind (wpAny_pure (wpAny_bind fin))
        | exact wpAny_bind fin
      | @cons x n c i ts b₀ suite np pos' hds2 l2 hc hi hn su r ih =>
        intro w
        obtain ⟨b, hb1, yes, no⟩ := w
        have loc : Loc X.env.scope n := .inl hn
        refine wpAny_handleBy_cons (codeAny_handlers_test ?_) (by intro q; cases q)
        have LT : PySem.W.Looks (model X.prog X.w) h3 (typeOf (.ref a)) cls := fun A Q E s k q => wpAny_typeOf_ref (k _ _ he3) (by rw [hz3.1]; exact q)
        have LM := PySem.W.exm_one (M := model X.prog X.w) J3.kIn LT hb1
        have ask : ∀ {Q : Value → Shared → Prop} {E : Value → Shared → Prop}, Q c { s' with heap := h3 } → wpAny (model X.prog X.w) (X.A.mark (some (.ref a))) (eval (.Name x np) X.env) Q E { s' with heap := h3 } := fun {Q E} q => by
          obtain ⟨hg, hdb, hm | ⟨hm, hv, hnn⟩⟩ := hc
          · exact ld_glob (X := X.suite a ((a, oe3) :: (X.pn ++ pins))) S3 hg hm q hdb
          · exact ld_blt (X := X.suite a ((a, oe3) :: (X.pn ++ pins))) S3 hg hm hv q hnn hdb
        refine ask (LM.here ?_)
        cases b with
        | false =>
          show wpAny _ X.A (handleBy (.ref a) X.env hds2) _ _ _
          exact ih (no rfl)
        | true =>
          refine codeAny_handlers_suite_as (HandSPX.lands_againZ fl3 fun h4 fl4 up4 => ?_)
          have J4 : Inv X pins σ' H' { s' with heap := h4 } := J.landed nb fl4.1 ((up.trans up3).trans up4) os ag
          obtain ⟨oe4, vs4, he4, hz4, hd4⟩ := fl4.there
          refine store_ok (X := X.suite a ((a, oe4) :: (X.pn ++ pins))) (v := .ref a) (J4.suite he4 hd4 na nL nF) hN hi loc rfl (fun s5 S5 => ?_) (.inr hn)
          refine wpAny_mono ((su a oe4 cls d (X.pn ++ pins) hz4 ⟨_, hd4⟩ nba).run [] s5 _ H' _ S5 (yes rfl a oe4 na hz4 ⟨_, hd4⟩)) (fun f s6 q => ?_) (fun _ _ z => False.elim z)
          have over : ∀ {σ6 : L2.St} {H6 : Hp} {Q : Shared → Prop}, Inv (X.suite a ((a, oe4) :: (X.pn ++ pins))) [] σ6 H6 s6 → (∀ s7, Inv X pins (σ6.set i none) H6 s7 → Q s7) → wpAny (model X.prog X.w) X.A (do bindName X.env n .none; unbindBehindTheSuite X.env n pos') (fun _ s7 => Q s7) X.xe s6 :=
            fun S6 hq => gone_ok (S6.unsuite ok) hN hi hn hq
          cases f with
          | ret u =>
            obtain ⟨v6, σ6, H6, S6, r6, q6⟩ := q
            exact over S6 fun s7 J7 => ⟨_, _, _, J7, r6, q6⟩
          | next =>
            obtain ⟨σ6, H6, S6, q6⟩ := q
            exact over S6 fun s7 J7 => ⟨_, _, J7, q6⟩
          | brk =>
            obtain ⟨σ6, H6, S6, q6⟩ := q
            exact over S6 fun s7 J7 => ⟨_, _, J7, q6⟩
          | cont =>
            obtain ⟨σ6, H6, S6, q6⟩ := q
            exact over S6 fun s7 J7 => ⟨_, _, J7, q6⟩
    exact go hh w
  · cases f with
    | ret u =>
      obtain ⟨v, σ', H', J', r, q⟩ := q
      exact ⟨v, σ', H', J'.ofTry I.ok, r, q⟩
    | next =>
      obtain ⟨σ', H', J', q⟩ := q
      exact wpAny_execs_nil ⟨σ', H', J'.ofTry I.ok, q⟩
    | brk =>
      obtain ⟨σ', H', J', q⟩ := q
      exact ⟨σ', H', J'.ofTry I.ok, q⟩
    | cont =>
      obtain ⟨σ', H', J', q⟩ := q
      exact ⟨σ', H', J'.ofTry I.ok, q⟩
end
end XV
namespace Lw
open PySem PySem.Spec PyProof.Rows L2 XV
def top (i : Nat) : Stmt := PySem.Challenge.pw_bothleast_k00_errors_told.main.body.getD i (.Pass ⟨0, 0, 0, 0⟩)
def topOf (n : Str) : Stmt := (PySem.Challenge.pw_bothleast_k00_errors_told.main.body.find? fun s => match s with | .FunctionDef m .. => m == n | .ClassDef (name := m) .. => m == n | _ => false).getD (.Pass ⟨0, 0, 0, 0⟩)
/-- the built-in names that stand free -/
structure Bt (mg : Str → Option Value) : Prop where
  int : mg "int" = none
  len : mg "len" = none
  list : mg "list" = none
  tuple : mg "tuple" = none
  isinstance : mg "isinstance" = none
  all : mg "all" = none
  range : mg "range" = none
  bool : mg "bool" = none
  str : mg "str" = none
  dict : mg "dict" = none
/-- a def of the text where it stands -/
structure Df (K : PySem.W.Frag) (mg : Str → Option Value) (nm : Str) (st : Stmt) (ps : List Str) (f : Addr) (fd : FuncData) : Prop where
  fn : Fun K nm nm st f fd
  bd : Binds K fd ps []
  g : mg nm = some (.ref f)
section
variable {X : Cx}
theorem cal {nm : Str} {st : Stmt} {ps : List Str} {f : Addr} {fd : FuncData} {k : Nat} {sp : Sp} {p pos : Pos} {e : Expr} {es : List Expr} {t : TA} (D : Df X.K X.mg nm st ps f fd) (G : FnOk X.prog X.w X.K X.mg X.base CX0 k f fd ps sp) (hr : Room k X.A) (ha : PA X (e :: es) t) (hg : Gl X nm := by rfl)
    (hdb : (nm == ("__debug__" : Str)) = false := by decide) (he : starEach (e :: es) X.env = (false, eval e X.env) :: starEach es X.env := by rfl) (hpl : (backTo pos (starEach es X.env)).any (·.1) = false := by rfl) : PE X (.Call (.Name nm p) (e :: es) [] pos) (tCall sp [] E0 t) :=
  pe_call G hr hg D.g D.fn.kp D.bd .nil pass0 ha hdb he hpl
theorem call_intI : CallR X (.type "int") (fun xs H Q => ∃ i, xs = [.int i] ∧ Q (.int i) H) := fun pins s σ H xs us Q I r ⟨i, e, q⟩ => call_int1 pins s σ H xs us Q I r (.inl ⟨i, e, q⟩)
theorem call_lenL : CallR X (.builtin "len") (fun xs H Q => ∃ p ys, xs = [.ref p] ∧ SqL X.K H p ys ∧ Q (.int ys.length) H) := fun pins s σ H xs us Q I r ⟨p, ys, e, h, q⟩ => call_len_seq pins s σ H xs us Q I r ⟨p, ys, e, .inl h, q⟩
theorem call_listL : CallR X (.type "list") (fun xs H Q => ∃ p ys, xs = [.ref p] ∧ SqL X.K H p ys ∧ ∀ l, H l = none → Q (.ref l) (upd H l (.lst ys))) := fun pins s σ H xs us Q I r ⟨p, ys, e, h, q⟩ => call_list_of pins s σ H xs us Q I r ⟨p, ys, e, .inl h, q⟩
end
/-- a statement, a word behind it, then the rest from this word alone -/
def tMid (t u : TS) : TS := fun D σ H => ∃ M : L2.St → Hp → Prop, t { D with nx := M } σ H ∧ ∀ σ' H', M σ' H' → u D σ' H'
theorem pss_mid {X : Cx} {st : Stmt} {rest : List Stmt} {t u : TS} (h1 : PS X st t) (h2 : PSs X rest u) : PSs X (st :: rest) (tMid t u) := by
  refine ⟨fun pins s σ H D I h => ?_⟩
  obtain ⟨M, a, b⟩ := h
  refine wpAny_execs_cons (thn (h1.run pins s σ H _ I a) fun f s1 q => ?_)
  cases f with
  | next =>
    obtain ⟨σ', H', I', q⟩ := q
    exact h2.run pins s1 σ' H' D I' (b σ' H' q)
  | ret v => exact q
  | brk => exact q
  | cont => exact q
/-! the bag -/
/-- all but what stands at b is as it was -/
def But (b : Addr) (H H' : Hp) : Prop := ∀ a o, a ≠ b → H a = some o → H' a = some o
theorem But.refl (b : Addr) (H : Hp) : But b H H := fun _ _ _ h => h
theorem But.trans {b : Addr} {H H1 H2 : Hp} (x : But b H H1) (y : But b H1 H2) : But b H H2 := fun a o n h => y a o n (x a o n h)
theorem But.upd {b : Addr} {H H1 : Hp} {o : HO} (x : But b H H1) : But b H (upd H1 b o) := fun a u n h => by rw [upd_ne n]; exact x a u n h
theorem But.new {b p : Addr} {H H1 : Hp} {o : HO} (x : But b H H1) (hp : H1 p = none) : But b H (L2.upd H1 p o) := fun a u n h => by
  have y := x a u n h
  rw [upd_ne (ne_of_none y hp)]
  exact y
def bagO (l : Addr) (i g m c d : Int) : HO := .lst [.ref l, .int i, .int g, .int m, .int c, .int d]
/-- where the bag stands, where its numbers, which they are -/
structure Bg where
  b : Addr
  l : Addr
  ns : List Int
structure BagAt (B : Bg) (H : Hp) : Prop where
  ex : ∃ (i g m c d : Int), H B.b = some (bagO B.l i g m c d) ∧ 0 ≤ i ∧ 0 ≤ m ∧ m < 2147483563
  ls : H B.l = some (.lst (B.ns.map V.int))
  ne : B.l ≠ B.b
  few : B.ns.length ≤ 63
/-- what may have come to pass: the bag has been drawn from, new things were made -/
structure Go (B : Bg) (H H' : Hp) : Prop where
  but : But B.b H H'
  bag : BagAt B H'
section
variable {B : Bg} {H H1 H2 : Hp} {p : Addr} {o : HO}
theorem BagAt.away (x : BagAt B H) (hp : H p = none) : p ≠ B.b ∧ p ≠ B.l := by
  obtain ⟨i, g, m, c, d, h, _⟩ := x.ex
  exact ⟨fun z => (by rw [z, h] at hp; cases hp), fun z => (by rw [z, x.ls] at hp; cases hp)⟩
theorem BagAt.put (x : BagAt B H) (n1 : p ≠ B.b) (n2 : p ≠ B.l) : BagAt B (upd H p o) := by
  obtain ⟨i, g, m, c, d, h, r⟩ := x.ex
  exact ⟨⟨i, g, m, c, d, by rw [upd_ne n1.symm]; exact h, r⟩, by rw [upd_ne n2.symm]; exact x.ls, x.ne, x.few⟩
theorem Go.refl (x : BagAt B H) : Go B H H := ⟨But.refl _ _, x⟩
theorem Go.trans (x : Go B H H1) (y : Go B H1 H2) : Go B H H2 := ⟨x.but.trans y.but, y.bag⟩
theorem Go.new (x : Go B H H1) (hp : H1 p = none) : Go B H (upd H1 p o) := ⟨x.but.new hp, x.bag.put (x.bag.away hp).1 (x.bag.away hp).2⟩
/-- a thing that was not there at first -/
theorem Go.free (x : Go B H H1) (hB : BagAt B H) (hp : H1 p = none) : H p = none := by
  cases e : H p with
  | none => rfl
  | some o =>
    by_cases z : p = B.b
    · exact absurd z (x.bag.away hp).1
    · rw [x.but p o z e] at hp
      cases hp
theorem Go.turn (x : Go B H H1) (hB : BagAt B H) (hp : H p = none) : Go B H (upd H1 p o) :=
  ⟨fun a u n h => by rw [upd_ne (ne_of_none h hp)]; exact x.but a u n h, x.bag.put (hB.away hp).1 (hB.away hp).2⟩
theorem Go.keep (x : Go B H H1) (hB : BagAt B H) (n : p ≠ B.b) (h : H p = some o) : H1 p = some o := x.but p o n h
end
/-- what a draw leaves -/
def spDraw : Sp := fun vs H Q _ => ∃ (B : Bg) (n : Int), vs = [.ref B.b, .int n] ∧ BagAt B H ∧ 0 < n ∧ n < 1000000000000 ∧ ∀ (d : Int) (H' : Hp), 0 ≤ d → d < n → Go B H H' → Q (.int d) H'
end Lw
namespace Lw
open PySem PySem.Spec PyProof.Rows L2 XV
abbrev sDraw : Stmt := topOf "_law_draw"
abbrev Ndraw : List Str := ["bag", "size", "item", "digit"]
theorem scDraw : FnScope Ndraw ["bag", "size"] (defScope sDraw) := ⟨rfl, rfl, rfl, by decide +kernel, rfl, by decide +kernel, by decide +kernel⟩
section
variable {P : Program} {w : World} {K : PySem.W.Frag} {mg : Str → Option Value} {base : Heap}
theorem ok_draw {f : Addr} {fd : FuncData} (F : Fun K "_law_draw" "_law_draw" sDraw f fd) (T : Bt mg) : FnOk P w K mg base CX0 1 f fd ["bag", "size"] spDraw := by
  refine F.ok scDraw (fun vs H Q E h => ?_) (fun cdv A outer s H vs Q E hr h => ?_)
  · obtain ⟨B, n, rfl, _⟩ := h
    rfl
  · obtain ⟨⟨b, l, ns⟩, n, rfl, ⟨⟨i, g, m, c, d, h1, hi, m0, m1⟩, h2, hne, hl⟩, n0, n1, k⟩ := h
    dsimp only at h1 h2 hne hl
    refine ⟨_, pss_cons (ps_asg (pe_op op_add (pe_ix ix_list (pv 0) pe_int (fun _ _ => rfl)) pe_int) (pg_sub (pv 0) pe_int set_list))
      (pss_mid (ps_if (PW.pt (pw_and (pt_cmpR op_eq (pe_ix ix_list (pv 0) pe_int (fun _ _ => rfl)) pe_int (nomark _)) (pw_and1 (pt_cmpR op_lt (pe_ix ix_list (pv 0) pe_int (fun _ _ => rfl)) (pe_callB call_lenL (by rfl) T.len (by decide +kernel) (pa_cons (pe_ix ix_list (pv 0) pe_int (fun _ _ => rfl)) pa_nil)) (nomark _)))))
        (pss_cons (ps_set (i := 2) scDraw.nd rfl (Or.inl rfl) (pe_ix ix_list (pe_ix ix_list (pv 0) pe_int (fun _ _ => rfl)) (pe_ix ix_list (pv 0) pe_int (fun _ _ => rfl)) (fun _ _ => rfl)))
        (pss_cons (ps_asg (pe_op op_add (pe_ix ix_list (pv 0) pe_int (fun _ _ => rfl)) pe_int) (pg_sub (pv 0) pe_int set_list))
        (pss_one (ps_if (pt_cmpR op_ge (pv 2) (pe_op op_pow pe_int pe_int) (nomark _))
          (pss_cons (ps_asg (pv 2) (pg_sub (pv 0) pe_int set_list))
          (pss_one (ps_asg pe_int (pg_sub (pv 0) pe_int set_list))))
          (pss_one (ps_asg (pe_op op_mod (pe_callTy call_intI (by rfl) T.int (by decide +kernel) (pa_cons (pe_op op_add (pe_op op_add (pe_op op_mul (pe_ix ix_list (pv 0) pe_int (fun _ _ => rfl)) pe_int) (pe_op op_mul (pe_op op_mod (pe_callTy call_intI (by rfl) T.int (by decide +kernel) (pa_cons (pv 2) pa_nil)) pe_int) pe_int)) pe_int) pa_nil)) pe_int) (pg_sub (pv 0) pe_int set_list)))))))
        pss_nil)
      (pss_cons (ps_if (pt_cmpR op_gt (pe_ix ix_list (pv 0) pe_int (fun _ _ => rfl)) pe_int (nomark _))
        (pss_cons (ps_set (i := 3) scDraw.nd rfl (Or.inl rfl) (pe_op op_mod (pe_callTy call_intI (by rfl) T.int (by decide +kernel) (pa_cons (pe_ix ix_list (pv 0) pe_int (fun _ _ => rfl)) pa_nil)) (pv 1)))
        (pss_cons (ps_asg (pe_op op_sub (pe_ix ix_list (pv 0) pe_int (fun _ _ => rfl)) pe_int) (pg_sub (pv 0) pe_int set_list))
        (pss_cons (ps_asg (pe_ifExp (pt_cmpR op_gt (pe_ix ix_list (pv 0) pe_int (fun _ _ => rfl)) pe_int (nomark _)) (pe_op op_fdivW (pe_ix ix_list (pv 0) pe_int (fun _ _ => rfl)) (pv 1)) pe_int) (pg_sub (pv 0) pe_int set_list))
        (pss_one (ps_ret (pv 3))))))
        pss_nil)
      (pss_cons (ps_asg (pe_op op_mod (pe_callTy call_intI (by rfl) T.int (by decide +kernel) (pa_cons (pe_op op_add (pe_op op_add (pe_op op_pow (pe_ix ix_list (pv 0) pe_int (fun _ _ => rfl)) pe_int) (pe_op op_mul (pe_ix ix_list (pv 0) pe_int (fun _ _ => rfl)) pe_int)) pe_int) pa_nil)) pe_int) (pg_sub (pv 0) pe_int set_list))
      (pss_one (ps_ret (pe_op op_mod (pe_callTy call_intI (by rfl) T.int (by decide +kernel) (pa_cons (pe_op op_add (pe_op op_fdiv (pe_ix ix_list (pv 0) pe_int (fun _ _ => rfl)) pe_int) (pe_op op_mul (pe_op op_mod (pe_callTy call_intI (by rfl) T.int (by decide +kernel) (pa_cons (pe_ix ix_list (pv 0) pe_int (fun _ _ => rfl)) pa_nil)) pe_int) pe_int)) pa_nil)) (pv 1))))))), ?_⟩
    -- bag[4] = bag[4] + 1
    refine ⟨_, rfl, b, _, 4, _, rfl, rfl, SqL.of h1, rfl, _, _, rfl, rfl, _, rfl, b, _, 4, 4, rfl, rfl, h1, rfl, ?_⟩
    show tMid _ _ _ _ (upd H b (bagO l i g m (c + 1) d))
    have g1 : upd H b (bagO l i g m (c + 1) d) b = some (bagO l i g m (c + 1) d) := upd_same
    have g2 : upd H b (bagO l i g m (c + 1) d) l = some (.lst (ns.map V.int)) := by rw [upd_ne hne]; exact h2
    have g3 : But b H (upd H b (bagO l i g m (c + 1) d)) := (But.refl b H).upd
    generalize upd H b (bagO l i g m (c + 1) d) = H1 at g1 g2 g3 ⊢
    refine ⟨fun σ' H' => ∃ (x : Option V) (i' g' m' d' : Int), σ' = [some (.ref b), some (.int n), x, none] ∧ H' b = some (bagO l i' g' m' (c + 1) d') ∧ H' l = some (.lst (ns.map V.int)) ∧ But b H H' ∧ 0 ≤ i' ∧ 0 ≤ m' ∧ m' < 2147483563, ?_, ?_⟩
    · -- if bag[2] == 0 and bag[1] < len(bag[0])
      refine ⟨_, rfl, b, _, 2, _, rfl, rfl, SqL.of g1, rfl, rfl, _, rfl, ite2 (fun c1 => ?_) (fun c1 => ?_)⟩
      · refine ⟨_, rfl, b, _, 1, _, rfl, rfl, SqL.of g1, rfl, _, rfl, b, _, 0, _, rfl, rfl, SqL.of g1, rfl, l, _, rfl, SqL.of g2, _, _, rfl, rfl, _, rfl, ite2 (fun c2 => ?_) (fun c2 => ?_)⟩
        · have c2' := of_decide_eq_true c2
          rw [List.length_map] at c2'
          obtain ⟨z, hz⟩ : ∃ z, ns[i.toNat]? = some z := ⟨_, List.getElem?_eq_getElem (by omega)⟩
          have hz' : atI (ns.map V.int) i = some (V.int z) := by
            have e : i = ((i.toNat : Nat) : Int) := by omega
            rw [e]
            exact atI_nat (by rw [List.getElem?_map, hz]; rfl)
          -- item = bag[0][bag[1]]; bag[1] = bag[1] + 1
          refine ⟨_, rfl, b, _, 0, _, rfl, rfl, SqL.of g1, rfl, _, rfl, b, _, 1, _, rfl, rfl, SqL.of g1, rfl, l, _, i, _, rfl, rfl, SqL.of g2, hz', ?_⟩
          refine ⟨_, rfl, b, _, 1, _, rfl, rfl, SqL.of g1, rfl, _, _, rfl, rfl, _, rfl, b, _, 1, 1, rfl, rfl, g1, rfl, ?_⟩
          have k1 : upd H1 b (bagO l (i + 1) g m (c + 1) d) b = some (bagO l (i + 1) g m (c + 1) d) := upd_same
          have k2 : upd H1 b (bagO l (i + 1) g m (c + 1) d) l = some (.lst (ns.map V.int)) := by rw [upd_ne hne]; exact g2
          have k3 : But b H (upd H1 b (bagO l (i + 1) g m (c + 1) d)) := g3.upd
          show (_ : Hp → Prop) (upd H1 b (bagO l (i + 1) g m (c + 1) d))
          generalize upd H1 b (bagO l (i + 1) g m (c + 1) d) = H2 at k1 k2 k3 ⊢
          -- if item >= 10 ** 18
          refine ⟨_, rfl, _, _, rfl, rfl, ⟨by decide, by decide, by decide⟩, _, _, rfl, rfl, _, rfl, ite2 (fun c3 => ?_) (fun c3 => ?_)⟩
          · refine ⟨_, rfl, _, rfl, b, _, 2, 2, rfl, rfl, k1, rfl, ?_⟩
            refine ⟨_, rfl, b, _, 5, 5, rfl, rfl, upd_same, rfl, _, i + 1, z, m, 60, rfl, ?_, ?_, k3.upd.upd, by omega, m0, m1⟩
            · exact upd_same
            · rw [upd_ne hne, upd_ne hne]
              exact k2
          · refine ⟨_, rfl, b, _, 3, _, rfl, rfl, SqL.of k1, rfl, _, _, rfl, rfl, .inr ⟨by decide, by decide⟩, _, rfl, _, rfl, _, _, rfl, rfl, (by show (0 : Int) < 2147483543; decide), _, _, rfl, rfl, .inr ⟨by decide, by decide⟩, _, _, rfl, rfl, _, _, rfl, rfl, _, rfl, _, _, rfl, rfl, (by show (0 : Int) < 2147483563; decide), _, rfl, b, _, 3, 3, rfl, rfl, k1, rfl, ?_⟩
            exact ⟨_, i + 1, g, _, d, rfl, upd_same, by rw [upd_ne hne]; exact k2, k3.upd, by omega, Int.emod_nonneg _ (by decide), Int.emod_lt_of_pos _ (by decide)⟩
        · exact ⟨_, i, g, m, d, rfl, g1, g2, g3, hi, m0, m1⟩
      · exact iteF ⟨_, i, g, m, d, rfl, g1, g2, g3, hi, m0, m1⟩
    · clear g1 g2 g3 H1
      rintro σ' H1 ⟨x, i, g, m, d, rfl, g1, g2, g3, hi, m0, m1⟩
      -- if bag[2] > 0
      refine ⟨_, rfl, b, _, 2, _, rfl, rfl, SqL.of g1, rfl, _, _, rfl, rfl, _, rfl, ite2 (fun c1 => ?_) (fun c1 => ?_)⟩
      · have c1' : 0 < g := of_decide_eq_true c1
        have dv : CDivW g n := wide_div (b := 40) n0 (by have : (2 : Nat) ^ 40 = 1099511627776 := (by decide); omega) (by decide) (by decide)
        -- digit; bag[5] - 1; bag[2] // size or 0
        refine ⟨_, rfl, b, _, 2, _, rfl, rfl, SqL.of g1, rfl, _, rfl, _, rfl, _, _, rfl, rfl, n0, ?_⟩
        refine ⟨_, rfl, b, _, 5, _, rfl, rfl, SqL.of g1, rfl, _, _, rfl, rfl, _, rfl, b, _, 5, 5, rfl, rfl, g1, rfl, ?_⟩
        have fin : ∀ q : Int, Q (.int (g % n)) (upd (upd H1 b (bagO l i g m (c + 1) (d - 1))) b (bagO l i q m (c + 1) (d - 1))) := fun q =>
          k _ _ (Int.emod_nonneg _ (by omega)) (Int.emod_lt_of_pos _ n0) ⟨g3.upd.upd, ⟨⟨i, q, m, c + 1, d - 1, upd_same, hi, m0, m1⟩, by rw [upd_ne hne, upd_ne hne]; exact g2, hne, hl⟩⟩
        refine ⟨_, rfl, b, _, 5, _, rfl, rfl, SqL.of upd_same, rfl, _, _, rfl, rfl, _, rfl, ite2 (fun c2 => ?_) (fun c2 => ?_)⟩
        · refine ⟨_, rfl, b, _, 2, _, rfl, rfl, SqL.of upd_same, rfl, _, rfl, _, _, rfl, rfl, dv, _, rfl, b, _, 2, 2, rfl, rfl, upd_same, rfl, _, rfl, ?_⟩
          exact fin _
        · refine ⟨_, rfl, b, _, 2, 2, rfl, rfl, upd_same, rfl, _, rfl, ?_⟩
          exact fin _
      · have sm : CPow m 3 := ⟨by decide, by decide, by have : (2 : Nat) ^ 64 = 18446744073709551616 := (by decide); omega⟩
        refine ⟨_, rfl, b, _, 3, _, rfl, rfl, SqL.of g1, rfl, _, _, rfl, rfl, sm, _, rfl, b, _, 4, _, rfl, rfl, SqL.of g1, rfl, _, _, rfl, rfl, .inr ⟨by decide, by decide⟩, _, _, rfl, rfl, _, _, rfl, rfl, _, rfl, _, _, rfl, rfl, (by show (0 : Int) < 2147483563; decide), _, rfl, b, _, 3, 3, rfl, rfl, g1, rfl, ?_⟩
        refine ⟨_, rfl, b, _, 3, _, rfl, rfl, SqL.of upd_same, rfl, _, _, rfl, rfl, ⟨by decide, by decide⟩, _, rfl, b, _, 3, _, rfl, rfl, SqL.of upd_same, rfl, _, rfl, _, _, rfl, rfl, (by show (0 : Int) < 7919; decide), _, _, rfl, rfl, .inr ⟨by decide, by decide⟩, _, _, rfl, rfl, _, rfl, _, rfl, _, _, rfl, rfl, n0, ?_⟩
        exact k _ _ (Int.emod_nonneg _ (by omega)) (Int.emod_lt_of_pos _ n0) ⟨g3.upd, ⟨⟨i, g, _, c + 1, d, upd_same, hi, Int.emod_nonneg _ (by decide), Int.emod_lt_of_pos _ (by decide)⟩, by rw [upd_ne hne]; exact g2, hne, hl⟩⟩
end
end Lw
namespace Lw
open PySem PySem.Spec PyProof.Rows L2 XV
theorem cut_ints (ns : List Int) (lo hi : Option Int) : ∃ ms : List Int, cutV (ns.map V.int) lo hi = ms.map V.int ∧ ms.length ≤ ns.length := by
  refine ⟨(ns.drop (HT.sIx ns.length 0 lo)).take (HT.sIx ns.length ns.length hi - HT.sIx ns.length 0 lo), ?_, ?_⟩
  · unfold cutV
    rw [List.length_map, List.map_take, List.map_drop]
  · rw [List.length_take, List.length_drop]
    omega
abbrev sBag : Stmt := topOf "_law_bag"
abbrev Nbag : List Str := ["script", "mixed", "item"]
theorem scBag : FnScope Nbag ["script"] (defScope sBag) := ⟨rfl, rfl, rfl, by decide +kernel, rfl, by decide +kernel, by decide +kernel⟩
def spBag (K : PySem.W.Frag) : Sp := fun vs H Q _ => ∃ (a : Addr) (ns : List Int), vs = [.ref a] ∧ SqL K H a (ns.map V.int) ∧ ns.length ≤ 63 ∧ ∀ (B : Bg) (H' : Hp), Same H H' → BagAt B H' → H B.b = none → H B.l = none → Q (.ref B.b) H'
section
variable {P : Program} {w : World} {K : PySem.W.Frag} {mg : Str → Option Value} {base : Heap}
theorem ok_bag {f : Addr} {fd : FuncData} (F : Fun K "_law_bag" "_law_bag" sBag f fd) (T : Bt mg) : FnOk P w K mg base CX0 1 f fd ["script"] (spBag K) := by
  refine F.ok scBag (fun vs H Q E h => ?_) (fun cdv A outer s H vs Q E hr h => ?_)
  · obtain ⟨a, ns, rfl, _⟩ := h
    rfl
  · obtain ⟨a, ns, rfl, hS, hl, k⟩ := h
    refine ⟨_, pss_cons (ps_set (i := 1) scBag.nd rfl (Or.inl rfl) (pe_int))
      (pss_cons (ps_for PassesOwn.never rfl (pi_list (pe_slice sl_list (pv 0) (po_none) (po_some (pe_int)))) (pg_name (i := 2) scBag.nd rfl (Or.inl rfl))
      (pss_one (ps_set (i := 1) scBag.nd rfl (Or.inl rfl) (pe_op op_mod (pe_callTy call_intI (by rfl) T.int (by decide +kernel) (pa_cons (pe_op op_add (pe_op op_add (pe_op op_mul (pv 1) (pe_int)) (pe_op op_mod (pe_callTy call_intI (by rfl) T.int (by decide +kernel) (pa_cons (pv 2) pa_nil)) (pe_int))) (pe_int)) pa_nil)) (pe_int)))))
      (pss_one (ps_ret (pe_lst (pa_cons (pe_callTy call_listL (by rfl) T.list (by decide +kernel) (pa_cons (pe_slice sl_list (pv 0) (po_none) (po_some (pe_int))) pa_nil)) (pa_cons (pe_int) (pa_cons (pe_int) (pa_cons (pv 1) (pa_cons (pe_int) (pa_cons (pe_int) pa_nil)))))))))), ?_⟩
    obtain ⟨ms, em, hm⟩ := cut_ints ns none (some 63)
    refine ⟨_, rfl, _, rfl, a, _, rfl, hS, fun p hp => ?_⟩
    rw [em]
    refine ⟨p, rfl, ⟨_, SqL.of upd_same⟩, for_list (K := K) (a := p) (xs := ms.map V.int) (fun i σ H2 => ∃ (m : Int) (x : Option V), σ = [some (.ref a), some (.int m), x] ∧ Same H H2 ∧ H2 p = some (.lst (ms.map V.int)) ∧ 0 ≤ m ∧ m < 2147483563)
      ⟨16199, none, rfl, fun b o e => by rw [upd_ne (ne_of_none e hp)]; exact e, upd_same, by decide, by decide⟩ (fun i σ H2 _ ⟨_, _, _, _, e, _⟩ => SqL.of e) ?_ ?_⟩
    · rintro i y σ H2 hi ⟨m, x, rfl, s2, e2, m0, m1⟩
      obtain ⟨z, hz, rfl⟩ : ∃ z, ms[i]? = some z ∧ V.int z = y := by
        rw [List.getElem?_map] at hi
        exact Option.map_eq_some_iff.mp hi
      refine ⟨_, rfl, _, _, rfl, rfl, .inr ⟨by decide, by decide⟩, _, rfl, _, rfl, _, _, rfl, rfl, (by show (0 : Int) < 2147483399; decide), _, _, rfl, rfl, _, _, rfl, rfl, _, rfl, _, _, rfl, rfl, (by show (0 : Int) < 2147483563; decide), ?_⟩
      exact ⟨_, _, rfl, s2, e2, Int.emod_nonneg _ (by decide), Int.emod_lt_of_pos _ (by decide)⟩
    · rintro σ H2 ⟨m, x, rfl, s2, e2, m0, m1⟩
      refine ⟨_, rfl, _, rfl, a, _, rfl, s2.seq hS, fun q hq => ?_⟩
      rw [em]
      refine ⟨q, _, rfl, SqL.of upd_same, fun r hr' => ⟨_, rfl, (by show 6 ≤ sizeLine; decide), fun t ht => ?_⟩⟩
      have nrt : r ≠ t := ne_of_none upd_same ht
      have hq2 : (upd H2 q (.lst (ms.map V.int))) r = none := hr'
      have f0 : H2 r = none := by
        by_cases z : r = q
        · rw [z, upd_same] at hr'; cases hr'
        · rw [upd_ne z] at hr'; exact hr'
      have f1 : H2 t = none := by
        have z1 : t ≠ r := nrt.symm
        rw [upd_ne z1] at ht
        by_cases z : t = q
        · rw [z, upd_same] at ht; cases ht
        · rw [upd_ne z] at ht; exact ht
      refine k ⟨t, r, ms⟩ _ (fun b o e => ?_) ⟨⟨0, 0, m, 0, 0, upd_same, by decide, m0, m1⟩, by rw [upd_ne nrt]; exact upd_same, nrt, Nat.le_trans hm hl⟩ (s2.free f1) (s2.free f0)
      have e' := s2 b o e
      rw [upd_ne (ne_of_none e' f1), upd_ne (ne_of_none e' f0), upd_ne (ne_of_none e' hq)]
      exact e'
end
end Lw
namespace Lw
open PySem PySem.Spec PyProof.Rows L2 XV
theorem ix_pos {n : Nat} {i : Int} (h0 : 0 ≤ i) (h1 : i < n) : ixN n i = some i.toNat := by
  unfold ixN
  rw [if_pos h0, if_pos h1]
theorem at_pos {α : Type} {xs : List α} {i : Int} (h0 : 0 ≤ i) (h1 : i < xs.length) : ∃ v, atI xs i = some v ∧ xs[i.toNat]? = some v ∧ v ∈ xs := by
  have hi : i.toNat < xs.length := by omega
  refine ⟨xs[i.toNat], ?_, List.getElem?_eq_getElem hi, List.getElem_mem hi⟩
  unfold atI
  rw [ix_pos h0 h1]
  exact List.getElem?_eq_getElem hi
theorem er_map {α β : Type} (f : α → β) : ∀ (xs : List α) (k : Nat), (xs.map f).eraseIdx k = (xs.eraseIdx k).map f
  | [], _ => rfl
  | _ :: _, 0 => rfl
  | x :: xs, k + 1 => congrArg (f x :: ·) (er_map f xs k)
theorem tyL {K : PySem.W.Frag} {H : Hp} {p : Addr} {xs : List V} (h : H p = some (.lst xs)) : tyV K "list" (.ref p) H := .inl ⟨rfl, _, SqL.of h⟩
abbrev sOf : Stmt := topOf "_law_of"
theorem scOf : FnScope ["bag", "things"] ["bag", "things"] (defScope sOf) := ⟨rfl, rfl, rfl, by decide +kernel, rfl, by decide +kernel, by decide +kernel⟩
def spOf : Sp := fun vs H Q _ => ∃ (B : Bg) (x : V), vs = [.ref B.b, x] ∧ BagAt B H ∧
  ((∃ (p : Addr) (xs : List V), x = .ref p ∧ H p = some (.lst xs) ∧ p ≠ B.b ∧ 0 < xs.length ∧ xs.length ≤ 1000 ∧ ∀ v H', v ∈ xs → Go B H H' → Q v H') ∨
    ∃ z : Str, x = .str z ∧ 0 < z.length ∧ z.length ≤ 1000 ∧ ∀ c H', c ∈ z.cps.toList → Go B H H' → Q (.str ⟨#[c]⟩) H')
abbrev sMixed : Stmt := topOf "_law_mixed"
abbrev Nmixed : List Str := ["bag", "things", "left", "row", "k"]
theorem scMixed : FnScope Nmixed ["bag", "things"] (defScope sMixed) := ⟨rfl, rfl, rfl, by decide +kernel, rfl, by decide +kernel, by decide +kernel⟩
def spMixed : Sp := fun vs H Q _ => ∃ (B : Bg) (p : Addr) (ns : List Int), vs = [.ref B.b, .ref p] ∧ BagAt B H ∧ H p = some (.lst (ns.map V.int)) ∧ p ≠ B.b ∧ ns.length ≤ 100 ∧
  ∀ (q : Addr) (ms : List Int) (H' : Hp), (∀ x ∈ ms, x ∈ ns) → ms.length = ns.length → Go B H H' → H q = none → H' q = some (.lst (ms.map V.int)) → Q (.ref q) H'
section
variable {P : Program} {w : World} {K : PySem.W.Frag} {mg : Str → Option Value} {base : Heap}
theorem ok_of {f fD : Addr} {fd fdD : FuncData} (F : Fun K "_law_of" "_law_of" sOf f fd) (T : Bt mg) (D_draw : Df K mg "_law_draw" sDraw ["bag", "size"] fD fdD) : FnOk P w K mg base CX0 2 f fd ["bag", "things"] spOf := by
  have G_draw : FnOk P w K mg base CX0 1 fD fdD ["bag", "size"] spDraw := ok_draw D_draw.fn T
  refine F.ok scOf (fun vs H Q E h => ?_) (fun cdv A outer s H vs Q E hr h => ?_)
  · obtain ⟨B, x, rfl, _⟩ := h
    rfl
  · obtain ⟨B, x, rfl, hB, h⟩ := h
    refine ⟨_, pss_one (ps_ret (pe_ix ix_seq (pv 1) (cal D_draw G_draw (hr.mono (by decide)) (pa_cons (pv 0) (pa_cons (pe_callB call_len (by rfl) T.len (by decide +kernel) (pa_cons (pv 1) pa_nil)) pa_nil))) (fun _ _ => rfl))), ?_⟩
    rcases h with ⟨p, xs, rfl, hp, np, l0, l1, k⟩ | ⟨z, rfl, l0, l1, k⟩
    · refine ⟨_, rfl, _, rfl, _, rfl, _, xs.length, rfl, .inl ⟨xs, SqL.of hp, rfl⟩, B, _, rfl, hB, by omega, by omega, fun d H' d0 d1 g => ?_⟩
      obtain ⟨v, h1, _, h3⟩ := at_pos d0 d1
      exact .inl ⟨p, xs, d, v, rfl, rfl, SqL.of (g.keep hB np hp), h1, k v H' h3 g⟩
    · have e : z.cps.toList.length = z.length := by rw [Array.length_toList]; rfl
      refine ⟨_, rfl, _, rfl, _, rfl, _, z.length, rfl, ⟨by rw [sizeLine_eq]; omega, rfl⟩, B, _, rfl, hB, by omega, by omega, fun d H' d0 d1 g => ?_⟩
      obtain ⟨v, h1, _, h3⟩ := at_pos (xs := z.cps.toList) d0 (by omega)
      exact .inr (.inr ⟨z, d, v, rfl, rfl, by rw [sizeLine_eq]; omega, h1, k v H' h3 g⟩)
theorem ok_mixed {f fD : Addr} {fd fdD : FuncData} (F : Fun K "_law_mixed" "_law_mixed" sMixed f fd) (T : Bt mg) (D_draw : Df K mg "_law_draw" sDraw ["bag", "size"] fD fdD) : FnOk P w K mg base CX0 2 f fd ["bag", "things"] spMixed := by
  have G_draw : FnOk P w K mg base CX0 1 fD fdD ["bag", "size"] spDraw := ok_draw D_draw.fn T
  refine F.ok scMixed (fun vs H Q E h => ?_) (fun cdv A outer s H vs Q E hr h => ?_)
  · obtain ⟨B, p, ns, rfl, _⟩ := h
    rfl
  · obtain ⟨B, p, ns, rfl, hB, hp, np, hl, k⟩ := h
    refine ⟨_, pss_cons (ps_set (i := 2) scMixed.nd rfl (Or.inl rfl) (pe_callTy call_listL (by rfl) T.list (by decide +kernel) (pa_cons (pv 1) pa_nil)))
      (pss_cons (ps_set (i := 3) scMixed.nd rfl (Or.inl rfl) (pe_lst (pa_nil)))
      (pss_cons (ps_for PassesOwn.never rfl (pi_range1 rfl T.range (pa_cons (pe_callB call_lenL (by rfl) T.len (by decide +kernel) (pa_cons (pv 1) pa_nil)) pa_nil)) (pg_name (i := 4) scMixed.nd rfl (Or.inl rfl))
      (pss_one (ps_expr (pe_bm PySem.F.plainAttrs_list PySem.F.slot_list_append PySem.F.type_list_append mt_append (pv 3) (pa_cons (pe_bm PySem.F.plainAttrs_list PySem.F.slot_list_pop PySem.F.type_list_pop mt_popAt (pv 2) (pa_cons (cal D_draw G_draw (hr.mono (by decide)) (pa_cons (pv 0) (pa_cons (pe_callB call_lenL (by rfl) T.len (by decide +kernel) (pa_cons (pv 2) pa_nil)) pa_nil))) pa_nil)) pa_nil)))))
      (pss_one (ps_ret (pv 3))))), ?_⟩
    refine ⟨_, rfl, p, _, rfl, SqL.of hp, fun l hl0 => ⟨Nat.zero_le _, fun r hr0 => ?_⟩⟩
    have nlr : l ≠ r := ne_of_none upd_same hr0
    have r0 : H r = none := by rw [upd_ne nlr.symm] at hr0; exact hr0
    have g0 : Go B H (upd (upd H l (.lst (ns.map V.int))) r (.lst [])) := ((Go.refl hB).new hl0).new hr0
    have npl : p ≠ l := ne_of_none hp hl0
    have npr : p ≠ r := ne_of_none hp r0
    refine ⟨_, rfl, p, _, rfl, SqL.of (g0.keep hB np hp), _, rfl, by rw [List.length_map]; omega, by rw [List.length_map]; omega, for_range (n := (ns.map V.int).length) (fun i σ H2 => ∃ (ls rs : List Int) (x : Option V), σ = [some (.ref B.b), some (.ref p), some (.ref l), some (.ref r), x] ∧ Go B H H2 ∧ H2 l = some (.lst (ls.map V.int)) ∧ H2 r = some (.lst (rs.map V.int)) ∧ (∀ y ∈ ls, y ∈ ns) ∧ (∀ y ∈ rs, y ∈ ns) ∧ rs.length = i ∧ ls.length + i = ns.length)
      ⟨ns, [], none, rfl, g0, by rw [upd_ne nlr]; exact upd_same, upd_same, fun _ h => h, fun _ h => by simp at h, rfl, rfl⟩ ?_ ?_⟩
    · rintro i σ H2 hi ⟨ls, rs, x, rfl, g2, e1, e2, s1, s2, l1, l2⟩
      rw [List.length_map] at hi
      refine ⟨_, rfl, tyL e2, _, rfl, tyL e1, _, rfl, _, rfl, l, _, rfl, SqL.of e1, B, _, rfl, g2.bag, by rw [List.length_map]; omega, by rw [List.length_map]; omega, fun d H3 d0 d1 g3 => ?_⟩
      have nl : l ≠ B.b := (hB.away hl0).1
      have nr : r ≠ B.b := (hB.away r0).1
      have f1 := g3.keep g2.bag nl e1
      have f2 := g3.keep g2.bag nr e2
      rw [List.length_map] at d1
      obtain ⟨v, v1, v2, v3⟩ := at_pos d0 d1
      refine ⟨l, _, d, d.toNat, .int v, rfl, rfl, f1, by omega, by omega, (ixN_seq (ix_pos d0 (by rw [List.length_map]; exact d1))).1, by rw [List.getElem?_map, v2]; rfl, r, _, _, rfl, rfl, by rw [upd_ne nlr.symm]; exact f2, by rw [List.length_map, sizeLine_eq]; omega, ?_⟩
      refine ⟨ls.eraseIdx d.toNat, rs ++ [v], _, rfl, ((g2.trans g3).turn hB hl0).turn hB r0, ?_, ?_, fun y hy => s1 y (List.mem_of_mem_eraseIdx hy), fun y hy => ?_, by rw [List.length_append, l1]; rfl, ?_⟩
      · rw [upd_ne nlr, upd_same, er_map]
      · rw [upd_same, List.map_append]
        rfl
      · rcases List.mem_append.mp hy with h | h
        · exact s2 y h
        · rw [List.mem_singleton.mp h]
          exact s1 v v3
      · rw [List.length_eraseIdx, if_pos (by omega)]
        omega
    · rintro σ H2 ⟨ls, rs, x, rfl, g2, e1, e2, s1, s2, l1, l2⟩
      rw [List.length_map] at l1
      exact ⟨_, rfl, k r rs H2 s2 l1 g2 r0 e2⟩
end
end Lw
namespace Lw
open PySem PySem.Spec PyProof.Rows L2 XV
theorem join_len (y : Str) (ys : List Str) : (Txt.join y ys).length ≤ (ys.map (·.length)).sum + ys.length * y.length := by
  have e : (Txt.join y ys).length = _ := PySem.size_glued y ys
  rw [e]
  exact Nat.add_le_add_left (Nat.mul_le_mul_right _ (Nat.sub_le _ _)) _
theorem ones_sum : ∀ {ys : List Str}, (∀ y ∈ ys, y.length = 1) → (ys.map (·.length)).sum = ys.length
  | [], _ => rfl
  | y :: ys, h => by
    rw [List.map_cons, List.sum_cons, h y (List.mem_cons_self ..), ones_sum fun z hz => h z (List.mem_cons_of_mem _ hz), List.length_cons]
    omega
abbrev sString : Stmt := topOf "_law_string"
abbrev Nstring : List Str := ["bag", "signs", "k"]
theorem scString : FnScope Nstring ["bag"] (defScope sString) := ⟨rfl, rfl, rfl, by decide +kernel, rfl, by decide +kernel, by decide +kernel⟩
def spString : Sp := fun vs H Q _ => ∃ B : Bg, vs = [.ref B.b] ∧ BagAt B H ∧ ∀ (z : Str) (H' : Hp), z.length ≤ 9 → Go B H H' → Q (.str z) H'
section
variable {P : Program} {w : World} {K : PySem.W.Frag} {mg : Str → Option Value} {base : Heap}
theorem ok_string {f fO fD : Addr} {fd fdO fdD : FuncData} (F : Fun K "_law_string" "_law_string" sString f fd) (T : Bt mg) (D_of : Df K mg "_law_of" sOf ["bag", "things"] fO fdO) (D_draw : Df K mg "_law_draw" sDraw ["bag", "size"] fD fdD) : FnOk P w K mg base CX0 3 f fd ["bag"] spString := by
  have G_of : FnOk P w K mg base CX0 2 fO fdO ["bag", "things"] spOf := ok_of D_of.fn T D_draw
  refine F.ok scString (fun vs H Q E h => ?_) (fun cdv A outer s H vs Q E hr h => ?_)
  · obtain ⟨B, rfl, _⟩ := h
    rfl
  · obtain ⟨B, rfl, hB, k⟩ := h
    refine ⟨_, pss_cons (ps_set (i := 1) scString.nd rfl (Or.inr rfl) (pe_str))
      (pss_one (ps_ret (pe_join (pe_str) (pe_lc (own := [("k", 2)]) (g := gName 2) (tt := tYes) rfl scString.nd (pi_range1 rfl T.range (pa_cons (cal D_of G_of (hr.mono (by decide)) (pa_cons (pv 0) (pa_cons (pe_lst (pa_cons (pe_int) (pa_cons (pe_int) (pa_cons (pe_int) (pa_cons (pe_int) (pa_cons (pe_int) (pa_cons (pe_int) pa_nil))))))) pa_nil))) pa_nil)) (blkOk_by (N := Nstring) (sc := defScope sString) (by decide +kernel)) (fun _ _ _ _ _ => pg_name (i := 2) scString.nd rfl (Or.inl rfl)) (fun _ _ _ _ _ => pts_nil) (fun _ _ _ _ _ => cal D_of G_of (hr.mono (by decide)) (pa_cons (pv 0) (pa_cons (pv 1) pa_nil))))))), ?_⟩
    refine ⟨⟨_, rfl⟩, _, rfl, (by show 6 ≤ sizeLine; decide), fun p hp => ⟨B, _, rfl, ((Go.refl hB).new hp).bag, .inl ⟨p, _, rfl, upd_same, (hB.away hp).1, (by show 0 < 6; decide), (by show 6 ≤ 1000; decide), fun v H1 hv g1 => ?_⟩⟩⟩
    have g0 := ((Go.refl hB).new (o := .lst [.int 1, .int 2, .int 0, .int 3, .int 5, .int 9]) hp).trans g1
    obtain ⟨j, rfl, j0, j1⟩ : ∃ j : Int, v = .int j ∧ 0 ≤ j ∧ j ≤ 9 := by
      simp only [List.mem_cons, List.not_mem_nil, or_false] at hv
      rcases hv with rfl | rfl | rfl | rfl | rfl | rfl <;> exact ⟨_, rfl, by decide, by decide⟩
    refine ⟨j, rfl, by omega, by omega, fun D hD => lc_range (lo := 0) (n := j.toNat) (fun i H2 => Go B H H2 ∧ ∃ ys : List Str, H2 D = some (.lst (ys.map V.str)) ∧ ys.length = i ∧ ∀ y ∈ ys, y.length = 1) ⟨g0.new hD, [], upd_same, rfl, fun _ h => by simp at h⟩ ?_ ?_⟩
    · rintro i H2 hi ⟨g2, ys, e2, l2, o2⟩
      have hD0 := g0.free hB hD
      refine ⟨rfl, _, rfl, _, rfl, B, _, rfl, g2.bag, .inr ⟨_, rfl, by decide +kernel, by decide +kernel, fun c H3 _ g3 => ?_⟩⟩
      refine ⟨_, g3.keep g2.bag (hB.away hD0).1 e2, by rw [List.length_map, sizeLine_eq]; omega, (g2.trans g3).turn hB hD0, ys ++ [⟨#[c]⟩], ?_, by rw [List.length_append, l2]; rfl, fun y hy => ?_⟩
      · rw [upd_same, List.map_append]
        rfl
      · rcases List.mem_append.mp hy with h | h
        · exact o2 y h
        · rw [List.mem_singleton.mp h]
          rfl
    · rintro H2 ⟨g2, ys, e2, l2, o2⟩
      have s2 := ones_sum o2
      refine ⟨_, D, ys, rfl, rfl, .inl (SqL.of e2), ?_, k _ H2 ?_ g2⟩
      · rw [s2]
        show ys.length + ys.length * 0 ≤ 16777216
        omega
      · refine Nat.le_trans (join_len _ _) ?_
        rw [s2]
        show ys.length + ys.length * 0 ≤ 9
        omega
end
end Lw
namespace Lw
open PySem PySem.Spec PyProof.Rows L2 XV
/-- two values that are equal and of the same kinds, at most n deep -/
inductive Sim (H : Hp) : Nat → V → V → Prop
  | non {n : Nat} : Sim H n .non .non
  | bl {n : Nat} (b : Bool) : Sim H n (.bl b) (.bl b)
  | int {n : Nat} (i : Int) : Sim H n (.int i) (.int i)
  | str {n : Nat} (z : Str) (hz : z.length ≤ 100) : Sim H n (.str z) (.str z)
  | lst {n : Nat} {a b : Addr} {xs ys : List V} (h1 : Rd H a (.lst xs)) (h2 : Rd H b (.lst ys)) (hl : xs.length = ys.length) (hs : ys.length ≤ 1000) (h : ∀ (i : Nat) (x y : V), xs[i]? = some x → ys[i]? = some y → Sim H n x y) : Sim H (n + 1) (.ref a) (.ref b)
  | tup {n : Nat} {a b : Addr} {xs ys : List V} (h1 : Rd H a (.tup xs)) (h2 : Rd H b (.tup ys)) (hl : xs.length = ys.length) (hs : ys.length ≤ 1000) (h : ∀ (i : Nat) (x y : V), xs[i]? = some x → ys[i]? = some y → Sim H n x y) : Sim H (n + 1) (.ref a) (.ref b)
  | dct {n : Nat} {a b : Addr} {kvs lvs : List (Key × V)} (h1 : Rd H a (.dK kvs)) (h2 : Rd H b (.dK lvs)) (hl : kvs.length = lvs.length) (hk : ∀ k x, (k, x) ∈ lvs → ∃ v u, valV kvs k = some v ∧ valV lvs k = some u) (h : ∀ k v u, valV kvs k = some v → valV lvs k = some u → Sim H n v u) : Sim H (n + 1) (.ref a) (.ref b)
theorem Sim.mono {H H' : Hp} (r : ∀ a u, Rd H a u → Rd H' a u) {n : Nat} {u v : V} (s : Sim H n u v) : Sim H' n u v := by
  induction s with
  | non => exact .non
  | bl b => exact .bl b
  | int i => exact .int i
  | str z hz => exact .str z hz
  | lst h1 h2 hl hs _ ih => exact .lst (r _ _ h1) (r _ _ h2) hl hs ih
  | tup h1 h2 hl hs _ ih => exact .tup (r _ _ h1) (r _ _ h2) hl hs ih
  | dct h1 h2 hl hk _ ih => exact .dct (r _ _ h1) (r _ _ h2) hl hk ih
theorem Sim.up {H : Hp} {n m : Nat} {u v : V} (s : Sim H n u v) (hm : n ≤ m) : Sim H m u v := by
  induction s generalizing m with
  | non => exact .non
  | bl b => exact .bl b
  | int i => exact .int i
  | str z hz => exact .str z hz
  | lst h1 h2 hl hs _ ih =>
    cases m with
    | zero => exact absurd hm (by omega)
    | succ m => exact .lst h1 h2 hl hs fun i x y a b => ih i x y a b (by omega)
  | tup h1 h2 hl hs _ ih =>
    cases m with
    | zero => exact absurd hm (by omega)
    | succ m => exact .tup h1 h2 hl hs fun i x y a b => ih i x y a b (by omega)
  | dct h1 h2 hl hk _ ih =>
    cases m with
    | zero => exact absurd hm (by omega)
    | succ m => exact .dct h1 h2 hl hk fun k v u a b => ih k v u a b (by omega)
theorem rd_same {H H' : Hp} (s : Same H H') : ∀ a u, Rd H a u → Rd H' a u := fun a u h => by
  rcases h with h | ⟨o, h⟩
  · exact .inl (s _ _ h)
  · exact .inr ⟨o, s _ _ h⟩
theorem rd_lock {H : Hp} {b : Addr} {od : Obj} {lvs : List (Key × V)} (hb : H b = some (.dK lvs)) : ∀ a u, Rd H a u → Rd (upd H b (.frz od (.dK lvs))) a u := fun a u h => by
  by_cases e : a = b
  · subst e
    rcases h with h | ⟨o, h⟩
    · rw [hb] at h
      cases h
      exact .inr ⟨od, upd_same⟩
    · rw [hb] at h
      cases h
  · rcases h with h | ⟨o, h⟩
    · exact .inl (by rw [upd_ne e]; exact h)
    · exact .inr ⟨o, by rw [upd_ne e]; exact h⟩
section
variable {X : Cx}
theorem call_lenDR : CallR X (.builtin "len") (fun xs H Q => ∃ a kvs, xs = [V.ref a] ∧ Rd H a (.dK kvs) ∧ Q (.int kvs.length) H) := by
  intro pins s σ H xs us Q I r h
  obtain ⟨a, kvs, rfl, ha, q⟩ := h
  obtain ⟨u, rfl, ru⟩ := vals1 r
  cases ru
  exact d_len I ha fun t s' I' => ⟨.int kvs.length, H, I', ⟨t, rfl⟩, q⟩
def tLock2 (t : TS) : TS := fun D σ H => t D σ H ∨ tLock t D σ H
theorem ps_lock2 {st : Stmt} {t : TS} (h : PS X st t) : PS X st (tLock2 t) := ⟨fun pins s σ H D I q => q.elim (h.run pins s σ H D I) ((ps_lock h).run pins s σ H D I)⟩
end
theorem tyxL {K : PySem.W.Frag} {H : Hp} {a : Addr} {xs : List V} (h : Rd H a (.lst xs)) : TyX K H (.ref a) (.type "list") := by
  rcases h with h | ⟨o, h⟩
  · exact .base (.lst h)
  · exact .base (.frz h)
theorem tyxT {K : PySem.W.Frag} {H : Hp} {a : Addr} {xs : List V} (h : Rd H a (.tup xs)) : TyX K H (.ref a) (.type "tuple") := by
  rcases h with h | ⟨o, h⟩
  · exact .base (.tup h)
  · exact .fTuple h
theorem tyxD {K : PySem.W.Frag} {H : Hp} {a : Addr} {kvs : List (Key × V)} (h : Rd H a (.dK kvs)) : TyX K H (.ref a) (.type "dict") := by
  rcases h with h | ⟨o, h⟩
  · exact .base (.dK h)
  · exact .fDict h
theorem at_turn {xs : List V} {i : Nat} {x : V} (h : xs[i]? = some x) : atI xs (0 + (i : Int)) = some x := by
  rw [Int.zero_add]
  exact atI_nat h
theorem k_NoneType_bool : kitB "NoneType" "bool" = some false := by decide +kernel
theorem k_NoneType_int : kitB "NoneType" "int" = some false := by decide +kernel
theorem k_NoneType_str : kitB "NoneType" "str" = some false := by decide +kernel
theorem k_NoneType_list : kitB "NoneType" "list" = some false := by decide +kernel
theorem k_NoneType_tuple : kitB "NoneType" "tuple" = some false := by decide +kernel
theorem k_NoneType_dict : kitB "NoneType" "dict" = some false := by decide +kernel
theorem k_bool_bool : kitB "bool" "bool" = some true := by decide +kernel
theorem k_bool_int : kitB "bool" "int" = some true := by decide +kernel
theorem k_bool_str : kitB "bool" "str" = some false := by decide +kernel
theorem k_bool_list : kitB "bool" "list" = some false := by decide +kernel
theorem k_bool_tuple : kitB "bool" "tuple" = some false := by decide +kernel
theorem k_bool_dict : kitB "bool" "dict" = some false := by decide +kernel
theorem k_int_bool : kitB "int" "bool" = some false := by decide +kernel
theorem k_int_int : kitB "int" "int" = some true := by decide +kernel
theorem k_int_str : kitB "int" "str" = some false := by decide +kernel
theorem k_int_list : kitB "int" "list" = some false := by decide +kernel
theorem k_int_tuple : kitB "int" "tuple" = some false := by decide +kernel
theorem k_int_dict : kitB "int" "dict" = some false := by decide +kernel
theorem k_str_bool : kitB "str" "bool" = some false := by decide +kernel
theorem k_str_int : kitB "str" "int" = some false := by decide +kernel
theorem k_str_str : kitB "str" "str" = some true := by decide +kernel
theorem k_str_list : kitB "str" "list" = some false := by decide +kernel
theorem k_str_tuple : kitB "str" "tuple" = some false := by decide +kernel
theorem k_str_dict : kitB "str" "dict" = some false := by decide +kernel
theorem k_list_bool : kitB "list" "bool" = some false := by decide +kernel
theorem k_list_int : kitB "list" "int" = some false := by decide +kernel
theorem k_list_str : kitB "list" "str" = some false := by decide +kernel
theorem k_list_list : kitB "list" "list" = some true := by decide +kernel
theorem k_list_tuple : kitB "list" "tuple" = some false := by decide +kernel
theorem k_list_dict : kitB "list" "dict" = some false := by decide +kernel
theorem k_tuple_bool : kitB "tuple" "bool" = some false := by decide +kernel
theorem k_tuple_int : kitB "tuple" "int" = some false := by decide +kernel
theorem k_tuple_str : kitB "tuple" "str" = some false := by decide +kernel
theorem k_tuple_list : kitB "tuple" "list" = some false := by decide +kernel
theorem k_tuple_tuple : kitB "tuple" "tuple" = some true := by decide +kernel
theorem k_tuple_dict : kitB "tuple" "dict" = some false := by decide +kernel
theorem k_dict_bool : kitB "dict" "bool" = some false := by decide +kernel
theorem k_dict_int : kitB "dict" "int" = some false := by decide +kernel
theorem k_dict_str : kitB "dict" "str" = some false := by decide +kernel
theorem k_dict_list : kitB "dict" "list" = some false := by decide +kernel
theorem k_dict_tuple : kitB "dict" "tuple" = some false := by decide +kernel
theorem k_dict_dict : kitB "dict" "dict" = some true := by decide +kernel
theorem isi {K : PySem.W.Frag} {H : Hp} {x : V} {t n : String} {r : Bool} {Q : VK} (ty : TyX K H x (.type t)) (e : kitB t n = some r) (q : Q (.bl r) H) : rIsi K [x, .ty n] H Q := ⟨_, _, _, _, _, rfl, .ty _, ty, kit_ty e, q⟩
abbrev sLike : Stmt := topOf "_law_like"
abbrev Nlike : List Str := ["told", "due", "k", "word"]
theorem scLike : FnScope Nlike ["told", "due"] (defScope sLike) := ⟨rfl, rfl, rfl, by decide +kernel, rfl, by decide +kernel, by decide +kernel⟩
def spLike : Nat → Sp
  | 0 => fun _ _ _ _ => False
  | n + 1 => fun vs H Q _ => ∃ u v : V, vs = [u, v] ∧ Sim H n u v ∧ ∀ H', Same H H' → Q (.bl true) H'
section
variable {P : Program} {w : World} {K : PySem.W.Frag} {mg : Str → Option Value} {base : Heap}
theorem ok_like {f : Addr} {fd : FuncData} (T : Bt mg) (D_like : Df K mg "_law_like" sLike ["told", "due"] f fd) : ∀ n, FnOk P w K mg base CX0 n f fd ["told", "due"] (spLike n)
  | 0 => ⟨fun _ _ _ _ h => h.elim, fun _ _ _ _ _ _ _ _ _ _ _ _ _ h => h.elim⟩
  | n + 1 => by
    have G_like : FnOk P w K mg base CX0 n f fd ["told", "due"] (spLike n) := ok_like T D_like n
    refine D_like.fn.ok scLike (fun vs H Q E h => ?_) (fun cdv A outer s H vs Q E hr h => ?_)
    · obtain ⟨u, v, rfl, _⟩ := h
      rfl
    · obtain ⟨u, v, rfl, sm, k⟩ := h
      have hu := hu_of hr
      refine ⟨_, pss_cons (ps_if (pt_val (pe_callB call_isi (by rfl) T.isinstance (by decide +kernel) (pa_cons (pv 1) (pa_cons (pe_bltn (v := .ty "bool") (by rfl) T.bool (by decide +kernel) rfl) pa_nil))))
 (pss_one (ps_ret (pe_and (pe_callB call_isi (by rfl) T.isinstance (by decide +kernel) (pa_cons (pv 0) (pa_cons (pe_bltn (v := .ty "bool") (by rfl) T.bool (by decide +kernel) rfl) pa_nil))) (pe_one (pe_cmpR op_eq (pv 0) (pv 1) (nomark _))))))
 (pss_nil))
 (pss_cons (ps_if (pt_val (pe_callB call_isi (by rfl) T.isinstance (by decide +kernel) (pa_cons (pv 1) (pa_cons (pe_bltn (v := .ty "int") (by rfl) T.int (by decide +kernel) rfl) pa_nil))))
 (pss_one (ps_ret (pe_and (pe_callB call_isi (by rfl) T.isinstance (by decide +kernel) (pa_cons (pv 0) (pa_cons (pe_bltn (v := .ty "int") (by rfl) T.int (by decide +kernel) rfl) pa_nil))) (pe_and (pe_not (pe_callB call_isi (by rfl) T.isinstance (by decide +kernel) (pa_cons (pv 0) (pa_cons (pe_bltn (v := .ty "bool") (by rfl) T.bool (by decide +kernel) rfl) pa_nil)))) (pe_one (pe_cmpR op_eq (pv 0) (pv 1) (nomark _)))))))
 (pss_nil))
 (pss_cons (ps_if (pt_val (pe_callB call_isi (by rfl) T.isinstance (by decide +kernel) (pa_cons (pv 1) (pa_cons (pe_bltn (v := .ty "str") (by rfl) T.str (by decide +kernel) rfl) pa_nil))))
 (pss_one (ps_ret (pe_and (pe_callB call_isi (by rfl) T.isinstance (by decide +kernel) (pa_cons (pv 0) (pa_cons (pe_bltn (v := .ty "str") (by rfl) T.str (by decide +kernel) rfl) pa_nil))) (pe_one (pe_cmpR op_eq (pv 0) (pv 1) (nomark _))))))
 (pss_nil))
 (pss_cons (ps_if (PW.pt (pw_or (pt_val (pe_callB call_isi (by rfl) T.isinstance (by decide +kernel) (pa_cons (pv 1) (pa_cons (pe_bltn (v := .ty "list") (by rfl) T.list (by decide +kernel) rfl) pa_nil)))) (pw_or1 (pt_val (pe_callB call_isi (by rfl) T.isinstance (by decide +kernel) (pa_cons (pv 1) (pa_cons (pe_bltn (v := .ty "tuple") (by rfl) T.tuple (by decide +kernel) rfl) pa_nil)))))))
 (pss_cons (ps_if (PW.pt (pw_or (pt_cmpR op_ne (pe_callB call_isi (by rfl) T.isinstance (by decide +kernel) (pa_cons (pv 0) (pa_cons (pe_bltn (v := .ty "list") (by rfl) T.list (by decide +kernel) rfl) pa_nil))) (pe_callB call_isi (by rfl) T.isinstance (by decide +kernel) (pa_cons (pv 1) (pa_cons (pe_bltn (v := .ty "list") (by rfl) T.list (by decide +kernel) rfl) pa_nil))) (nomark _)) (pw_or1 (pt_cmpR op_ne (pe_callB call_isi (by rfl) T.isinstance (by decide +kernel) (pa_cons (pv 0) (pa_cons (pe_bltn (v := .ty "tuple") (by rfl) T.tuple (by decide +kernel) rfl) pa_nil))) (pe_callB call_isi (by rfl) T.isinstance (by decide +kernel) (pa_cons (pv 1) (pa_cons (pe_bltn (v := .ty "tuple") (by rfl) T.tuple (by decide +kernel) rfl) pa_nil))) (nomark _)))))
 (pss_one (ps_ret (pe_bl)))
 (pss_nil))
 (pss_cons (ps_if (pt_cmpR op_ne (pe_callB call_len (by rfl) T.len (by decide +kernel) (pa_cons (pv 0) pa_nil)) (pe_callB call_len (by rfl) T.len (by decide +kernel) (pa_cons (pv 1) pa_nil)) (nomark _))
 (pss_one (ps_ret (pe_bl)))
 (pss_nil))
 (pss_cons (ps_for PassesOwn.never rfl (pi_range1 rfl T.range (pa_cons (pe_callB call_len (by rfl) T.len (by decide +kernel) (pa_cons (pv 1) pa_nil)) pa_nil)) (pg_name (i := 2) scLike.nd rfl (Or.inl rfl))
 (pss_one (ps_if (pt_not (pt_val (cal D_like G_like hr (pa_cons (pe_ix ix_seq (pv 0) (pv 2) (fun _ _ => rfl)) (pa_cons (pe_ix ix_seq (pv 1) (pv 2) (fun _ _ => rfl)) pa_nil)))))
 (pss_one (ps_ret (pe_bl)))
 (pss_nil))))
 (pss_one (ps_ret (pe_bl))))))
 (pss_nil))
 (pss_cons (ps_if (pt_val (pe_callB call_isi (by rfl) T.isinstance (by decide +kernel) (pa_cons (pv 1) (pa_cons (pe_bltn (v := .ty "dict") (by rfl) T.dict (by decide +kernel) rfl) pa_nil))))
 (pss_cons (ps_if (PW.pt (pw_or (pt_not (pt_val (pe_callB call_isi (by rfl) T.isinstance (by decide +kernel) (pa_cons (pv 0) (pa_cons (pe_bltn (v := .ty "dict") (by rfl) T.dict (by decide +kernel) rfl) pa_nil))))) (pw_or1 (pt_cmpR op_ne (pe_callB call_lenDR (by rfl) T.len (by decide +kernel) (pa_cons (pv 0) pa_nil)) (pe_callB call_lenDR (by rfl) T.len (by decide +kernel) (pa_cons (pv 1) pa_nil)) (nomark _)))))
 (pss_one (ps_ret (pe_bl)))
 (pss_nil))
 (pss_cons (ps_lock2 (ps_for PassesOwn.never rfl (pi_keys (pv 1)) (pg_name (i := 3) scLike.nd rfl (Or.inl rfl))
 (pss_one (ps_if (PW.pt (pw_or (pt_cmp (pc_dnotin hu (pv 3) (pv 0))) (pw_or1 (pt_not (pt_val (cal D_like G_like hr (pa_cons (pe_dget hu (pv 0) (pv 3) (fun _ _ => rfl)) (pa_cons (pe_dget hu (pv 1) (pv 3) (fun _ _ => rfl)) pa_nil))))))))
 (pss_one (ps_ret (pe_bl)))
 (pss_nil)))))
 (pss_one (ps_ret (pe_bl)))))
 (pss_nil))
 (pss_one (ps_ret (pe_and (pe_cmpR op_isN (pv 1) (pe_non) (nomark _)) (pe_one (pe_cmpR op_isN (pv 0) (pe_non) (nomark _)))))))))), ?_⟩
      cases sm with
      | non =>
        have t1 : TyX K H .non (.type "NoneType") := .base .non
        refine ⟨_, rfl, _, _, _, _, _, rfl, .ty _, t1, kit_ty k_NoneType_bool, _, rfl, ?_⟩
        refine iteF ?_
        refine ⟨_, rfl, _, _, _, _, _, rfl, .ty _, t1, kit_ty k_NoneType_int, _, rfl, ?_⟩
        refine iteF ?_
        refine ⟨_, rfl, _, _, _, _, _, rfl, .ty _, t1, kit_ty k_NoneType_str, _, rfl, ?_⟩
        refine iteF ?_
        refine ⟨_, rfl, _, _, _, _, _, rfl, .ty _, t1, kit_ty k_NoneType_list, _, rfl, ?_⟩
        refine iteF ?_
        refine ⟨_, rfl, _, _, _, _, _, rfl, .ty _, t1, kit_ty k_NoneType_tuple, _, rfl, ?_⟩
        refine iteF ?_
        refine ⟨_, rfl, _, _, _, _, _, rfl, .ty _, t1, kit_ty k_NoneType_dict, _, rfl, ?_⟩
        refine iteF ?_
        exact ⟨_, rfl, rfl, _, rfl, _, rfl, rfl, k H (Same.refl H)⟩
      | bl b =>
        have t1 : TyX K H (.bl b) (.type "bool") := .base (.bl b)
        refine ⟨_, rfl, _, _, _, _, _, rfl, .ty _, t1, kit_ty k_bool_bool, _, rfl, ?_⟩
        refine iteT ?_
        refine ⟨_, rfl, _, _, _, _, _, rfl, .ty _, t1, kit_ty k_bool_bool, _, rfl, ?_⟩
        refine iteT ?_
        refine ⟨_, rfl, _, rfl, rfl, ?_⟩
        rw [decide_eq_true rfl]
        exact k H (Same.refl H)
      | int i =>
        have t1 : TyX K H (.int i) (.type "int") := .base (.int i)
        refine ⟨_, rfl, _, _, _, _, _, rfl, .ty _, t1, kit_ty k_int_bool, _, rfl, ?_⟩
        refine iteF ?_
        refine ⟨_, rfl, _, _, _, _, _, rfl, .ty _, t1, kit_ty k_int_int, _, rfl, ?_⟩
        refine iteT ?_
        refine ⟨_, rfl, _, _, _, _, _, rfl, .ty _, t1, kit_ty k_int_int, _, rfl, ?_⟩
        refine iteT ?_
        refine ⟨_, rfl, _, _, _, _, _, rfl, .ty _, t1, kit_ty k_int_bool, _, rfl, ?_⟩
        refine ⟨_, rfl, ?_⟩
        refine ⟨_, rfl, _, rfl, rfl, ?_⟩
        rw [decide_eq_true rfl]
        exact k H (Same.refl H)
      | str z hz =>
        have t1 : TyX K H (.str z) (.type "str") := .base (.str z)
        refine ⟨_, rfl, _, _, _, _, _, rfl, .ty _, t1, kit_ty k_str_bool, _, rfl, ?_⟩
        refine iteF ?_
        refine ⟨_, rfl, _, _, _, _, _, rfl, .ty _, t1, kit_ty k_str_int, _, rfl, ?_⟩
        refine iteF ?_
        refine ⟨_, rfl, _, _, _, _, _, rfl, .ty _, t1, kit_ty k_str_str, _, rfl, ?_⟩
        refine iteT ?_
        refine ⟨_, rfl, _, _, _, _, _, rfl, .ty _, t1, kit_ty k_str_str, _, rfl, ?_⟩
        refine iteT ?_
        refine ⟨_, rfl, _, rfl, rfl, ?_⟩
        rw [decide_eq_true rfl]
        exact k H (Same.refl H)
      | lst h1 h2 hl hs h =>
        rename_i m a b xs ys
        have t1 : TyX K H (.ref a) (.type "list") := tyxL h1
        have t2 : TyX K H (.ref b) (.type "list") := tyxL h2
        refine ⟨_, rfl, _, _, _, _, _, rfl, .ty _, t2, kit_ty k_list_bool, _, rfl, ?_⟩
        refine iteF ?_
        refine ⟨_, rfl, _, _, _, _, _, rfl, .ty _, t2, kit_ty k_list_int, _, rfl, ?_⟩
        refine iteF ?_
        refine ⟨_, rfl, _, _, _, _, _, rfl, .ty _, t2, kit_ty k_list_str, _, rfl, ?_⟩
        refine iteF ?_
        refine ⟨_, rfl, _, _, _, _, _, rfl, .ty _, t2, kit_ty k_list_list, _, rfl, ?_⟩
        refine iteT ?_
        refine iteT ?_
        refine ⟨_, rfl, _, _, _, _, _, rfl, .ty _, t1, kit_ty k_list_list, _, rfl, _, _, _, _, _, rfl, .ty _, t2, kit_ty k_list_list, rfl, _, rfl, ?_⟩
        refine iteNS rfl ?_
        refine ⟨_, rfl, _, _, _, _, _, rfl, .ty _, t1, kit_ty k_list_tuple, _, rfl, _, _, _, _, _, rfl, .ty _, t2, kit_ty k_list_tuple, rfl, _, rfl, ?_⟩
        refine iteNS rfl ?_
        refine ⟨_, rfl, _, xs.length, rfl, .inl ⟨xs, .inl h1, rfl⟩, _, rfl, _, ys.length, rfl, .inl ⟨ys, .inl h2, rfl⟩, rfl, _, rfl, ?_⟩
        refine iteNS (by rw [hl]) ?_
        refine ⟨_, rfl, _, ys.length, rfl, .inl ⟨ys, .inl h2, rfl⟩, _, rfl, by omega, by omega, for_range (n := ys.length) (fun i σ H2 => ∃ x, σ = [some (.ref a), some (.ref b), x, none] ∧ Same H H2) ⟨none, rfl, Same.refl H⟩ ?_ ?_⟩
        · rintro i σ H2 hi ⟨x, rfl, s2⟩
          obtain ⟨y, hy⟩ : ∃ y, ys[i]? = some y := ⟨_, List.getElem?_eq_getElem hi⟩
          obtain ⟨z, hz⟩ : ∃ z, xs[i]? = some z := ⟨_, List.getElem?_eq_getElem (by omega)⟩
          refine ⟨_, rfl, _, rfl, .inl ⟨a, xs, _, z, rfl, rfl, .inl (rd_same s2 _ _ h1), at_turn hz, _, rfl, _, rfl, .inl ⟨b, ys, _, y, rfl, rfl, .inl (rd_same s2 _ _ h2), at_turn hy, ?_⟩⟩⟩
          refine ⟨z, y, rfl, (h i z y hz hy).mono (rd_same s2), fun H3 s3 => ⟨_, rfl, ?_⟩⟩
          exact ⟨_, rfl, s2.trans s3⟩
        · rintro σ H2 ⟨x, rfl, s2⟩
          exact k H2 s2
      | tup h1 h2 hl hs h =>
        rename_i m a b xs ys
        have t1 : TyX K H (.ref a) (.type "tuple") := tyxT h1
        have t2 : TyX K H (.ref b) (.type "tuple") := tyxT h2
        refine ⟨_, rfl, _, _, _, _, _, rfl, .ty _, t2, kit_ty k_tuple_bool, _, rfl, ?_⟩
        refine iteF ?_
        refine ⟨_, rfl, _, _, _, _, _, rfl, .ty _, t2, kit_ty k_tuple_int, _, rfl, ?_⟩
        refine iteF ?_
        refine ⟨_, rfl, _, _, _, _, _, rfl, .ty _, t2, kit_ty k_tuple_str, _, rfl, ?_⟩
        refine iteF ?_
        refine ⟨_, rfl, _, _, _, _, _, rfl, .ty _, t2, kit_ty k_tuple_list, _, rfl, ?_⟩
        refine iteF ?_
        refine ⟨_, rfl, _, _, _, _, _, rfl, .ty _, t2, kit_ty k_tuple_tuple, _, rfl, ?_⟩
        refine iteT ?_
        refine ⟨_, rfl, _, _, _, _, _, rfl, .ty _, t1, kit_ty k_tuple_list, _, rfl, _, _, _, _, _, rfl, .ty _, t2, kit_ty k_tuple_list, rfl, _, rfl, ?_⟩
        refine iteNS rfl ?_
        refine ⟨_, rfl, _, _, _, _, _, rfl, .ty _, t1, kit_ty k_tuple_tuple, _, rfl, _, _, _, _, _, rfl, .ty _, t2, kit_ty k_tuple_tuple, rfl, _, rfl, ?_⟩
        refine iteNS rfl ?_
        refine ⟨_, rfl, _, xs.length, rfl, .inr ⟨xs, .inl h1, rfl⟩, _, rfl, _, ys.length, rfl, .inr ⟨ys, .inl h2, rfl⟩, rfl, _, rfl, ?_⟩
        refine iteNS (by rw [hl]) ?_
        refine ⟨_, rfl, _, ys.length, rfl, .inr ⟨ys, .inl h2, rfl⟩, _, rfl, by omega, by omega, for_range (n := ys.length) (fun i σ H2 => ∃ x, σ = [some (.ref a), some (.ref b), x, none] ∧ Same H H2) ⟨none, rfl, Same.refl H⟩ ?_ ?_⟩
        · rintro i σ H2 hi ⟨x, rfl, s2⟩
          obtain ⟨y, hy⟩ : ∃ y, ys[i]? = some y := ⟨_, List.getElem?_eq_getElem hi⟩
          obtain ⟨z, hz⟩ : ∃ z, xs[i]? = some z := ⟨_, List.getElem?_eq_getElem (by omega)⟩
          refine ⟨_, rfl, _, rfl, .inr (.inl ⟨a, xs, _, z, rfl, rfl, .inl (rd_same s2 _ _ h1), at_turn hz, _, rfl, _, rfl, .inr (.inl ⟨b, ys, _, y, rfl, rfl, .inl (rd_same s2 _ _ h2), at_turn hy, ?_⟩)⟩)⟩
          refine ⟨z, y, rfl, (h i z y hz hy).mono (rd_same s2), fun H3 s3 => ⟨_, rfl, ?_⟩⟩
          exact ⟨_, rfl, s2.trans s3⟩
        · rintro σ H2 ⟨x, rfl, s2⟩
          exact k H2 s2
      | dct h1 h2 hl hk h =>
        rename_i m a b kvs lvs
        have t1 : TyX K H (.ref a) (.type "dict") := tyxD h1
        have t2 : TyX K H (.ref b) (.type "dict") := tyxD h2
        refine ⟨_, rfl, _, _, _, _, _, rfl, .ty _, t2, kit_ty k_dict_bool, _, rfl, ?_⟩
        refine iteF ?_
        refine ⟨_, rfl, _, _, _, _, _, rfl, .ty _, t2, kit_ty k_dict_int, _, rfl, ?_⟩
        refine iteF ?_
        refine ⟨_, rfl, _, _, _, _, _, rfl, .ty _, t2, kit_ty k_dict_str, _, rfl, ?_⟩
        refine iteF ?_
        refine ⟨_, rfl, _, _, _, _, _, rfl, .ty _, t2, kit_ty k_dict_list, _, rfl, ?_⟩
        refine iteF ?_
        refine ⟨_, rfl, _, _, _, _, _, rfl, .ty _, t2, kit_ty k_dict_tuple, _, rfl, ?_⟩
        refine iteF ?_
        refine ⟨_, rfl, _, _, _, _, _, rfl, .ty _, t2, kit_ty k_dict_dict, _, rfl, ?_⟩
        refine iteT ?_
        refine ⟨_, rfl, _, _, _, _, _, rfl, .ty _, t1, kit_ty k_dict_dict, _, rfl, ?_⟩
        refine iteF ?_
        refine ⟨_, rfl, a, kvs, rfl, h1, _, rfl, b, lvs, rfl, h2, rfl, _, rfl, ?_⟩
        refine iteNS (by rw [hl]) ?_
        -- the walk over the keys of due, which is locked
        rcases id h2 with hb | ⟨o, hb⟩
        · refine .inr ⟨b, _, hb, True.intro, fun od => ⟨_, rfl, b, od, rfl, .inl ⟨lvs, upd_same, for_it walk_keys (fun i σ H2 => ∃ x, σ = [some (.ref a), some (.ref b), none, x] ∧ Same (upd H b (.frz od (.dK lvs))) H2) ⟨none, rfl, Same.refl _⟩ (fun i σ H2 _ q => by obtain ⟨x, _, s2⟩ := q; exact s2 _ _ upd_same) ?_ ?_⟩⟩⟩
          · rintro i y σ H2 H3 hi ⟨x, rfl, s2⟩ ⟨hh, key, w', hw, rfl⟩
            cases hh
            obtain ⟨v, u, e1, e2⟩ := hk key w' (List.mem_of_getElem? hw)
            have r2 : ∀ c q, Rd H c q → Rd H2 c q := fun c q z => rd_same s2 _ _ (rd_lock hb _ _ z)
            refine ⟨_, rfl, _, rfl, a, some v, rfl, .inl ⟨kvs, key, r2 _ _ h1, rfl, e1.symm⟩, _, rfl, ?_⟩
            refine ⟨_, rfl, _, rfl, a, v, rfl, .inl ⟨kvs, key, r2 _ _ h1, rfl, e1.symm⟩, _, rfl, _, rfl, b, u, rfl, .inl ⟨lvs, key, r2 _ _ h2, rfl, e2.symm⟩, ?_⟩
            refine ⟨v, u, rfl, (h key v u e1 e2).mono r2, fun H4 s4 => ⟨_, rfl, ?_⟩⟩
            exact ⟨_, rfl, s2.trans s4⟩
          · rintro σ H2 ⟨x, rfl, s2⟩
            refine ⟨s2 _ _ upd_same, k _ fun c q z => ?_⟩
            by_cases e : c = b
            · subst e
              rw [upd_same, ← hb]
              exact z
            · rw [upd_ne e]
              exact s2 c q (by rw [upd_ne e]; exact z)
        · refine .inl ⟨_, rfl, b, o, rfl, .inl ⟨lvs, hb, for_it walk_keys (fun i σ H2 => ∃ x, σ = [some (.ref a), some (.ref b), none, x] ∧ Same H H2) ⟨none, rfl, Same.refl _⟩ (fun i σ H2 _ q => by obtain ⟨x, _, s2⟩ := q; exact s2 _ _ hb) ?_ ?_⟩⟩
          · rintro i y σ H2 H3 hi ⟨x, rfl, s2⟩ ⟨hh, key, w', hw, rfl⟩
            cases hh
            obtain ⟨v, u, e1, e2⟩ := hk key w' (List.mem_of_getElem? hw)
            have r2 : ∀ c q, Rd H c q → Rd H2 c q := rd_same s2
            refine ⟨_, rfl, _, rfl, a, some v, rfl, .inl ⟨kvs, key, r2 _ _ h1, rfl, e1.symm⟩, _, rfl, ?_⟩
            refine ⟨_, rfl, _, rfl, a, v, rfl, .inl ⟨kvs, key, r2 _ _ h1, rfl, e1.symm⟩, _, rfl, _, rfl, b, u, rfl, .inl ⟨lvs, key, r2 _ _ h2, rfl, e2.symm⟩, ?_⟩
            refine ⟨v, u, rfl, (h key v u e1 e2).mono r2, fun H4 s4 => ⟨_, rfl, ?_⟩⟩
            exact ⟨_, rfl, s2.trans s4⟩
          · rintro σ H2 ⟨x, rfl, s2⟩
            exact k _ s2
end
end Lw
namespace Lw
open PySem PySem.Spec PyProof.Rows L2 XV
/-- what H1 has beyond H0 -/
def dif (H0 H1 : Hp) : Hp := fun a => if H0 a = none then H1 a else none
theorem dif_of {H0 H1 : Hp} {a : Addr} {o : HO} (h : H0 a = none) (e : H1 a = some o) : dif H0 H1 a = some o := by rw [dif, if_pos h, e]
theorem of_dif {H0 H1 : Hp} {a : Addr} {o : HO} (h : dif H0 H1 a = some o) : H0 a = none ∧ H1 a = some o := by
  by_cases e : H0 a = none
  · rw [dif, if_pos e] at h
    exact ⟨e, h⟩
  · rw [dif, if_neg e] at h
    cases h
/-- a value of plain data, at most n deep, made between H0 and H1 -/
abbrev Nice (H0 H1 : Hp) (n : Nat) (v : V) : Prop := Sim (dif H0 H1) n v v
section
variable {B : Bg} {n : Nat} {H0 K0 H H' : Hp} {v : V} {p : Addr}
theorem BagAt.has (x : BagAt B H) : H B.b ≠ none := by
  obtain ⟨i, g, m, c, d, h, _⟩ := x.ex
  rw [h]
  exact Option.some_ne_none _
theorem Nice.go (x : Nice K0 H n v) (hb : K0 B.b ≠ none) (g : Go B H H') : Nice K0 H' n v := Sim.mono (rd_same fun a o h => by
  obtain ⟨h1, h2⟩ := of_dif h
  exact dif_of h1 (g.but a o (fun e => hb (e ▸ h1)) h2)) x
theorem Nice.back (x : Nice K0 H n v) (h : ∀ a, K0 a = none → H0 a = none) : Nice H0 H n v := Sim.mono (rd_same fun a o h1 => by
  obtain ⟨h2, h3⟩ := of_dif h1
  exact dif_of (h a h2) h3) x
theorem Nice.turn {o : HO} (x : Nice K0 H n v) (h : K0 p ≠ none) : Nice K0 (upd H p o) n v := Sim.mono (rd_same fun a u h1 => by
  obtain ⟨h2, h3⟩ := of_dif h1
  exact dif_of h2 (by rw [upd_ne (by intro e; subst e; exact h h2)]; exact h3)) x
theorem Nice.new {o : HO} (x : Nice K0 H n v) (h : H p = none) : Nice K0 (upd H p o) n v := Sim.mono (rd_same fun a u h1 => by
  obtain ⟨h2, h3⟩ := of_dif h1
  exact dif_of h2 (by rw [upd_ne (ne_of_none h3 h)]; exact h3)) x
theorem nice_l {ys : List V} (h0 : K0 p = none) (hp : H p = some (.lst ys)) (hs : ys.length ≤ 1000) (h : ∀ y ∈ ys, Nice K0 H n y) : Nice K0 H (n + 1) (.ref p) :=
  .lst (.inl (dif_of h0 hp)) (.inl (dif_of h0 hp)) rfl hs fun i x y a b => by
    cases a.symm.trans b
    exact h x (List.mem_of_getElem? a)
theorem nice_t {ys : List V} (h0 : K0 p = none) (hp : H p = some (.tup ys)) (hs : ys.length ≤ 1000) (h : ∀ y ∈ ys, Nice K0 H n y) : Nice K0 H (n + 1) (.ref p) :=
  .tup (.inl (dif_of h0 hp)) (.inl (dif_of h0 hp)) rfl hs fun i x y a b => by
    cases a.symm.trans b
    exact h x (List.mem_of_getElem? a)
/-- what was there is there still -/
def Up (H0 H1 : Hp) : Prop := ∀ a, H1 a = none → H0 a = none
theorem Up.refl (H : Hp) : Up H H := fun _ h => h
theorem Up.trans {H0 H1 H2 : Hp} (x : Up H0 H1) (y : Up H1 H2) : Up H0 H2 := fun a h => x a (y a h)
theorem Up.upd {o : HO} (x : Up K0 H) : Up K0 (L2.upd H p o) := fun a h => by
  by_cases e : a = p
  · subst e
    rw [upd_same] at h
    cases h
  · rw [upd_ne e] at h
    exact x a h
theorem Go.up (g : Go B H H') (hB : BagAt B H) : Up H H' := fun _ h => g.free hB h
theorem val_of_mem : ∀ {kvs : List (Key × V)} {k : Key} {x : V}, (k, x) ∈ kvs → ∃ v, valV kvs k = some v
  | p :: r, k, x, h => by
    by_cases e : p.1 = k
    · exact ⟨_, valV_pos e⟩
    · rw [valV_neg e]
      rcases List.mem_cons.mp h with h | h
      · exact absurd (by rw [← h]) e
      · exact val_of_mem h
theorem nice_d {kvs : List (Key × V)} (h0 : K0 p = none) (hp : H p = some (.dK kvs)) (h : ∀ k v, valV kvs k = some v → Nice K0 H n v) : Nice K0 H (n + 1) (.ref p) :=
  .dct (.inl (dif_of h0 hp)) (.inl (dif_of h0 hp)) rfl (fun k x m => by
    obtain ⟨v, e⟩ := val_of_mem m
    exact ⟨v, v, e, e⟩) fun k v u a b => by
    cases a.symm.trans b
    exact h k v a
end
abbrev sValue : Stmt := topOf "_law_value"
abbrev Nvalue : List Str := ["bag", "deep", "pick", "row", "k", "table"]
theorem scValue : FnScope Nvalue ["bag", "deep"] (defScope sValue) := ⟨rfl, rfl, rfl, by decide +kernel, rfl, by decide +kernel, by decide +kernel⟩
def spVal : Nat → Sp
  | 0 => fun _ _ _ _ => False
  | n + 1 => fun vs H Q _ => ∃ (B : Bg) (i : Int), vs = [.ref B.b, .int i] ∧ i = n ∧ BagAt B H ∧ ∀ (v : V) (H' : Hp), Nice H H' n v → Go B H H' → Q v H'
section
variable {P : Program} {w : World} {K : PySem.W.Frag} {mg : Str → Option Value} {base : Heap}
theorem ok_value {f fS fO fD : Addr} {fd fdS fdO fdD : FuncData} (T : Bt mg) (D_value : Df K mg "_law_value" sValue ["bag", "deep"] f fd) (D_string : Df K mg "_law_string" sString ["bag"] fS fdS) (D_of : Df K mg "_law_of" sOf ["bag", "things"] fO fdO) (D_draw : Df K mg "_law_draw" sDraw ["bag", "size"] fD fdD) : ∀ n, FnOk P w K mg base CX0 (n + 3) f fd ["bag", "deep"] (spVal n)
  | 0 => ⟨fun _ _ _ _ h => h.elim, fun _ _ _ _ _ _ _ _ _ _ _ _ _ h => h.elim⟩
  | n + 1 => by
    have G_value : FnOk P w K mg base CX0 (n + 3) f fd ["bag", "deep"] (spVal n) := ok_value T D_value D_string D_of D_draw n
    have G_string : FnOk P w K mg base CX0 3 fS fdS ["bag"] spString := ok_string D_string.fn T D_of D_draw
    have G_draw : FnOk P w K mg base CX0 1 fD fdD ["bag", "size"] spDraw := ok_draw D_draw.fn T
    refine D_value.fn.ok scValue (fun vs H Q E h => ?_) (fun cdv A outer s H vs Q E hr h => ?_)
    · obtain ⟨B, i, rfl, _⟩ := h
      rfl
    · obtain ⟨B, i0, rfl, rfl, hB, k⟩ := h
      have hu := hu_of hr
      refine ⟨_, pss_cons (ps_set (i := 2) scValue.nd rfl (Or.inl rfl) (cal D_draw G_draw (hr.mono (by omega)) (pa_cons (pv 0) (pa_cons (pe_int) pa_nil))))
 (pss_cons (ps_if (pt_cmpR op_eq (pv 2) (pe_int) (nomark _))
 (pss_one (ps_ret (pe_non)))
 (pss_nil))
 (pss_cons (ps_if (pt_cmpR op_eq (pv 2) (pe_int) (nomark _))
 (pss_one (ps_ret (pe_cmpR op_eq (cal D_draw G_draw (hr.mono (by omega)) (pa_cons (pv 0) (pa_cons (pe_int) pa_nil))) (pe_int) (nomark _))))
 (pss_nil))
 (pss_cons (ps_if (pt_cmpR op_lt (pv 2) (pe_int) (nomark _))
 (pss_one (ps_ret (pe_op op_sub (cal D_draw G_draw (hr.mono (by omega)) (pa_cons (pv 0) (pa_cons (pe_int) pa_nil))) (pe_int))))
 (pss_nil))
 (pss_cons (ps_if (PW.pt (pw_or (pt_cmpR op_lt (pv 2) (pe_int) (nomark _)) (pw_or1 (pt_cmpR op_eq (pv 1) (pe_int) (nomark _)))))
 (pss_one (ps_ret (cal D_string G_string (hr.mono (by omega)) (pa_cons (pv 0) pa_nil))))
 (pss_nil))
 (pss_cons (ps_setLc (i := 3) (own := [("k", 4)]) (g := gName 4) (tt := tYes) rfl scValue.nd rfl rfl (sw_true rfl rfl rfl (by decide +kernel)) (pi_range1 rfl T.range (pa_cons (cal D_draw G_draw (hr.mono (by omega)) (pa_cons (pv 0) (pa_cons (pe_int) pa_nil))) pa_nil)) (blkOk_by (N := Nvalue) (sc := defScope sValue) (by decide +kernel)) (fun _ _ _ _ _ => pg_name (i := 4) scValue.nd rfl (Or.inl rfl)) (fun _ _ _ _ _ => pts_nil) (fun _ _ _ _ _ => cal D_value G_value (hr.mono (by omega)) (pa_cons (pv 0) (pa_cons (pe_op op_sub (pv 1) (pe_int)) pa_nil))))
 (pss_cons (ps_if (pt_cmpR op_eq (pv 2) (pe_int) (nomark _))
 (pss_one (ps_ret (pe_callTy call_tuple_of (by rfl) T.tuple (by decide +kernel) (pa_cons (pv 3) pa_nil))))
 (pss_nil))
 (pss_cons (ps_if (pt_cmpR op_eq (pv 2) (pe_int) (nomark _))
 (pss_one (ps_ret (pv 3)))
 (pss_nil))
 (pss_cons (ps_set (i := 5) scValue.nd rfl (Or.inl rfl) (pe_dnewK))
 (pss_cons (ps_for PassesOwn.never rfl (pi_range1 rfl T.range (pa_cons (pe_callB call_lenL (by rfl) T.len (by decide +kernel) (pa_cons (pv 3) pa_nil)) pa_nil)) (pg_name (i := 4) scValue.nd rfl (Or.inl rfl))
 (pss_one (ps_dput hu (pv 5) (cal D_string G_string (hr.mono (by omega)) (pa_cons (pv 0) pa_nil)) (pe_ix ix_seq (pv 3) (pv 4) (fun _ _ => rfl)) rfl)))
 (pss_one (ps_ret (pv 5)))))))))))), ?_⟩
      refine ⟨_, rfl, B, _, rfl, hB, by decide, by decide, fun d H1 d0 d1 g1 => ?_⟩
      refine ⟨_, rfl, rfl, _, rfl, ite2 (fun _ => k _ _ .non g1) (fun _ => ?_)⟩
      refine ⟨_, rfl, rfl, _, rfl, ite2 (fun _ => ?_) (fun _ => ?_)⟩
      · exact ⟨_, rfl, B, _, rfl, g1.bag, by decide, by decide, fun e H2 e0 e1 g2 => ⟨rfl, k _ _ (.bl _) (g1.trans g2)⟩⟩
      refine ⟨_, rfl, _, _, rfl, rfl, _, rfl, ite2 (fun _ => ?_) (fun _ => ?_)⟩
      · exact ⟨_, rfl, B, _, rfl, g1.bag, by decide, by decide, fun e H2 e0 e1 g2 => ⟨_, _, rfl, rfl, k _ _ (.int _) (g1.trans g2)⟩⟩
      refine ⟨_, rfl, _, _, rfl, rfl, _, rfl, ite2 (fun _ => iteT ⟨_, rfl, B, rfl, g1.bag, fun z H2 hz g2 => k _ _ (.str z (by omega)) (g1.trans g2)⟩) (fun _ => ?_)⟩
      refine ⟨_, rfl, rfl, _, rfl, ite2 (fun _ => ⟨_, rfl, B, rfl, g1.bag, fun z H2 hz g2 => k _ _ (.str z (by omega)) (g1.trans g2)⟩) (fun c0 => ?_)⟩
      obtain ⟨m, rfl⟩ : ∃ m, n = m + 1 := by
        cases n with
        | zero => exact absurd (decide_eq_true rfl) c0
        | succ m => exact ⟨m, rfl⟩
      refine ⟨_, rfl, B, _, rfl, g1.bag, by decide, by decide, fun e H2 e0 e1 g2 => ⟨e, rfl, by omega, by omega, fun D hD => ?_⟩⟩
      have g2' := g1.trans g2
      have hD0 := g2'.free hB hD
      have uK : Up H (upd H2 D (.lst [])) := (g2'.up hB).upd
      have hBk : upd H2 D (.lst []) B.b ≠ none := ((g2'.new (o := .lst []) hD).bag).has
      have hDk : upd H2 D (.lst []) D ≠ none := by rw [upd_same]; exact Option.some_ne_none _
      refine lc_range (lo := 0) (n := e.toNat) (fun i H3 => Go B H H3 ∧ Up (upd H2 D (.lst [])) H3 ∧ ∃ ys : List V, H3 D = some (.lst ys) ∧ ys.length = i ∧ ∀ y ∈ ys, Nice (upd H2 D (.lst [])) H3 m y) ⟨g2'.new hD, Up.refl _, [], upd_same, rfl, fun _ h => by simp at h⟩ ?_ ?_
      · rintro i H3 hi ⟨g3, u3, ys, e3, l3, o3⟩
        refine ⟨rfl, _, rfl, _, rfl, _, _, rfl, rfl, B, _, rfl, by omega, g3.bag, fun v H4 nv g4 => ?_⟩
        refine ⟨ys, g4.keep g3.bag (hB.away hD0).1 e3, by rw [sizeLine_eq]; omega, (g3.trans g4).turn hB hD0, (u3.trans (g4.up g3.bag)).upd, ys ++ [v], upd_same, by rw [List.length_append, l3]; rfl, fun y hy => ?_⟩
        rcases List.mem_append.mp hy with h | h
        · exact ((o3 y h).go hBk g4).turn hDk
        · rw [List.mem_singleton.mp h]
          exact (nv.back u3).turn hDk
      · rintro H3 ⟨g3, u3, ys, e3, l3, o3⟩
        have o4 : ∀ y ∈ ys, Nice H H3 m y := fun y hy => (o3 y hy).back uK
        have hnD : D ≠ B.b := (hB.away hD0).1
        refine ⟨_, rfl, rfl, _, rfl, ite2 (fun _ => ?_) (fun _ => ?_)⟩
        · refine ⟨_, rfl, D, ys, rfl, .inl ⟨SqL.of e3, fun t ht => k _ _ ?_ (g3.new ht)⟩⟩
          exact nice_t (g3.free hB ht) upd_same (by omega) fun y hy => (o4 y hy).new ht
        refine ⟨_, rfl, rfl, _, rfl, ite2 (fun _ => ?_) (fun _ => ?_)⟩
        · exact ⟨_, rfl, k _ _ (nice_l hD0 e3 (by omega) o4) g3⟩
        intro p hp
        have g4 : Go B H3 (upd H3 p (.dK [])) := (Go.refl g3.bag).new hp
        refine ⟨_, rfl, D, ys, rfl, SqL.of (g4.keep g3.bag hnD e3), _, rfl, by omega, by omega, for_range (n := ys.length) (fun i σ H5 => ∃ (kvs : List (Key × V)) (x : Option V), σ = [some (.ref B.b), some (.int (m + 1 : Nat)), some (.int d), some (.ref D), x, some (.ref p)] ∧ Go B H3 H5 ∧ H5 p = some (.dK kvs) ∧ kvs.length ≤ i ∧ ∀ k v, valV kvs k = some v → v ∈ ys) ⟨[], none, rfl, g4, upd_same, Nat.le_refl _, fun _ _ h => by cases h⟩ ?_ ?_⟩
        · rintro i σ H5 hi ⟨kvs, x, rfl, g5, e5, l5, o5⟩
          obtain ⟨y, hy⟩ : ∃ y, ys[i]? = some y := ⟨_, List.getElem?_eq_getElem hi⟩
          refine ⟨_, rfl, _, rfl, .inl ⟨D, ys, _, y, rfl, rfl, SqL.of (g5.keep g3.bag hnD e3), at_turn hy, ?_⟩⟩
          refine ⟨_, rfl, _, rfl, B, rfl, g5.bag, fun z H6 _ g6 => ?_⟩
          have np : p ≠ B.b := (g3.bag.away hp).1
          refine ⟨p, _, rfl, DPut.k (k := .inr z) (g6.keep g5.bag np e5) (by rw [sizeLine_eq]; omega), ?_⟩
          refine ⟨_, _, rfl, (g5.trans g6).turn g3.bag hp, upd_same, Nat.le_trans (length_putK _ _ _) (by omega), fun k' v' h => ?_⟩
          rw [valV_put] at h
          by_cases ek : k' = .inr z
          · rw [if_pos ek] at h
            cases h
            exact List.mem_of_getElem? hy
          · rw [if_neg ek] at h
            exact o5 k' v' h
        · rintro σ H5 ⟨kvs, x, rfl, g5, e5, l5, o5⟩
          exact ⟨_, rfl, k _ _ (nice_d (g3.free hB hp) e5 fun k' v' h => (o4 v' (o5 k' v' h)).go hB.has g5) (g3.trans g5)⟩
end
end Lw
namespace Lw
open PySem PySem.Spec PyProof.Rows L2 XV
abbrev zLet : Str := "abcdefghijklmnopqrstuvwxyz"
abbrev zDig : Str := "0123456789"
abbrev zSgn : Str := "abcdefghijklmnopqrstuvwxyz0123456789"
/-- the names of the text that are told as they stand -/
structure Cs (mg : Str → Option Value) : Prop where
  lt : ∃ u, mg "LETTERS" = some u ∧ RelV (.str zLet) u
  sg : ∃ u, mg "SIGNS" = some u ∧ RelV (.str zSgn) u
  ln : ∃ u, mg "LONGEST_NAME" = some u ∧ RelV (.int 8) u
/-- whether the signs are those of a name -/
def goodL : List Nat → Bool
  | [] => false
  | c :: cs => decide (c ∈ zLet.cps.toList) && (c :: cs).all fun c => decide (c ∈ zSgn.cps.toList)
def nameV : V → Bool
  | .str z => decide (0 < z.length) && (decide (z.length ≤ 8) && goodL z.cps.toList)
  | _ => false
theorem sgn_eq : zSgn.cps.toList = zLet.cps.toList ++ zDig.cps.toList := by decide +kernel
theorem good_no {cs : List Nat} {i c : Nat} (h : cs[i]? = some c) (h1 : c ∉ zLet.cps.toList) (h2 : i = 0 ∨ c ∉ zDig.cps.toList) : goodL cs = false := by
  cases cs with
  | nil => rfl
  | cons d cs =>
    cases i with
    | zero =>
      cases h
      show (decide _ && _) = false
      rw [decide_eq_false h1]
      rfl
    | succ i =>
      have h3 : c ∉ zSgn.cps.toList := by
        rw [sgn_eq]
        intro m
        rcases List.mem_append.mp m with m | m
        · exact h1 m
        · exact (h2.resolve_left (by omega)) m
      have m := List.mem_of_getElem? h
      show (_ && List.all _ _) = false
      rw [show ((d :: cs).all fun c => decide (c ∈ zSgn.cps.toList)) = false from by
        rw [List.all_eq_false]
        exact ⟨c, m, by rw [decide_eq_false h3]; decide⟩]
      exact Bool.and_false _
theorem good_yes {cs : List Nat} (h0 : 0 < cs.length) (h : ∀ i c, cs[i]? = some c → c ∈ zLet.cps.toList ∨ (i ≠ 0 ∧ c ∈ zDig.cps.toList)) : goodL cs = true := by
  cases cs with
  | nil => exact absurd h0 (by decide)
  | cons d cs =>
    show (decide _ && List.all _ _) = true
    rw [decide_eq_true ((h 0 d rfl).resolve_right fun z => z.1 rfl), Bool.true_and, List.all_eq_true]
    intro c m
    obtain ⟨i, hi⟩ := List.mem_iff_getElem?.mp m
    refine decide_eq_true ?_
    rw [sgn_eq]
    exact List.mem_append.mpr ((h i c hi).imp id fun z => z.2)
/-- text, or not a text -/
theorem Sim.kind {K : PySem.W.Frag} {H : Hp} {n : Nat} {u v : V} (s : Sim H n u v) : (∃ z, u = .str z ∧ z.length ≤ 100) ∨ nameV u = false ∧ ∃ t, TyX K H u (.type t) ∧ kitB t "str" = some false := by
  cases s with
  | non => exact .inr ⟨rfl, _, .base .non, k_NoneType_str⟩
  | bl b => exact .inr ⟨rfl, _, .base (.bl b), k_bool_str⟩
  | int i => exact .inr ⟨rfl, _, .base (.int i), k_int_str⟩
  | str z hz => exact .inl ⟨z, rfl, hz⟩
  | lst h1 => exact .inr ⟨rfl, _, tyxL h1, k_list_str⟩
  | tup h1 => exact .inr ⟨rfl, _, tyxT h1, k_tuple_str⟩
  | dct h1 => exact .inr ⟨rfl, _, tyxD h1, k_dict_str⟩
theorem at_turnG {α : Type} {xs : List α} {i : Nat} {x : α} (h : xs[i]? = some x) : atI xs (0 + (i : Int)) = some x := by
  rw [Int.zero_add]
  exact atI_nat h
theorem same_new {H : Hp} {p : Addr} {o : HO} (hp : H p = none) : Same H (L2.upd H p o) := fun a u h => by rw [upd_ne (ne_of_none h hp)]; exact h
theorem len_cps (z : Str) : z.length = z.cps.toList.length := by rw [Array.length_toList]; rfl
def spName : Sp := fun vs H Q _ => ∃ (n : Nat) (M : Hp) (v : V), vs = [v] ∧ Sim M n v v ∧ Same M H ∧ ∀ H', Same H H' → Q (.bl (nameV v)) H'
abbrev sNamed : Stmt := topOf "_law_named"
abbrev Nnamed : List Str := ["item", "k"]
theorem scNamed : FnScope Nnamed ["item"] (defScope sNamed) := ⟨rfl, rfl, rfl, by decide +kernel, rfl, by decide +kernel, by decide +kernel⟩
abbrev sWord : Stmt := topOf "is_word"
abbrev Nword : List Str := ["value", "sign"]
theorem scWord : FnScope Nword ["value"] (defScope sWord) := ⟨rfl, rfl, rfl, by decide +kernel, rfl, by decide +kernel, by decide +kernel⟩
abbrev sName : Stmt := topOf "is_name"
abbrev Nname : List Str := ["value"]
theorem scName : FnScope Nname ["value"] (defScope sName) := ⟨rfl, rfl, rfl, by decide +kernel, rfl, by decide +kernel, by decide +kernel⟩
section
variable {P : Program} {w : World} {K : PySem.W.Frag} {mg : Str → Option Value} {base : Heap}
theorem ok_named {f : Addr} {fd : FuncData} (F : Fun K "_law_named" "_law_named" sNamed f fd) (T : Bt mg) : FnOk P w K mg base CX0 1 f fd ["item"] spName := by
  refine F.ok scNamed (fun vs H Q E h => ?_) (fun cdv A outer s H vs Q E hr h => ?_)
  · obtain ⟨n, M, v, rfl, _⟩ := h
    rfl
  · obtain ⟨n, M, v, rfl, sm, sM, k⟩ := h
    have sm := sm.mono (rd_same sM)
    refine ⟨_, pss_cons (ps_if (PW.pt (pw_or (pt_not (pt_val (pe_callB call_isi (by rfl) T.isinstance (by decide +kernel) (pa_cons (pv 0) (pa_cons (pe_bltn (v := .ty "str") (by rfl) T.str (by decide +kernel) rfl) pa_nil))))) (pw_or (pt_cmpR op_lt (pe_callB call_len (by rfl) T.len (by decide +kernel) (pa_cons (pv 0) pa_nil)) (pe_int) (nomark _)) (pw_or1 (pt_cmpR op_gt (pe_callB call_len (by rfl) T.len (by decide +kernel) (pa_cons (pv 0) pa_nil)) (pe_int) (nomark _))))))
 (pss_one (ps_ret (pe_bl)))
 (pss_nil))
 (pss_cons (ps_for PassesOwn.never rfl (pi_range1 rfl T.range (pa_cons (pe_callB call_len (by rfl) T.len (by decide +kernel) (pa_cons (pv 0) pa_nil)) pa_nil)) (pg_name (i := 1) scNamed.nd rfl (Or.inl rfl))
 (pss_one (ps_if (PW.pt (pw_and (pt_cmpR op_notIn_sign (pe_ix ix_str (pv 0) (pv 1) (fun _ _ => rfl)) (pe_str) (by rfl)) (pw_and1 (PW.pt (pw_or (pt_cmpR op_eq (pv 1) (pe_int) (nomark _)) (pw_or1 (pt_cmpR op_notIn_sign (pe_ix ix_str (pv 0) (pv 1) (fun _ _ => rfl)) (pe_str) (by rfl))))))))
 (pss_one (ps_ret (pe_bl)))
 (pss_nil))))
 (pss_one (ps_ret (pe_bl)))), ?_⟩
    rcases sm.kind (K := K) with ⟨z, rfl, hz⟩ | ⟨nv, t, ty, tk⟩
    · have t1 : TyX K H (.str z) (.type "str") := .base (.str z)
      refine ⟨_, rfl, _, _, _, _, _, rfl, .ty _, t1, kit_ty k_str_str, _, rfl, ?_⟩
      refine iteF ?_
      refine ⟨_, rfl, _, z.length, rfl, ⟨by rw [sizeLine_eq]; omega, rfl⟩, _, _, rfl, rfl, _, rfl, ite2 (fun c1 => iteT ?_) (fun c1 => ?_)⟩
      · have c1 := of_decide_eq_true c1
        rw [show false = nameV (.str z) from by rw [nameV, decide_eq_false (by omega)]; rfl]
        exact k H (Same.refl H)
      refine ⟨_, rfl, _, z.length, rfl, ⟨by rw [sizeLine_eq]; omega, rfl⟩, _, _, rfl, rfl, _, rfl, ite2 (fun c2 => ?_) (fun c2 => ?_)⟩
      · have c2 := of_decide_eq_true c2
        rw [show false = nameV (.str z) from by rw [nameV, decide_eq_false (p := z.length ≤ 8) (by omega)]; cases decide (0 < z.length) <;> rfl]
        exact k H (Same.refl H)
      have c1 : 0 < z.length := by
        have := mt decide_eq_true c1
        omega
      have c2 : z.length ≤ 8 := by
        have := mt decide_eq_true c2
        omega
      have hl := len_cps z
      have e0 : nameV (.str z) = goodL z.cps.toList := by rw [nameV, decide_eq_true c1, decide_eq_true c2]; rfl
      refine ⟨_, rfl, _, z.length, rfl, ⟨by rw [sizeLine_eq]; omega, rfl⟩, _, rfl, by omega, by omega, for_range (n := z.length) (fun i σ H2 => ∃ x, σ = [some (.str z), x] ∧ H2 = H ∧ ∀ j c, j < i → z.cps.toList[j]? = some c → c ∈ zLet.cps.toList ∨ (j ≠ 0 ∧ c ∈ zDig.cps.toList)) ⟨none, rfl, rfl, fun j c h => absurd h (Nat.not_lt_zero _)⟩ ?_ ?_⟩
      · rintro i σ H2 hi ⟨x, rfl, rfl, o⟩
        obtain ⟨c, hc⟩ : ∃ c, z.cps.toList[i]? = some c := ⟨_, List.getElem?_eq_getElem (by omega)⟩
        have go : (c ∈ zLet.cps.toList ∨ (i ≠ 0 ∧ c ∈ zDig.cps.toList)) → ∀ j d, j < i + 1 → z.cps.toList[j]? = some d → d ∈ zLet.cps.toList ∨ (j ≠ 0 ∧ d ∈ zDig.cps.toList) := fun h j d hj hd => by
          by_cases e : j = i
          · subst e
            cases hc.symm.trans hd
            exact h
          · exact o j d (by omega) hd
        refine ⟨_, rfl, _, rfl, z, _, c, rfl, rfl, by rw [sizeLine_eq]; omega, at_turnG hc, c, zLet, rfl, rfl, _, rfl, ite2 (fun m1 => ?_) (fun m1 => ?_)⟩
        · have m1 : c ∉ zLet.cps.toList := fun h => by rw [decide_eq_true h] at m1; cases m1
          refine ⟨_, rfl, rfl, _, rfl, ite2 (fun m2 => iteT ?_) (fun m2 => ?_)⟩
          · have m2 := of_decide_eq_true m2
            have m3 : i = 0 := by
              injection m2
              omega
            rw [show false = nameV (.str z) from by rw [e0]; exact (good_no hc m1 (.inl m3)).symm]
            exact k H2 (Same.refl H2)
          · refine ⟨_, rfl, _, rfl, z, _, c, rfl, rfl, by rw [sizeLine_eq]; omega, at_turnG hc, c, zDig, rfl, rfl, _, rfl, ite2 (fun m3 => ?_) (fun m3 => ?_)⟩
            · have m3 : c ∉ zDig.cps.toList := fun h => by rw [decide_eq_true h] at m3; cases m3
              rw [show false = nameV (.str z) from by rw [e0]; exact (good_no hc m1 (.inr m3)).symm]
              exact k H2 (Same.refl H2)
            · have m3 : c ∈ zDig.cps.toList := by
                by_cases h : c ∈ zDig.cps.toList
                · exact h
                · rw [decide_eq_false h] at m3
                  exact absurd rfl m3
              refine ⟨_, rfl, rfl, go (.inr ⟨fun h => m2 (decide_eq_true (by rw [h]; rfl)), m3⟩)⟩
        · have m1 : c ∈ zLet.cps.toList := by
            by_cases h : c ∈ zLet.cps.toList
            · exact h
            · rw [decide_eq_false h] at m1
              exact absurd rfl m1
          exact ⟨_, rfl, rfl, go (.inl m1)⟩
      · rintro σ H2 ⟨x, rfl, rfl, o⟩
        rw [show V.bl true = .bl (nameV (.str z)) from by rw [e0, good_yes (by omega) fun i c h => o i c (by rw [hl]; exact (List.getElem?_eq_some_iff.mp h).1) h]]
        exact k H2 (Same.refl H2)
    · refine ⟨_, rfl, _, _, _, _, _, rfl, .ty _, ty, kit_ty tk, _, rfl, ?_⟩
      refine iteT ?_
      refine iteT ?_
      rw [← nv]
      exact k H (Same.refl H)
end
end Lw
namespace Lw
open PySem PySem.Spec PyProof.Rows L2 XV
/-- the attributes of a made exception, the last one first -/
def flds (ns : List Str) (code : Str) (xs : List V) : List (Str × V) := ("code", .str code) :: (ns.zip xs).reverse
/-- what the __init__ of the class at C leaves -/
def spIni (C : Addr) (ns : List Str) (code : Str) : Sp := fun vs H Q _ => ∃ (a : Addr) (xs : List V), vs = .ref a :: xs ∧ xs.length = ns.length ∧ H a = some (exo a C none) ∧
  ∀ (dx : Addr) (H' : Hp), H dx = none → dx ≠ a → H' a = some (exo a C (some dx)) → H' dx = some (exd dx (flds ns code xs)) → (∀ b o, b ≠ a → H b = some o → H' b = some o) → Q .non H'
/-- an own exception class where it stands -/
structure XC (K : PySem.W.Frag) (mg : Str → Option Value) (nm qn : Str) (newId : String) (tl : List Value) (st : Stmt) (ns : List Str) (C f : Addr) (fd : FuncData) : Prop where
  T : ExCls K C newId tl
  iC : PySem.W.findIn K (.ref C) "__init__" = some (some (.ref f))
  tI : PySem.W.typeIn K (.ref f) = some (.type "function")
  F : Fun K "__init__" qn st f fd
  bd : Binds K fd ("self" :: ns) []
  g : mg nm = some (.ref C)
  nf : ∀ x ∈ ("code" : Str) :: ns, PySem.W.findIn K (.ref C) x = some none
theorem XC.no {K : PySem.W.Frag} {mg : Str → Option Value} {nm qn : Str} {newId : String} {tl : List Value} {st : Stmt} {ns : List Str} {C f : Addr} {fd : FuncData} (D : XC K mg nm qn newId tl st ns C f fd) {x : Str} (h : x ∈ ("code" : Str) :: ns := by simp) : PySem.W.findIn K (.ref C) x = some none := D.nf x h
/-- behind a creation: the exception as it stands, all else as it was -/
theorem mk_do {C : Addr} {ns : List Str} {code : Str} {vs : List V} {H1 : Hp} {Q : VK} (hl : vs.length = ns.length) (hs : ns.length ≤ 1000)
    (k : ∀ (a d t0 : Addr) (H2 : Hp), H1 a = none → H1 d = none → d ≠ a → H2 a = some (pinO a (newX C d t0)) → H2 d = some (.xd (flds ns code vs)) → Same H1 H2 → Q (.ref a) H2) :
    vs.length ≤ 1000 ∧ ∀ a, H1 a = none → spIni C ns code (.ref a :: vs) (upd H1 a (exo a C none)) (fun v H2 => v = .non ∧ ∃ (d : Addr) (fs : List (Str × V)), H2 a = some (exo a C (some d)) ∧ H2 d = some (exd d fs) ∧ d ≠ a ∧ ∀ t0, Q (.ref a) (upd (upd H2 a (pinO a (newX C d t0))) d (.xd fs))) (fun _ _ _ => False) := by
  refine ⟨by omega, fun a ha => ⟨a, vs, rfl, hl, upd_same, fun d H2 hd hda e1 e2 sm => ⟨rfl, d, _, e1, e2, hda, fun t0 => ?_⟩⟩⟩
  have hd0 : H1 d = none := by
    rw [upd_ne hda] at hd
    exact hd
  refine k a d t0 _ ha hd0 hda (by rw [upd_ne hda.symm, upd_same]) upd_same fun b o h => ?_
  have nb : b ≠ a := ne_of_none h ha
  rw [upd_ne (ne_of_none h hd0), upd_ne nb]
  exact sm b o nb (by rw [upd_ne nb]; exact h)
def initOf (n : Str) : Stmt := inClass (topOf n) 0
abbrev sBadText : Stmt := inClass (topOf "BadText") 0
theorem scBadText : FnScope ["self", "what", "line", "why"] ["self", "what", "line", "why"] (defScope sBadText) := ⟨rfl, rfl, rfl, by decide +kernel, rfl, by decide +kernel, by decide +kernel⟩
theorem iniBadText {P : Program} {w : World} {K : PySem.W.Frag} {mg : Str → Option Value} {base : Heap} {B newId : String} {tl : List Value} {C f : Addr} {fd : FuncData} (SF : StoreFacts B tl "object.__setattr__" "object") (D : XC K mg "BadText" "BadText.__init__" newId tl sBadText ["what", "line", "why"] C f fd) : FnOk P w K mg base CX0 1 f fd ["self", "what", "line", "why"] (spIni C ["what", "line", "why"] "BadText") := by
  refine D.F.ok scBadText (fun vs H Q E h => ?_) (fun cdv A outer s H vs Q E hr h => ?_)
  · obtain ⟨a, xs, rfl, hl, _⟩ := h
    show xs.length + 1 = _
    rw [hl]
    rfl
  · obtain ⟨a, xs, rfl, hl, ha, k⟩ := h
    obtain ⟨x, y, z, rfl⟩ : ∃ x y z, xs = [x, y, z] := by
      match xs, hl with
      | [x, y, z], _ => exact ⟨x, y, z, rfl⟩
    refine ⟨_, pss_cons (ps_stx (C := C) SF D.T D.no (pv 0) (pv 1)) (pss_cons (ps_stx (C := C) SF D.T D.no (pv 0) (pv 2)) (pss_cons (ps_stx (C := C) SF D.T D.no (pv 0) (pv 3)) (pss_one (ps_stx (C := C) SF D.T D.no (pv 0) pe_str)))), ?_⟩
    refine ⟨_, rfl, _, rfl, a, rfl, .inl ⟨ha, fun dx h1 h2 => ?_⟩⟩
    refine ⟨_, rfl, _, rfl, a, rfl, .inr ⟨dx, _, upd_same, by rw [upd_ne h2]; exact upd_same, by simp, ?_⟩⟩
    refine ⟨_, rfl, _, rfl, a, rfl, .inr ⟨dx, _, by rw [upd_ne h2.symm]; exact upd_same, upd_same, by simp, ?_⟩⟩
    refine ⟨_, rfl, a, rfl, .inr ⟨dx, _, by rw [upd_ne h2.symm]; rw [upd_ne h2.symm]; exact upd_same, upd_same, by simp, ?_⟩⟩
    refine k dx _ h1 h2 (by rw [upd_ne h2.symm]; rw [upd_ne h2.symm]; rw [upd_ne h2.symm]; exact upd_same) upd_same fun b o nb h => ?_
    have nd : b ≠ dx := ne_of_none h h1
    rw [upd_ne nd, upd_ne nd, upd_ne nd, upd_ne nb, upd_ne nd]
    exact h
abbrev sBadValue : Stmt := inClass (topOf "BadValue") 0
theorem scBadValue : FnScope ["self", "what"] ["self", "what"] (defScope sBadValue) := ⟨rfl, rfl, rfl, by decide +kernel, rfl, by decide +kernel, by decide +kernel⟩
theorem iniBadValue {P : Program} {w : World} {K : PySem.W.Frag} {mg : Str → Option Value} {base : Heap} {B newId : String} {tl : List Value} {C f : Addr} {fd : FuncData} (SF : StoreFacts B tl "object.__setattr__" "object") (D : XC K mg "BadValue" "BadValue.__init__" newId tl sBadValue ["what"] C f fd) : FnOk P w K mg base CX0 1 f fd ["self", "what"] (spIni C ["what"] "BadValue") := by
  refine D.F.ok scBadValue (fun vs H Q E h => ?_) (fun cdv A outer s H vs Q E hr h => ?_)
  · obtain ⟨a, xs, rfl, hl, _⟩ := h
    show xs.length + 1 = _
    rw [hl]
    rfl
  · obtain ⟨a, xs, rfl, hl, ha, k⟩ := h
    obtain ⟨x, rfl⟩ : ∃ x, xs = [x] := by
      match xs, hl with
      | [x], _ => exact ⟨x, rfl⟩
    refine ⟨_, pss_cons (ps_stx (C := C) SF D.T D.no (pv 0) (pv 1)) (pss_one (ps_stx (C := C) SF D.T D.no (pv 0) pe_str)), ?_⟩
    refine ⟨_, rfl, _, rfl, a, rfl, .inl ⟨ha, fun dx h1 h2 => ?_⟩⟩
    refine ⟨_, rfl, a, rfl, .inr ⟨dx, _, upd_same, by rw [upd_ne h2]; exact upd_same, by simp, ?_⟩⟩
    refine k dx _ h1 h2 (by rw [upd_ne h2.symm]; exact upd_same) upd_same fun b o nb h => ?_
    have nd : b ≠ dx := ne_of_none h h1
    rw [upd_ne nd, upd_ne nb, upd_ne nd]
    exact h
abbrev sBroken : Stmt := inClass (topOf "Broken") 0
theorem scBroken : FnScope ["self", "rule", "at"] ["self", "rule", "at"] (defScope sBroken) := ⟨rfl, rfl, rfl, by decide +kernel, rfl, by decide +kernel, by decide +kernel⟩
theorem iniBroken {P : Program} {w : World} {K : PySem.W.Frag} {mg : Str → Option Value} {base : Heap} {B newId : String} {tl : List Value} {C f : Addr} {fd : FuncData} (SF : StoreFacts B tl "object.__setattr__" "object") (D : XC K mg "Broken" "Broken.__init__" newId tl sBroken ["rule", "at"] C f fd) : FnOk P w K mg base CX0 1 f fd ["self", "rule", "at"] (spIni C ["rule", "at"] "Broken") := by
  refine D.F.ok scBroken (fun vs H Q E h => ?_) (fun cdv A outer s H vs Q E hr h => ?_)
  · obtain ⟨a, xs, rfl, hl, _⟩ := h
    show xs.length + 1 = _
    rw [hl]
    rfl
  · obtain ⟨a, xs, rfl, hl, ha, k⟩ := h
    obtain ⟨x, y, rfl⟩ : ∃ x y, xs = [x, y] := by
      match xs, hl with
      | [x, y], _ => exact ⟨x, y, rfl⟩
    refine ⟨_, pss_cons (ps_stx (C := C) SF D.T D.no (pv 0) (pv 1)) (pss_cons (ps_stx (C := C) SF D.T D.no (pv 0) (pv 2)) (pss_one (ps_stx (C := C) SF D.T D.no (pv 0) pe_str))), ?_⟩
    refine ⟨_, rfl, _, rfl, a, rfl, .inl ⟨ha, fun dx h1 h2 => ?_⟩⟩
    refine ⟨_, rfl, _, rfl, a, rfl, .inr ⟨dx, _, upd_same, by rw [upd_ne h2]; exact upd_same, by simp, ?_⟩⟩
    refine ⟨_, rfl, a, rfl, .inr ⟨dx, _, by rw [upd_ne h2.symm]; exact upd_same, upd_same, by simp, ?_⟩⟩
    refine k dx _ h1 h2 (by rw [upd_ne h2.symm]; rw [upd_ne h2.symm]; exact upd_same) upd_same fun b o nb h => ?_
    have nd : b ≠ dx := ne_of_none h h1
    rw [upd_ne nd, upd_ne nd, upd_ne nb, upd_ne nd]
    exact h
abbrev sClash : Stmt := inClass (topOf "Clash") 0
theorem scClash : FnScope ["self", "cell", "other"] ["self", "cell", "other"] (defScope sClash) := ⟨rfl, rfl, rfl, by decide +kernel, rfl, by decide +kernel, by decide +kernel⟩
theorem iniClash {P : Program} {w : World} {K : PySem.W.Frag} {mg : Str → Option Value} {base : Heap} {B newId : String} {tl : List Value} {C f : Addr} {fd : FuncData} (SF : StoreFacts B tl "object.__setattr__" "object") (D : XC K mg "Clash" "Clash.__init__" newId tl sClash ["cell", "other"] C f fd) : FnOk P w K mg base CX0 1 f fd ["self", "cell", "other"] (spIni C ["cell", "other"] "Clash") := by
  refine D.F.ok scClash (fun vs H Q E h => ?_) (fun cdv A outer s H vs Q E hr h => ?_)
  · obtain ⟨a, xs, rfl, hl, _⟩ := h
    show xs.length + 1 = _
    rw [hl]
    rfl
  · obtain ⟨a, xs, rfl, hl, ha, k⟩ := h
    obtain ⟨x, y, rfl⟩ : ∃ x y, xs = [x, y] := by
      match xs, hl with
      | [x, y], _ => exact ⟨x, y, rfl⟩
    refine ⟨_, pss_cons (ps_stx (C := C) SF D.T D.no (pv 0) (pv 1)) (pss_cons (ps_stx (C := C) SF D.T D.no (pv 0) (pv 2)) (pss_one (ps_stx (C := C) SF D.T D.no (pv 0) pe_str))), ?_⟩
    refine ⟨_, rfl, _, rfl, a, rfl, .inl ⟨ha, fun dx h1 h2 => ?_⟩⟩
    refine ⟨_, rfl, _, rfl, a, rfl, .inr ⟨dx, _, upd_same, by rw [upd_ne h2]; exact upd_same, by simp, ?_⟩⟩
    refine ⟨_, rfl, a, rfl, .inr ⟨dx, _, by rw [upd_ne h2.symm]; exact upd_same, upd_same, by simp, ?_⟩⟩
    refine k dx _ h1 h2 (by rw [upd_ne h2.symm]; rw [upd_ne h2.symm]; exact upd_same) upd_same fun b o nb h => ?_
    have nd : b ≠ dx := ne_of_none h h1
    rw [upd_ne nd, upd_ne nd, upd_ne nb, upd_ne nd]
    exact h
abbrev sEven : Stmt := inClass (topOf "Even") 0
theorem scEven : FnScope ["self", "low", "high"] ["self", "low", "high"] (defScope sEven) := ⟨rfl, rfl, rfl, by decide +kernel, rfl, by decide +kernel, by decide +kernel⟩
theorem iniEven {P : Program} {w : World} {K : PySem.W.Frag} {mg : Str → Option Value} {base : Heap} {B newId : String} {tl : List Value} {C f : Addr} {fd : FuncData} (SF : StoreFacts B tl "object.__setattr__" "object") (D : XC K mg "Even" "Even.__init__" newId tl sEven ["low", "high"] C f fd) : FnOk P w K mg base CX0 1 f fd ["self", "low", "high"] (spIni C ["low", "high"] "Even") := by
  refine D.F.ok scEven (fun vs H Q E h => ?_) (fun cdv A outer s H vs Q E hr h => ?_)
  · obtain ⟨a, xs, rfl, hl, _⟩ := h
    show xs.length + 1 = _
    rw [hl]
    rfl
  · obtain ⟨a, xs, rfl, hl, ha, k⟩ := h
    obtain ⟨x, y, rfl⟩ : ∃ x y, xs = [x, y] := by
      match xs, hl with
      | [x, y], _ => exact ⟨x, y, rfl⟩
    refine ⟨_, pss_cons (ps_stx (C := C) SF D.T D.no (pv 0) (pv 1)) (pss_cons (ps_stx (C := C) SF D.T D.no (pv 0) (pv 2)) (pss_one (ps_stx (C := C) SF D.T D.no (pv 0) pe_str))), ?_⟩
    refine ⟨_, rfl, _, rfl, a, rfl, .inl ⟨ha, fun dx h1 h2 => ?_⟩⟩
    refine ⟨_, rfl, _, rfl, a, rfl, .inr ⟨dx, _, upd_same, by rw [upd_ne h2]; exact upd_same, by simp, ?_⟩⟩
    refine ⟨_, rfl, a, rfl, .inr ⟨dx, _, by rw [upd_ne h2.symm]; exact upd_same, upd_same, by simp, ?_⟩⟩
    refine k dx _ h1 h2 (by rw [upd_ne h2.symm]; rw [upd_ne h2.symm]; exact upd_same) upd_same fun b o nb h => ?_
    have nd : b ≠ dx := ne_of_none h h1
    rw [upd_ne nd, upd_ne nd, upd_ne nb, upd_ne nd]
    exact h
abbrev sUnlike : Stmt := inClass (topOf "Unlike") 0
theorem scUnlike : FnScope ["self", "what"] ["self", "what"] (defScope sUnlike) := ⟨rfl, rfl, rfl, by decide +kernel, rfl, by decide +kernel, by decide +kernel⟩
theorem iniUnlike {P : Program} {w : World} {K : PySem.W.Frag} {mg : Str → Option Value} {base : Heap} {B newId : String} {tl : List Value} {C f : Addr} {fd : FuncData} (SF : StoreFacts B tl "object.__setattr__" "object") (D : XC K mg "Unlike" "Unlike.__init__" newId tl sUnlike ["what"] C f fd) : FnOk P w K mg base CX0 1 f fd ["self", "what"] (spIni C ["what"] "Unlike") := by
  refine D.F.ok scUnlike (fun vs H Q E h => ?_) (fun cdv A outer s H vs Q E hr h => ?_)
  · obtain ⟨a, xs, rfl, hl, _⟩ := h
    show xs.length + 1 = _
    rw [hl]
    rfl
  · obtain ⟨a, xs, rfl, hl, ha, k⟩ := h
    obtain ⟨x, rfl⟩ : ∃ x, xs = [x] := by
      match xs, hl with
      | [x], _ => exact ⟨x, rfl⟩
    refine ⟨_, pss_cons (ps_stx (C := C) SF D.T D.no (pv 0) (pv 1)) (pss_one (ps_stx (C := C) SF D.T D.no (pv 0) pe_str)), ?_⟩
    refine ⟨_, rfl, _, rfl, a, rfl, .inl ⟨ha, fun dx h1 h2 => ?_⟩⟩
    refine ⟨_, rfl, a, rfl, .inr ⟨dx, _, upd_same, by rw [upd_ne h2]; exact upd_same, by simp, ?_⟩⟩
    refine k dx _ h1 h2 (by rw [upd_ne h2.symm]; exact upd_same) upd_same fun b o nb h => ?_
    have nd : b ≠ dx := ne_of_none h h1
    rw [upd_ne nd, upd_ne nb, upd_ne nd]
    exact h
abbrev sTooMany : Stmt := inClass (topOf "TooMany") 0
theorem scTooMany : FnScope ["self", "what", "count"] ["self", "what", "count"] (defScope sTooMany) := ⟨rfl, rfl, rfl, by decide +kernel, rfl, by decide +kernel, by decide +kernel⟩
theorem iniTooMany {P : Program} {w : World} {K : PySem.W.Frag} {mg : Str → Option Value} {base : Heap} {B newId : String} {tl : List Value} {C f : Addr} {fd : FuncData} (SF : StoreFacts B tl "object.__setattr__" "object") (D : XC K mg "TooMany" "TooMany.__init__" newId tl sTooMany ["what", "count"] C f fd) : FnOk P w K mg base CX0 1 f fd ["self", "what", "count"] (spIni C ["what", "count"] "TooMany") := by
  refine D.F.ok scTooMany (fun vs H Q E h => ?_) (fun cdv A outer s H vs Q E hr h => ?_)
  · obtain ⟨a, xs, rfl, hl, _⟩ := h
    show xs.length + 1 = _
    rw [hl]
    rfl
  · obtain ⟨a, xs, rfl, hl, ha, k⟩ := h
    obtain ⟨x, y, rfl⟩ : ∃ x y, xs = [x, y] := by
      match xs, hl with
      | [x, y], _ => exact ⟨x, y, rfl⟩
    refine ⟨_, pss_cons (ps_stx (C := C) SF D.T D.no (pv 0) (pv 1)) (pss_cons (ps_stx (C := C) SF D.T D.no (pv 0) (pv 2)) (pss_one (ps_stx (C := C) SF D.T D.no (pv 0) pe_str))), ?_⟩
    refine ⟨_, rfl, _, rfl, a, rfl, .inl ⟨ha, fun dx h1 h2 => ?_⟩⟩
    refine ⟨_, rfl, _, rfl, a, rfl, .inr ⟨dx, _, upd_same, by rw [upd_ne h2]; exact upd_same, by simp, ?_⟩⟩
    refine ⟨_, rfl, a, rfl, .inr ⟨dx, _, by rw [upd_ne h2.symm]; exact upd_same, upd_same, by simp, ?_⟩⟩
    refine k dx _ h1 h2 (by rw [upd_ne h2.symm]; rw [upd_ne h2.symm]; exact upd_same) upd_same fun b o nb h => ?_
    have nd : b ≠ dx := ne_of_none h h1
    rw [upd_ne nd, upd_ne nd, upd_ne nb, upd_ne nd]
    exact h
abbrev sNoSuch : Stmt := inClass (topOf "NoSuch") 0
theorem scNoSuch : FnScope ["self", "value"] ["self", "value"] (defScope sNoSuch) := ⟨rfl, rfl, rfl, by decide +kernel, rfl, by decide +kernel, by decide +kernel⟩
theorem iniNoSuch {P : Program} {w : World} {K : PySem.W.Frag} {mg : Str → Option Value} {base : Heap} {B newId : String} {tl : List Value} {C f : Addr} {fd : FuncData} (SF : StoreFacts B tl "object.__setattr__" "object") (D : XC K mg "NoSuch" "NoSuch.__init__" newId tl sNoSuch ["value"] C f fd) : FnOk P w K mg base CX0 1 f fd ["self", "value"] (spIni C ["value"] "NoSuch") := by
  refine D.F.ok scNoSuch (fun vs H Q E h => ?_) (fun cdv A outer s H vs Q E hr h => ?_)
  · obtain ⟨a, xs, rfl, hl, _⟩ := h
    show xs.length + 1 = _
    rw [hl]
    rfl
  · obtain ⟨a, xs, rfl, hl, ha, k⟩ := h
    obtain ⟨x, rfl⟩ : ∃ x, xs = [x] := by
      match xs, hl with
      | [x], _ => exact ⟨x, rfl⟩
    refine ⟨_, pss_cons (ps_stx (C := C) SF D.T D.no (pv 0) (pv 1)) (pss_one (ps_stx (C := C) SF D.T D.no (pv 0) pe_str)), ?_⟩
    refine ⟨_, rfl, _, rfl, a, rfl, .inl ⟨ha, fun dx h1 h2 => ?_⟩⟩
    refine ⟨_, rfl, a, rfl, .inr ⟨dx, _, upd_same, by rw [upd_ne h2]; exact upd_same, by simp, ?_⟩⟩
    refine k dx _ h1 h2 (by rw [upd_ne h2.symm]; exact upd_same) upd_same fun b o nb h => ?_
    have nd : b ≠ dx := ne_of_none h h1
    rw [upd_ne nd, upd_ne nb, upd_ne nd]
    exact h
abbrev sEnded : Stmt := inClass (topOf "Ended") 0
theorem scEnded : FnScope ["self", "what"] ["self", "what"] (defScope sEnded) := ⟨rfl, rfl, rfl, by decide +kernel, rfl, by decide +kernel, by decide +kernel⟩
theorem iniEnded {P : Program} {w : World} {K : PySem.W.Frag} {mg : Str → Option Value} {base : Heap} {B newId : String} {tl : List Value} {C f : Addr} {fd : FuncData} (SF : StoreFacts B tl "object.__setattr__" "object") (D : XC K mg "Ended" "Ended.__init__" newId tl sEnded ["what"] C f fd) : FnOk P w K mg base CX0 1 f fd ["self", "what"] (spIni C ["what"] "Ended") := by
  refine D.F.ok scEnded (fun vs H Q E h => ?_) (fun cdv A outer s H vs Q E hr h => ?_)
  · obtain ⟨a, xs, rfl, hl, _⟩ := h
    show xs.length + 1 = _
    rw [hl]
    rfl
  · obtain ⟨a, xs, rfl, hl, ha, k⟩ := h
    obtain ⟨x, rfl⟩ : ∃ x, xs = [x] := by
      match xs, hl with
      | [x], _ => exact ⟨x, rfl⟩
    refine ⟨_, pss_cons (ps_stx (C := C) SF D.T D.no (pv 0) (pv 1)) (pss_one (ps_stx (C := C) SF D.T D.no (pv 0) pe_str)), ?_⟩
    refine ⟨_, rfl, _, rfl, a, rfl, .inl ⟨ha, fun dx h1 h2 => ?_⟩⟩
    refine ⟨_, rfl, a, rfl, .inr ⟨dx, _, upd_same, by rw [upd_ne h2]; exact upd_same, by simp, ?_⟩⟩
    refine k dx _ h1 h2 (by rw [upd_ne h2.symm]; exact upd_same) upd_same fun b o nb h => ?_
    have nd : b ≠ dx := ne_of_none h h1
    rw [upd_ne nd, upd_ne nb, upd_ne nd]
    exact h
end Lw
namespace Lw
open PySem PySem.Spec PyProof.Rows L2 XV
abbrev tlV : List Value := [.type "ValueError", .type "Exception", .type "BaseException", .type "object"]
abbrev tlL : List Value := [.type "LookupError", .type "Exception", .type "BaseException", .type "object"]
abbrev tlR : List Value := [.type "RuntimeError", .type "Exception", .type "BaseException", .type "object"]
/-- where the own exception classes stand, and their __init__ -/
structure CA where
  C : Nat → Addr
  f : Nat → Addr
  fd : Nat → FuncData
def nsOf : Nat → List Str
  | 0 => ["what", "line", "why"]
  | 1 => ["what"]
  | 2 => ["rule", "at"]
  | 3 => ["cell", "other"]
  | 4 => ["low", "high"]
  | 5 => ["what"]
  | 6 => ["what", "count"]
  | 7 => ["value"]
  | _ => ["what"]
def cdOf : Nat → Str
  | 0 => "BadText"
  | 1 => "BadValue"
  | 2 => "Broken"
  | 3 => "Clash"
  | 4 => "Even"
  | 5 => "Unlike"
  | 6 => "TooMany"
  | 7 => "NoSuch"
  | _ => "Ended"
def arOf (x y z : V) : Nat → List V
  | 0 => [x, y, z]
  | 1 => [x]
  | 2 => [x, y]
  | 3 => [x, y]
  | 4 => [x, y]
  | 5 => [x]
  | 6 => [x, y]
  | 7 => [x]
  | _ => [x]
def idOf : Nat → String
  | 0 => "ValueError.__new__"
  | 1 => "ValueError.__new__"
  | 2 => "ValueError.__new__"
  | 3 => "ValueError.__new__"
  | 4 => "ValueError.__new__"
  | 5 => "ValueError.__new__"
  | 6 => "ValueError.__new__"
  | 7 => "LookupError.__new__"
  | _ => "RuntimeError.__new__"
def tlOf : Nat → List Value
  | 0 => tlV
  | 1 => tlV
  | 2 => tlV
  | 3 => tlV
  | 4 => tlV
  | 5 => tlV
  | 6 => tlV
  | 7 => tlL
  | _ => tlR
structure Xs (K : PySem.W.Frag) (mg : Str → Option Value) (c : CA) : Prop where
  d0 : XC K mg "BadText" "BadText.__init__" "ValueError.__new__" tlV sBadText ["what", "line", "why"] (c.C 0) (c.f 0) (c.fd 0)
  d1 : XC K mg "BadValue" "BadValue.__init__" "ValueError.__new__" tlV sBadValue ["what"] (c.C 1) (c.f 1) (c.fd 1)
  d2 : XC K mg "Broken" "Broken.__init__" "ValueError.__new__" tlV sBroken ["rule", "at"] (c.C 2) (c.f 2) (c.fd 2)
  d3 : XC K mg "Clash" "Clash.__init__" "ValueError.__new__" tlV sClash ["cell", "other"] (c.C 3) (c.f 3) (c.fd 3)
  d4 : XC K mg "Even" "Even.__init__" "ValueError.__new__" tlV sEven ["low", "high"] (c.C 4) (c.f 4) (c.fd 4)
  d5 : XC K mg "Unlike" "Unlike.__init__" "ValueError.__new__" tlV sUnlike ["what"] (c.C 5) (c.f 5) (c.fd 5)
  d6 : XC K mg "TooMany" "TooMany.__init__" "ValueError.__new__" tlV sTooMany ["what", "count"] (c.C 6) (c.f 6) (c.fd 6)
  d7 : XC K mg "NoSuch" "NoSuch.__init__" "LookupError.__new__" tlL sNoSuch ["value"] (c.C 7) (c.f 7) (c.fd 7)
  d8 : XC K mg "Ended" "Ended.__init__" "RuntimeError.__new__" tlR sEnded ["what"] (c.C 8) (c.f 8) (c.fd 8)
/-- the attributes of the exception of kind i, made from x, y, z -/
def fOf (x y z : V) (i : Nat) : List (Str × V) := flds (nsOf i) (cdOf i) (arOf x y z i)
theorem exat {H2 : Hp} {a C d t0 : Addr} {fs : List (Str × V)} (hda : d ≠ a) (e1 : H2 a = some (pinO a (newX C d t0))) (e2 : H2 d = some (.xd fs)) : ExAt H2 a C fs := ⟨_, _, _, e1, rfl, rfl, rfl, hda, e2⟩
theorem sN {H H1 : Hp} (s : Same H H1) {a : Addr} (h : H1 a = Option.none) : H a = Option.none := by
  cases e : H a with
  | none => rfl
  | some o => rw [s a o e] at h; cases h
/-- the facts behind a creation -/
structure MadeF (C : Addr) (fs : List (Str × V)) (H1 H3 : Hp) (a d t0 : Addr) : Prop where
  na : H1 a = none
  nd : H1 d = none
  da : d ≠ a
  pa : H3 a = some (pinO a (newX C d t0))
  pd : H3 d = some (.xd fs)
  sm : Same H1 H3
theorem mk_ini {C : Addr} {ns : List Str} {code : Str} {vs : List V} {H1 : Hp} {a : Addr} {Qi : VK} {E : XK} (hl : vs.length = ns.length) (ha : H1 a = none)
    (k : ∀ (d : Addr) (H2 : Hp), H2 a = some (exo a C (some d)) → H2 d = some (exd d (flds ns code vs)) → d ≠ a → (∀ t0, MadeF C (flds ns code vs) H1 (upd (upd H2 a (pinO a (newX C d t0))) d (.xd (flds ns code vs))) a d t0) → Qi .non H2) :
    spIni C ns code (.ref a :: vs) (upd H1 a (exo a C none)) Qi E := by
  refine ⟨a, vs, rfl, hl, upd_same, fun d H2 hd hda e1 e2 sm => k d H2 e1 e2 hda fun t0 => ?_⟩
  have hd0 : H1 d = none := by
    rw [upd_ne hda] at hd
    exact hd
  refine ⟨ha, hd0, hda, by rw [upd_ne hda.symm, upd_same], upd_same, fun b o h => ?_⟩
  have nb : b ≠ a := ne_of_none h ha
  rw [upd_ne (ne_of_none h hd0), upd_ne nb]
  exact sm b o nb (by rw [upd_ne nb]; exact h)
def two {α : Type} : List α → List α
  | [x, y] => [y, x]
  | l => l
def rot {α : Type} : List α → List α
  | [x, y, z] => [y, z, x]
  | l => l
theorem vals_two {vs : List V} {zs : List Value} (r : Vals vs zs) : Vals (two vs) (two zs) := by
  match vs, zs, r with
  | [], _, .nil => exact .nil
  | [_], _, .cons a .nil => exact .cons a .nil
  | [_, _], _, .cons a (.cons b .nil) => exact .cons b (.cons a .nil)
  | _ :: _ :: _ :: _, _, .cons a (.cons b (.cons c r)) => exact .cons a (.cons b (.cons c r))
theorem vals_rot {vs : List V} {zs : List Value} (r : Vals vs zs) : Vals (rot vs) (rot zs) := by
  match vs, zs, r with
  | [], _, .nil => exact .nil
  | [_], _, .cons a .nil => exact .cons a .nil
  | [_, _], _, .cons a (.cons b .nil) => exact .cons a (.cons b .nil)
  | [_, _, _], _, .cons a (.cons b (.cons c .nil)) => exact .cons b (.cons c (.cons a .nil))
  | _ :: _ :: _ :: _ :: _, _, .cons a (.cons b (.cons c (.cons d r))) => exact .cons a (.cons b (.cons c (.cons d r)))
theorem kw_of {K : PySem.W.Frag} {x qn : Str} {st : Stmt} {f : Addr} {fd : FuncData} {ps ks : List Str} {gU : List Value → List Value} {gV : List V → List V} (F : Fun K x qn st f fd)
    (h : ∀ (kV doc pm : Value) (an : Option Addr) (cdv ct : Value) (y : Value) (zs : List Value), zs.length = ks.length → bindArgs (PySem.W.fnOf x qn (defArgs st) (defBody st) (defScope st) .none kV doc pm an cdv ct) ⟨[y], ks.zip zs⟩ = pure (ps.zip (y :: gU zs)))
    (r : ∀ {vs : List V} {zs : List Value}, Vals vs zs → Vals (gV vs) (gU zs)) : KwB K fd ps ks gU gV := by
  obtain ⟨oc, od, kV, doc, pm, an, cdv, ct, osl, rfl, lk, hcd⟩ := F.ex
  exact ⟨fun s y zs _ hl => .of_eq (h kV doc pm an cdv ct y zs hl), fun v _ => r v⟩
theorem kwBadText {K : PySem.W.Frag} {mg : Str → Option Value} {c : CA} (D : Xs K mg c) : KwB K (c.fd 0) ("self" :: ["what", "line", "why"]) ["what", "line", "why"] id id :=
  kw_of D.d0.F (fun _ _ _ _ _ _ _ zs hl => match zs, hl with | [_, _, _], _ => rfl) fun r => id r
theorem kwBadTextr {K : PySem.W.Frag} {mg : Str → Option Value} {c : CA} (D : Xs K mg c) : KwB K (c.fd 0) ("self" :: ["what", "line", "why"]) ["why", "what", "line"] rot rot :=
  kw_of D.d0.F (fun _ _ _ _ _ _ _ zs hl => match zs, hl with | [_, _, _], _ => rfl) fun r => vals_rot r
theorem kwBadValue {K : PySem.W.Frag} {mg : Str → Option Value} {c : CA} (D : Xs K mg c) : KwB K (c.fd 1) ("self" :: ["what"]) ["what"] id id :=
  kw_of D.d1.F (fun _ _ _ _ _ _ _ zs hl => match zs, hl with | [_], _ => rfl) fun r => id r
theorem kwBroken {K : PySem.W.Frag} {mg : Str → Option Value} {c : CA} (D : Xs K mg c) : KwB K (c.fd 2) ("self" :: ["rule", "at"]) ["rule", "at"] id id :=
  kw_of D.d2.F (fun _ _ _ _ _ _ _ zs hl => match zs, hl with | [_, _], _ => rfl) fun r => id r
theorem kwBrokenr {K : PySem.W.Frag} {mg : Str → Option Value} {c : CA} (D : Xs K mg c) : KwB K (c.fd 2) ("self" :: ["rule", "at"]) ["at", "rule"] two two :=
  kw_of D.d2.F (fun _ _ _ _ _ _ _ zs hl => match zs, hl with | [_, _], _ => rfl) fun r => vals_two r
theorem kwClash {K : PySem.W.Frag} {mg : Str → Option Value} {c : CA} (D : Xs K mg c) : KwB K (c.fd 3) ("self" :: ["cell", "other"]) ["other", "cell"] two two :=
  kw_of D.d3.F (fun _ _ _ _ _ _ _ zs hl => match zs, hl with | [_, _], _ => rfl) fun r => vals_two r
theorem kwEven {K : PySem.W.Frag} {mg : Str → Option Value} {c : CA} (D : Xs K mg c) : KwB K (c.fd 4) ("self" :: ["low", "high"]) ["high", "low"] two two :=
  kw_of D.d4.F (fun _ _ _ _ _ _ _ zs hl => match zs, hl with | [_, _], _ => rfl) fun r => vals_two r
theorem kwUnlike {K : PySem.W.Frag} {mg : Str → Option Value} {c : CA} (D : Xs K mg c) : KwB K (c.fd 5) ("self" :: ["what"]) ["what"] id id :=
  kw_of D.d5.F (fun _ _ _ _ _ _ _ zs hl => match zs, hl with | [_], _ => rfl) fun r => id r
theorem kwTooMany {K : PySem.W.Frag} {mg : Str → Option Value} {c : CA} (D : Xs K mg c) : KwB K (c.fd 6) ("self" :: ["what", "count"]) ["count", "what"] two two :=
  kw_of D.d6.F (fun _ _ _ _ _ _ _ zs hl => match zs, hl with | [_, _], _ => rfl) fun r => vals_two r
theorem kwNoSuch {K : PySem.W.Frag} {mg : Str → Option Value} {c : CA} (D : Xs K mg c) : KwB K (c.fd 7) ("self" :: ["value"]) ["value"] id id :=
  kw_of D.d7.F (fun _ _ _ _ _ _ _ zs hl => match zs, hl with | [_], _ => rfl) fun r => id r
theorem kwEnded {K : PySem.W.Frag} {mg : Str → Option Value} {c : CA} (D : Xs K mg c) : KwB K (c.fd 8) ("self" :: ["what"]) ["what"] id id :=
  kw_of D.d8.F (fun _ _ _ _ _ _ _ zs hl => match zs, hl with | [_], _ => rfl) fun r => id r
def spMade (c : CA) : Sp := fun vs H Q _ => ∃ (i : Nat) (w : Int) (x y z : V), vs = [.int i, .int w, x, y, z] ∧ i < 9 ∧ ∀ (a : Addr) (H' : Hp), H a = none → Same H H' → ExAt (dif H H') a (c.C i) (fOf x y z i) → Q (.ref a) H'
abbrev sMade : Stmt := topOf "_law_made"
abbrev Nmade : List Str := ["pick", "way", "one", "two", "three", "made"]
theorem scMade : FnScope Nmade ["pick", "way", "one", "two", "three"] (defScope sMade) := ⟨rfl, rfl, rfl, by decide +kernel, rfl, by decide +kernel, by decide +kernel⟩
section
variable {P : Program} {w : World} {K : PySem.W.Frag} {mg : Str → Option Value} {base : Heap}
theorem ok_made {f : Addr} {fd : FuncData} {c : CA} (F : Fun K "_law_made" "_law_made" sMade f fd) (D : Xs K mg c) : FnOk P w K mg base CX0 3 f fd ["pick", "way", "one", "two", "three"] (spMade c) := by
  have G0 : FnOk P w K mg base CX0 1 (c.f 0) (c.fd 0) ("self" :: ["what", "line", "why"]) (spIni (c.C 0) ["what", "line", "why"] "BadText") := iniBadText (base := base) PySem.F.store_ValueError D.d0
  have G1 : FnOk P w K mg base CX0 1 (c.f 1) (c.fd 1) ("self" :: ["what"]) (spIni (c.C 1) ["what"] "BadValue") := iniBadValue (base := base) PySem.F.store_ValueError D.d1
  have G2 : FnOk P w K mg base CX0 1 (c.f 2) (c.fd 2) ("self" :: ["rule", "at"]) (spIni (c.C 2) ["rule", "at"] "Broken") := iniBroken (base := base) PySem.F.store_ValueError D.d2
  have G3 : FnOk P w K mg base CX0 1 (c.f 3) (c.fd 3) ("self" :: ["cell", "other"]) (spIni (c.C 3) ["cell", "other"] "Clash") := iniClash (base := base) PySem.F.store_ValueError D.d3
  have G4 : FnOk P w K mg base CX0 1 (c.f 4) (c.fd 4) ("self" :: ["low", "high"]) (spIni (c.C 4) ["low", "high"] "Even") := iniEven (base := base) PySem.F.store_ValueError D.d4
  have G5 : FnOk P w K mg base CX0 1 (c.f 5) (c.fd 5) ("self" :: ["what"]) (spIni (c.C 5) ["what"] "Unlike") := iniUnlike (base := base) PySem.F.store_ValueError D.d5
  have G6 : FnOk P w K mg base CX0 1 (c.f 6) (c.fd 6) ("self" :: ["what", "count"]) (spIni (c.C 6) ["what", "count"] "TooMany") := iniTooMany (base := base) PySem.F.store_ValueError D.d6
  have G7 : FnOk P w K mg base CX0 1 (c.f 7) (c.fd 7) ("self" :: ["value"]) (spIni (c.C 7) ["value"] "NoSuch") := iniNoSuch (base := base) PySem.F.store_LookupError D.d7
  have G8 : FnOk P w K mg base CX0 1 (c.f 8) (c.fd 8) ("self" :: ["what"]) (spIni (c.C 8) ["what"] "Ended") := iniEnded (base := base) PySem.F.store_RuntimeError D.d8
  refine F.ok scMade (fun vs H Q E h => ?_) (fun cdv A outer s H vs Q E hr h => ?_)
  · obtain ⟨i, w, x, y, z, rfl, _⟩ := h
    rfl
  · obtain ⟨i, w, x, y, z, rfl, hi, k⟩ := h
    refine ⟨_, pss_cons (ps_if (pt_cmpR op_eq (pv 0) pe_int (nomark _))
 (pss_cons (ps_set (i := 5) scMade.nd rfl (Or.inl rfl) (pe_mkx PySem.F.excBase_ValueError D.d0.T D.d0.iC D.d0.tI G0 (hr.mono (by decide)) D.d0.bd pass0 rfl D.d0.g (pa_cons (pv 2) (pa_cons (pv 3) (pa_cons (pv 4) pa_nil)))))
 (pss_cons (ps_if (pt_cmpR op_eq (pv 1) pe_int (nomark _)) (pss_one (ps_set (i := 5) scMade.nd rfl (Or.inl rfl) (pe_mkxK PySem.F.excBase_ValueError D.d0.T D.d0.iC D.d0.tI G0 (hr.mono (by decide)) (kwBadText D) pass0 rfl D.d0.g (pk_cons (pv 2) (pk_cons (pv 3) (pk_cons (pv 4) pk_nil)))))) pss_nil)
 (pss_cons (ps_if (pt_cmpR op_eq (pv 1) pe_int (nomark _)) (pss_one (ps_set (i := 5) scMade.nd rfl (Or.inl rfl) (pe_mkxK PySem.F.excBase_ValueError D.d0.T D.d0.iC D.d0.tI G0 (hr.mono (by decide)) (kwBadTextr D) pass0 rfl D.d0.g (pk_cons (pv 4) (pk_cons (pv 2) (pk_cons (pv 3) pk_nil)))))) pss_nil)
 (pss_one (ps_ret (pv 5))))))
 pss_nil)
 (pss_cons (ps_if (pt_cmpR op_eq (pv 0) pe_int (nomark _))
 (pss_one (ps_ret (pe_ifExp (pt_cmpR op_eq (pv 1) pe_int (nomark _)) (pe_mkx PySem.F.excBase_ValueError D.d1.T D.d1.iC D.d1.tI G1 (hr.mono (by decide)) D.d1.bd pass0 rfl D.d1.g (pa_cons (pv 2) pa_nil)) (pe_mkxK PySem.F.excBase_ValueError D.d1.T D.d1.iC D.d1.tI G1 (hr.mono (by decide)) (kwBadValue D) pass0 rfl D.d1.g (pk_cons (pv 2) pk_nil)))))
 pss_nil)
 (pss_cons (ps_if (pt_cmpR op_eq (pv 0) pe_int (nomark _))
 (pss_cons (ps_set (i := 5) scMade.nd rfl (Or.inl rfl) (pe_mkx PySem.F.excBase_ValueError D.d2.T D.d2.iC D.d2.tI G2 (hr.mono (by decide)) D.d2.bd pass0 rfl D.d2.g (pa_cons (pv 2) (pa_cons (pv 3) pa_nil))))
 (pss_cons (ps_if (pt_cmpR op_eq (pv 1) pe_int (nomark _)) (pss_one (ps_set (i := 5) scMade.nd rfl (Or.inl rfl) (pe_mkxK PySem.F.excBase_ValueError D.d2.T D.d2.iC D.d2.tI G2 (hr.mono (by decide)) (kwBroken D) pass0 rfl D.d2.g (pk_cons (pv 2) (pk_cons (pv 3) pk_nil))))) pss_nil)
 (pss_cons (ps_if (pt_cmpR op_eq (pv 1) pe_int (nomark _)) (pss_one (ps_set (i := 5) scMade.nd rfl (Or.inl rfl) (pe_mkxK PySem.F.excBase_ValueError D.d2.T D.d2.iC D.d2.tI G2 (hr.mono (by decide)) (kwBrokenr D) pass0 rfl D.d2.g (pk_cons (pv 3) (pk_cons (pv 2) pk_nil))))) pss_nil)
 (pss_one (ps_ret (pv 5))))))
 pss_nil)
 (pss_cons (ps_if (pt_cmpR op_eq (pv 0) pe_int (nomark _))
 (pss_one (ps_ret (pe_ifExp (pt_cmpR op_eq (pv 1) pe_int (nomark _)) (pe_mkx PySem.F.excBase_ValueError D.d3.T D.d3.iC D.d3.tI G3 (hr.mono (by decide)) D.d3.bd pass0 rfl D.d3.g (pa_cons (pv 2) (pa_cons (pv 3) pa_nil))) (pe_mkxK PySem.F.excBase_ValueError D.d3.T D.d3.iC D.d3.tI G3 (hr.mono (by decide)) (kwClash D) pass0 rfl D.d3.g (pk_cons (pv 3) (pk_cons (pv 2) pk_nil))))))
 pss_nil)
 (pss_cons (ps_if (pt_cmpR op_eq (pv 0) pe_int (nomark _))
 (pss_one (ps_ret (pe_ifExp (pt_cmpR op_eq (pv 1) pe_int (nomark _)) (pe_mkx PySem.F.excBase_ValueError D.d4.T D.d4.iC D.d4.tI G4 (hr.mono (by decide)) D.d4.bd pass0 rfl D.d4.g (pa_cons (pv 2) (pa_cons (pv 3) pa_nil))) (pe_mkxK PySem.F.excBase_ValueError D.d4.T D.d4.iC D.d4.tI G4 (hr.mono (by decide)) (kwEven D) pass0 rfl D.d4.g (pk_cons (pv 3) (pk_cons (pv 2) pk_nil))))))
 pss_nil)
 (pss_cons (ps_if (pt_cmpR op_eq (pv 0) pe_int (nomark _))
 (pss_one (ps_ret (pe_ifExp (pt_cmpR op_eq (pv 1) pe_int (nomark _)) (pe_mkx PySem.F.excBase_ValueError D.d5.T D.d5.iC D.d5.tI G5 (hr.mono (by decide)) D.d5.bd pass0 rfl D.d5.g (pa_cons (pv 2) pa_nil)) (pe_mkxK PySem.F.excBase_ValueError D.d5.T D.d5.iC D.d5.tI G5 (hr.mono (by decide)) (kwUnlike D) pass0 rfl D.d5.g (pk_cons (pv 2) pk_nil)))))
 pss_nil)
 (pss_cons (ps_if (pt_cmpR op_eq (pv 0) pe_int (nomark _))
 (pss_one (ps_ret (pe_ifExp (pt_cmpR op_eq (pv 1) pe_int (nomark _)) (pe_mkx PySem.F.excBase_ValueError D.d6.T D.d6.iC D.d6.tI G6 (hr.mono (by decide)) D.d6.bd pass0 rfl D.d6.g (pa_cons (pv 2) (pa_cons (pv 3) pa_nil))) (pe_mkxK PySem.F.excBase_ValueError D.d6.T D.d6.iC D.d6.tI G6 (hr.mono (by decide)) (kwTooMany D) pass0 rfl D.d6.g (pk_cons (pv 3) (pk_cons (pv 2) pk_nil))))))
 pss_nil)
 (pss_cons (ps_if (pt_cmpR op_eq (pv 0) pe_int (nomark _))
 (pss_one (ps_ret (pe_ifExp (pt_cmpR op_eq (pv 1) pe_int (nomark _)) (pe_mkx PySem.F.excBase_LookupError D.d7.T D.d7.iC D.d7.tI G7 (hr.mono (by decide)) D.d7.bd pass0 rfl D.d7.g (pa_cons (pv 2) pa_nil)) (pe_mkxK PySem.F.excBase_LookupError D.d7.T D.d7.iC D.d7.tI G7 (hr.mono (by decide)) (kwNoSuch D) pass0 rfl D.d7.g (pk_cons (pv 2) pk_nil)))))
 pss_nil)
 (pss_one (ps_ret (pe_ifExp (pt_cmpR op_eq (pv 1) pe_int (nomark _)) (pe_mkx PySem.F.excBase_RuntimeError D.d8.T D.d8.iC D.d8.tI G8 (hr.mono (by decide)) D.d8.bd pass0 rfl D.d8.g (pa_cons (pv 2) pa_nil)) (pe_mkxK PySem.F.excBase_RuntimeError D.d8.T D.d8.iC D.d8.tI G8 (hr.mono (by decide)) (kwEnded D) pass0 rfl D.d8.g (pk_cons (pv 2) pk_nil)))))))))))), ?_⟩
    refine ⟨_, rfl, rfl, _, rfl, ite2 (fun e => ?_) (fun n0 => ?_)⟩
    · obtain rfl : i = 0 := by injection of_decide_eq_true e; omega
      refine ⟨_, rfl, _, rfl, _, rfl, (by show 3 ≤ 1000; decide), fun a1 ha1 => mk_ini (C := c.C 0) (ns := ["what", "line", "why"]) (code := "BadText") (vs := [x, y, z]) rfl ha1 fun d1 h1 e1 g1 hda1 mf1 => ⟨rfl, d1, _, e1, g1, hda1, fun u1 => ?_⟩⟩
      have m1 := mf1 u1
      generalize (upd (upd h1 a1 (pinO a1 (newX (c.C 0) d1 u1))) d1 (.xd (flds ["what", "line", "why"] "BadText" [x, y, z]))) = H1 at m1 ⊢
      refine ⟨_, rfl, rfl, _, rfl, ite2 (fun _ => ?_) (fun _ => ?_)⟩
      · refine ⟨_, rfl, _, rfl, _, rfl, rfl, (by show 3 ≤ 1000; decide), fun a2 ha2 => mk_ini (C := c.C 0) (ns := ["what", "line", "why"]) (code := "BadText") (vs := [x, y, z]) rfl ha2 fun d2 h2 e2 g2 hda2 mf2 => ⟨rfl, d2, _, e2, g2, hda2, fun u2 => ?_⟩⟩
        have m2 := mf2 u2
        generalize (upd (upd h2 a2 (pinO a2 (newX (c.C 0) d2 u2))) d2 (.xd (flds ["what", "line", "why"] "BadText" [x, y, z]))) = H2 at m2 ⊢
        refine ⟨_, rfl, rfl, _, rfl, ite2 (fun _ => ?_) (fun _ => ?_)⟩
        · refine ⟨_, rfl, _, rfl, _, rfl, rfl, (by show 3 ≤ 1000; decide), fun a3 ha3 => mk_ini (C := c.C 0) (ns := ["what", "line", "why"]) (code := "BadText") (vs := [x, y, z]) rfl ha3 fun d3 h3 e3 g3 hda3 mf3 => ⟨rfl, d3, _, e3, g3, hda3, fun u3 => ?_⟩⟩
          have m3 := mf3 u3
          generalize (upd (upd h3 a3 (pinO a3 (newX (c.C 0) d3 u3))) d3 (.xd (flds ["what", "line", "why"] "BadText" [x, y, z]))) = H3 at m3 ⊢
          exact ⟨_, rfl, k a3 H3 (sN m1.sm (sN m2.sm ha3)) (Same.trans m1.sm (Same.trans m2.sm m3.sm)) (exat hda3 (dif_of (sN m1.sm (sN m2.sm ha3)) m3.pa) (dif_of (sN m1.sm (sN m2.sm m3.nd)) m3.pd))⟩
        · exact ⟨_, rfl, k a2 H2 (sN m1.sm ha2) (Same.trans m1.sm m2.sm) (exat hda2 (dif_of (sN m1.sm ha2) m2.pa) (dif_of (sN m1.sm m2.nd) m2.pd))⟩
      · refine ⟨_, rfl, rfl, _, rfl, ite2 (fun _ => ?_) (fun _ => ?_)⟩
        · refine ⟨_, rfl, _, rfl, _, rfl, rfl, (by show 3 ≤ 1000; decide), fun a3 ha3 => mk_ini (C := c.C 0) (ns := ["what", "line", "why"]) (code := "BadText") (vs := [x, y, z]) rfl ha3 fun d3 h3 e3 g3 hda3 mf3 => ⟨rfl, d3, _, e3, g3, hda3, fun u3 => ?_⟩⟩
          have m3 := mf3 u3
          generalize (upd (upd h3 a3 (pinO a3 (newX (c.C 0) d3 u3))) d3 (.xd (flds ["what", "line", "why"] "BadText" [x, y, z]))) = H3 at m3 ⊢
          exact ⟨_, rfl, k a3 H3 (sN m1.sm ha3) (Same.trans m1.sm m3.sm) (exat hda3 (dif_of (sN m1.sm ha3) m3.pa) (dif_of (sN m1.sm m3.nd) m3.pd))⟩
        · exact ⟨_, rfl, k a1 H1 ha1 m1.sm (exat hda1 (dif_of ha1 m1.pa) (dif_of m1.nd m1.pd))⟩
    refine ⟨_, rfl, rfl, _, rfl, ite2 (fun e => ?_) (fun n1 => ?_)⟩
    · obtain rfl : i = 1 := by injection of_decide_eq_true e; omega
      refine ⟨_, rfl, rfl, _, rfl, ite2 (fun _ => ?_) (fun _ => ?_)⟩
      · exact ⟨_, rfl, mk_do (C := c.C 1) (ns := ["what"]) (code := "BadValue") (vs := [x]) rfl (by decide) fun a1 d1 u1 H1 ha1 hd1 hda1 p1 q1 sm1 => k a1 H1 ha1 sm1 (exat hda1 (dif_of ha1 p1) (dif_of hd1 q1))⟩
      · exact ⟨_, rfl, rfl, mk_do (C := c.C 1) (ns := ["what"]) (code := "BadValue") (vs := [x]) rfl (by decide) fun a1 d1 u1 H1 ha1 hd1 hda1 p1 q1 sm1 => k a1 H1 ha1 sm1 (exat hda1 (dif_of ha1 p1) (dif_of hd1 q1))⟩
    refine ⟨_, rfl, rfl, _, rfl, ite2 (fun e => ?_) (fun n2 => ?_)⟩
    · obtain rfl : i = 2 := by injection of_decide_eq_true e; omega
      refine ⟨_, rfl, _, rfl, (by show 2 ≤ 1000; decide), fun a1 ha1 => mk_ini (C := c.C 2) (ns := ["rule", "at"]) (code := "Broken") (vs := [x, y]) rfl ha1 fun d1 h1 e1 g1 hda1 mf1 => ⟨rfl, d1, _, e1, g1, hda1, fun u1 => ?_⟩⟩
      have m1 := mf1 u1
      generalize (upd (upd h1 a1 (pinO a1 (newX (c.C 2) d1 u1))) d1 (.xd (flds ["rule", "at"] "Broken" [x, y]))) = H1 at m1 ⊢
      refine ⟨_, rfl, rfl, _, rfl, ite2 (fun _ => ?_) (fun _ => ?_)⟩
      · refine ⟨_, rfl, _, rfl, rfl, (by show 2 ≤ 1000; decide), fun a2 ha2 => mk_ini (C := c.C 2) (ns := ["rule", "at"]) (code := "Broken") (vs := [x, y]) rfl ha2 fun d2 h2 e2 g2 hda2 mf2 => ⟨rfl, d2, _, e2, g2, hda2, fun u2 => ?_⟩⟩
        have m2 := mf2 u2
        generalize (upd (upd h2 a2 (pinO a2 (newX (c.C 2) d2 u2))) d2 (.xd (flds ["rule", "at"] "Broken" [x, y]))) = H2 at m2 ⊢
        refine ⟨_, rfl, rfl, _, rfl, ite2 (fun _ => ?_) (fun _ => ?_)⟩
        · refine ⟨_, rfl, _, rfl, rfl, (by show 2 ≤ 1000; decide), fun a3 ha3 => mk_ini (C := c.C 2) (ns := ["rule", "at"]) (code := "Broken") (vs := [x, y]) rfl ha3 fun d3 h3 e3 g3 hda3 mf3 => ⟨rfl, d3, _, e3, g3, hda3, fun u3 => ?_⟩⟩
          have m3 := mf3 u3
          generalize (upd (upd h3 a3 (pinO a3 (newX (c.C 2) d3 u3))) d3 (.xd (flds ["rule", "at"] "Broken" [x, y]))) = H3 at m3 ⊢
          exact ⟨_, rfl, k a3 H3 (sN m1.sm (sN m2.sm ha3)) (Same.trans m1.sm (Same.trans m2.sm m3.sm)) (exat hda3 (dif_of (sN m1.sm (sN m2.sm ha3)) m3.pa) (dif_of (sN m1.sm (sN m2.sm m3.nd)) m3.pd))⟩
        · exact ⟨_, rfl, k a2 H2 (sN m1.sm ha2) (Same.trans m1.sm m2.sm) (exat hda2 (dif_of (sN m1.sm ha2) m2.pa) (dif_of (sN m1.sm m2.nd) m2.pd))⟩
      · refine ⟨_, rfl, rfl, _, rfl, ite2 (fun _ => ?_) (fun _ => ?_)⟩
        · refine ⟨_, rfl, _, rfl, rfl, (by show 2 ≤ 1000; decide), fun a3 ha3 => mk_ini (C := c.C 2) (ns := ["rule", "at"]) (code := "Broken") (vs := [x, y]) rfl ha3 fun d3 h3 e3 g3 hda3 mf3 => ⟨rfl, d3, _, e3, g3, hda3, fun u3 => ?_⟩⟩
          have m3 := mf3 u3
          generalize (upd (upd h3 a3 (pinO a3 (newX (c.C 2) d3 u3))) d3 (.xd (flds ["rule", "at"] "Broken" [x, y]))) = H3 at m3 ⊢
          exact ⟨_, rfl, k a3 H3 (sN m1.sm ha3) (Same.trans m1.sm m3.sm) (exat hda3 (dif_of (sN m1.sm ha3) m3.pa) (dif_of (sN m1.sm m3.nd) m3.pd))⟩
        · exact ⟨_, rfl, k a1 H1 ha1 m1.sm (exat hda1 (dif_of ha1 m1.pa) (dif_of m1.nd m1.pd))⟩
    refine ⟨_, rfl, rfl, _, rfl, ite2 (fun e => ?_) (fun n3 => ?_)⟩
    · obtain rfl : i = 3 := by injection of_decide_eq_true e; omega
      refine ⟨_, rfl, rfl, _, rfl, ite2 (fun _ => ?_) (fun _ => ?_)⟩
      · exact ⟨_, rfl, _, rfl, mk_do (C := c.C 3) (ns := ["cell", "other"]) (code := "Clash") (vs := [x, y]) rfl (by decide) fun a1 d1 u1 H1 ha1 hd1 hda1 p1 q1 sm1 => k a1 H1 ha1 sm1 (exat hda1 (dif_of ha1 p1) (dif_of hd1 q1))⟩
      · exact ⟨_, rfl, _, rfl, rfl, mk_do (C := c.C 3) (ns := ["cell", "other"]) (code := "Clash") (vs := [x, y]) rfl (by decide) fun a1 d1 u1 H1 ha1 hd1 hda1 p1 q1 sm1 => k a1 H1 ha1 sm1 (exat hda1 (dif_of ha1 p1) (dif_of hd1 q1))⟩
    refine ⟨_, rfl, rfl, _, rfl, ite2 (fun e => ?_) (fun n4 => ?_)⟩
    · obtain rfl : i = 4 := by injection of_decide_eq_true e; omega
      refine ⟨_, rfl, rfl, _, rfl, ite2 (fun _ => ?_) (fun _ => ?_)⟩
      · exact ⟨_, rfl, _, rfl, mk_do (C := c.C 4) (ns := ["low", "high"]) (code := "Even") (vs := [x, y]) rfl (by decide) fun a1 d1 u1 H1 ha1 hd1 hda1 p1 q1 sm1 => k a1 H1 ha1 sm1 (exat hda1 (dif_of ha1 p1) (dif_of hd1 q1))⟩
      · exact ⟨_, rfl, _, rfl, rfl, mk_do (C := c.C 4) (ns := ["low", "high"]) (code := "Even") (vs := [x, y]) rfl (by decide) fun a1 d1 u1 H1 ha1 hd1 hda1 p1 q1 sm1 => k a1 H1 ha1 sm1 (exat hda1 (dif_of ha1 p1) (dif_of hd1 q1))⟩
    refine ⟨_, rfl, rfl, _, rfl, ite2 (fun e => ?_) (fun n5 => ?_)⟩
    · obtain rfl : i = 5 := by injection of_decide_eq_true e; omega
      refine ⟨_, rfl, rfl, _, rfl, ite2 (fun _ => ?_) (fun _ => ?_)⟩
      · exact ⟨_, rfl, mk_do (C := c.C 5) (ns := ["what"]) (code := "Unlike") (vs := [x]) rfl (by decide) fun a1 d1 u1 H1 ha1 hd1 hda1 p1 q1 sm1 => k a1 H1 ha1 sm1 (exat hda1 (dif_of ha1 p1) (dif_of hd1 q1))⟩
      · exact ⟨_, rfl, rfl, mk_do (C := c.C 5) (ns := ["what"]) (code := "Unlike") (vs := [x]) rfl (by decide) fun a1 d1 u1 H1 ha1 hd1 hda1 p1 q1 sm1 => k a1 H1 ha1 sm1 (exat hda1 (dif_of ha1 p1) (dif_of hd1 q1))⟩
    refine ⟨_, rfl, rfl, _, rfl, ite2 (fun e => ?_) (fun n6 => ?_)⟩
    · obtain rfl : i = 6 := by injection of_decide_eq_true e; omega
      refine ⟨_, rfl, rfl, _, rfl, ite2 (fun _ => ?_) (fun _ => ?_)⟩
      · exact ⟨_, rfl, _, rfl, mk_do (C := c.C 6) (ns := ["what", "count"]) (code := "TooMany") (vs := [x, y]) rfl (by decide) fun a1 d1 u1 H1 ha1 hd1 hda1 p1 q1 sm1 => k a1 H1 ha1 sm1 (exat hda1 (dif_of ha1 p1) (dif_of hd1 q1))⟩
      · exact ⟨_, rfl, _, rfl, rfl, mk_do (C := c.C 6) (ns := ["what", "count"]) (code := "TooMany") (vs := [x, y]) rfl (by decide) fun a1 d1 u1 H1 ha1 hd1 hda1 p1 q1 sm1 => k a1 H1 ha1 sm1 (exat hda1 (dif_of ha1 p1) (dif_of hd1 q1))⟩
    refine ⟨_, rfl, rfl, _, rfl, ite2 (fun e => ?_) (fun n7 => ?_)⟩
    · obtain rfl : i = 7 := by injection of_decide_eq_true e; omega
      refine ⟨_, rfl, rfl, _, rfl, ite2 (fun _ => ?_) (fun _ => ?_)⟩
      · exact ⟨_, rfl, mk_do (C := c.C 7) (ns := ["value"]) (code := "NoSuch") (vs := [x]) rfl (by decide) fun a1 d1 u1 H1 ha1 hd1 hda1 p1 q1 sm1 => k a1 H1 ha1 sm1 (exat hda1 (dif_of ha1 p1) (dif_of hd1 q1))⟩
      · exact ⟨_, rfl, rfl, mk_do (C := c.C 7) (ns := ["value"]) (code := "NoSuch") (vs := [x]) rfl (by decide) fun a1 d1 u1 H1 ha1 hd1 hda1 p1 q1 sm1 => k a1 H1 ha1 sm1 (exat hda1 (dif_of ha1 p1) (dif_of hd1 q1))⟩
    obtain rfl : i = 8 := by
      have g : ∀ j : Nat, ¬ decide (V.int (i : Nat) = V.int (j : Nat)) = true → i ≠ j := fun j h e => h (by rw [e]; exact decide_eq_true rfl)
      have := g 0 n0; have := g 1 n1; have := g 2 n2; have := g 3 n3; have := g 4 n4; have := g 5 n5; have := g 6 n6; have := g 7 n7
      omega
    refine ⟨_, rfl, rfl, _, rfl, ite2 (fun _ => ?_) (fun _ => ?_)⟩
    · exact ⟨_, rfl, mk_do (C := c.C 8) (ns := ["what"]) (code := "Ended") (vs := [x]) rfl (by decide) fun a1 d1 u1 H1 ha1 hd1 hda1 p1 q1 sm1 => k a1 H1 ha1 sm1 (exat hda1 (dif_of ha1 p1) (dif_of hd1 q1))⟩
    · exact ⟨_, rfl, rfl, mk_do (C := c.C 8) (ns := ["what"]) (code := "Ended") (vs := [x]) rfl (by decide) fun a1 d1 u1 H1 ha1 hd1 hda1 p1 q1 sm1 => k a1 H1 ha1 sm1 (exat hda1 (dif_of ha1 p1) (dif_of hd1 q1))⟩
end
end Lw
namespace Lw
open PySem PySem.Spec PyProof.Rows L2 XV
theorem lk_hit {f : Str} {v : V} {r : List (Str × V)} : List.lookup f ((f, v) :: r) = some v := by
  rw [List.lookup_cons]
  simp
theorem lk_miss {f g : Str} {v : V} {r : List (Str × V)} (h : (f == g) = false) : List.lookup f ((g, v) :: r) = List.lookup f r := by
  rw [List.lookup_cons, h]
/-- what the exception of kind i tells -/
def duOf (x y z : V) (i : Nat) : List V := arOf x y z i ++ [.str (cdOf i)]
theorem lk0_code {x y z : V} : (fOf x y z 0).lookup ("code" : Str) = some (V.str "BadText") := by
  show List.lookup ("code" : Str) ([("code", V.str "BadText"), ("why", z), ("line", y), ("what", x)] : List (Str × V)) = _
  rw [lk_hit]
theorem lk0_why {x y z : V} : (fOf x y z 0).lookup ("why" : Str) = some (z) := by
  show List.lookup ("why" : Str) ([("code", V.str "BadText"), ("why", z), ("line", y), ("what", x)] : List (Str × V)) = _
  rw [lk_miss (f := "why") (g := "code") (by decide +kernel), lk_hit]
theorem lk0_line {x y z : V} : (fOf x y z 0).lookup ("line" : Str) = some (y) := by
  show List.lookup ("line" : Str) ([("code", V.str "BadText"), ("why", z), ("line", y), ("what", x)] : List (Str × V)) = _
  rw [lk_miss (f := "line") (g := "code") (by decide +kernel), lk_miss (f := "line") (g := "why") (by decide +kernel), lk_hit]
theorem lk0_what {x y z : V} : (fOf x y z 0).lookup ("what" : Str) = some (x) := by
  show List.lookup ("what" : Str) ([("code", V.str "BadText"), ("why", z), ("line", y), ("what", x)] : List (Str × V)) = _
  rw [lk_miss (f := "what") (g := "code") (by decide +kernel), lk_miss (f := "what") (g := "why") (by decide +kernel), lk_miss (f := "what") (g := "line") (by decide +kernel), lk_hit]
theorem lk1_code {x y z : V} : (fOf x y z 1).lookup ("code" : Str) = some (V.str "BadValue") := by
  show List.lookup ("code" : Str) ([("code", V.str "BadValue"), ("what", x)] : List (Str × V)) = _
  rw [lk_hit]
theorem lk1_what {x y z : V} : (fOf x y z 1).lookup ("what" : Str) = some (x) := by
  show List.lookup ("what" : Str) ([("code", V.str "BadValue"), ("what", x)] : List (Str × V)) = _
  rw [lk_miss (f := "what") (g := "code") (by decide +kernel), lk_hit]
theorem lk2_code {x y z : V} : (fOf x y z 2).lookup ("code" : Str) = some (V.str "Broken") := by
  show List.lookup ("code" : Str) ([("code", V.str "Broken"), ("at", y), ("rule", x)] : List (Str × V)) = _
  rw [lk_hit]
theorem lk2_at {x y z : V} : (fOf x y z 2).lookup ("at" : Str) = some (y) := by
  show List.lookup ("at" : Str) ([("code", V.str "Broken"), ("at", y), ("rule", x)] : List (Str × V)) = _
  rw [lk_miss (f := "at") (g := "code") (by decide +kernel), lk_hit]
theorem lk2_rule {x y z : V} : (fOf x y z 2).lookup ("rule" : Str) = some (x) := by
  show List.lookup ("rule" : Str) ([("code", V.str "Broken"), ("at", y), ("rule", x)] : List (Str × V)) = _
  rw [lk_miss (f := "rule") (g := "code") (by decide +kernel), lk_miss (f := "rule") (g := "at") (by decide +kernel), lk_hit]
theorem lk3_code {x y z : V} : (fOf x y z 3).lookup ("code" : Str) = some (V.str "Clash") := by
  show List.lookup ("code" : Str) ([("code", V.str "Clash"), ("other", y), ("cell", x)] : List (Str × V)) = _
  rw [lk_hit]
theorem lk3_other {x y z : V} : (fOf x y z 3).lookup ("other" : Str) = some (y) := by
  show List.lookup ("other" : Str) ([("code", V.str "Clash"), ("other", y), ("cell", x)] : List (Str × V)) = _
  rw [lk_miss (f := "other") (g := "code") (by decide +kernel), lk_hit]
theorem lk3_cell {x y z : V} : (fOf x y z 3).lookup ("cell" : Str) = some (x) := by
  show List.lookup ("cell" : Str) ([("code", V.str "Clash"), ("other", y), ("cell", x)] : List (Str × V)) = _
  rw [lk_miss (f := "cell") (g := "code") (by decide +kernel), lk_miss (f := "cell") (g := "other") (by decide +kernel), lk_hit]
theorem lk4_code {x y z : V} : (fOf x y z 4).lookup ("code" : Str) = some (V.str "Even") := by
  show List.lookup ("code" : Str) ([("code", V.str "Even"), ("high", y), ("low", x)] : List (Str × V)) = _
  rw [lk_hit]
theorem lk4_high {x y z : V} : (fOf x y z 4).lookup ("high" : Str) = some (y) := by
  show List.lookup ("high" : Str) ([("code", V.str "Even"), ("high", y), ("low", x)] : List (Str × V)) = _
  rw [lk_miss (f := "high") (g := "code") (by decide +kernel), lk_hit]
theorem lk4_low {x y z : V} : (fOf x y z 4).lookup ("low" : Str) = some (x) := by
  show List.lookup ("low" : Str) ([("code", V.str "Even"), ("high", y), ("low", x)] : List (Str × V)) = _
  rw [lk_miss (f := "low") (g := "code") (by decide +kernel), lk_miss (f := "low") (g := "high") (by decide +kernel), lk_hit]
theorem lk5_code {x y z : V} : (fOf x y z 5).lookup ("code" : Str) = some (V.str "Unlike") := by
  show List.lookup ("code" : Str) ([("code", V.str "Unlike"), ("what", x)] : List (Str × V)) = _
  rw [lk_hit]
theorem lk5_what {x y z : V} : (fOf x y z 5).lookup ("what" : Str) = some (x) := by
  show List.lookup ("what" : Str) ([("code", V.str "Unlike"), ("what", x)] : List (Str × V)) = _
  rw [lk_miss (f := "what") (g := "code") (by decide +kernel), lk_hit]
theorem lk6_code {x y z : V} : (fOf x y z 6).lookup ("code" : Str) = some (V.str "TooMany") := by
  show List.lookup ("code" : Str) ([("code", V.str "TooMany"), ("count", y), ("what", x)] : List (Str × V)) = _
  rw [lk_hit]
theorem lk6_count {x y z : V} : (fOf x y z 6).lookup ("count" : Str) = some (y) := by
  show List.lookup ("count" : Str) ([("code", V.str "TooMany"), ("count", y), ("what", x)] : List (Str × V)) = _
  rw [lk_miss (f := "count") (g := "code") (by decide +kernel), lk_hit]
theorem lk6_what {x y z : V} : (fOf x y z 6).lookup ("what" : Str) = some (x) := by
  show List.lookup ("what" : Str) ([("code", V.str "TooMany"), ("count", y), ("what", x)] : List (Str × V)) = _
  rw [lk_miss (f := "what") (g := "code") (by decide +kernel), lk_miss (f := "what") (g := "count") (by decide +kernel), lk_hit]
theorem lk7_code {x y z : V} : (fOf x y z 7).lookup ("code" : Str) = some (V.str "NoSuch") := by
  show List.lookup ("code" : Str) ([("code", V.str "NoSuch"), ("value", x)] : List (Str × V)) = _
  rw [lk_hit]
theorem lk7_value {x y z : V} : (fOf x y z 7).lookup ("value" : Str) = some (x) := by
  show List.lookup ("value" : Str) ([("code", V.str "NoSuch"), ("value", x)] : List (Str × V)) = _
  rw [lk_miss (f := "value") (g := "code") (by decide +kernel), lk_hit]
theorem lk8_code {x y z : V} : (fOf x y z 8).lookup ("code" : Str) = some (V.str "Ended") := by
  show List.lookup ("code" : Str) ([("code", V.str "Ended"), ("what", x)] : List (Str × V)) = _
  rw [lk_hit]
theorem lk8_what {x y z : V} : (fOf x y z 8).lookup ("what" : Str) = some (x) := by
  show List.lookup ("what" : Str) ([("code", V.str "Ended"), ("what", x)] : List (Str × V)) = _
  rw [lk_miss (f := "what") (g := "code") (by decide +kernel), lk_hit]
def spFields (c : CA) : Sp := fun vs H Q _ => ∃ (i : Nat) (a : Addr) (x y z : V), vs = [.int i, .ref a] ∧ i < 9 ∧ ExAt H a (c.C i) (fOf x y z i) ∧ ∀ l, H l = none → Q (.ref l) (upd H l (.lst (duOf x y z i)))
abbrev sFields : Stmt := topOf "_law_fields"
abbrev Nfields : List Str := ["pick", "e"]
theorem scFields : FnScope Nfields ["pick", "e"] (defScope sFields) := ⟨rfl, rfl, rfl, by decide +kernel, rfl, by decide +kernel, by decide +kernel⟩
abbrev sKinds : Stmt := topOf "_law_kinds"
abbrev Nkinds : List Str := ["e", "row"]
theorem scKinds : FnScope Nkinds ["e"] (defScope sKinds) := ⟨rfl, rfl, rfl, by decide +kernel, rfl, by decide +kernel, by decide +kernel⟩
section
variable {P : Program} {w : World} {K : PySem.W.Frag} {mg : Str → Option Value} {base : Heap}
theorem ok_fields {f : Addr} {fd : FuncData} {c : CA} (F : Fun K "_law_fields" "_law_fields" sFields f fd) (D : Xs K mg c) : FnW P w K mg base 1 f fd ["pick", "e"] (spFields c) := by
  refine okW F scFields (fun vs H Q E h => ?_) (fun cdv A outer s H vs Q p hr h => ?_)
  · obtain ⟨i, a, x, y, z, rfl, _⟩ := h
    rfl
  · obtain ⟨i, a, x, y, z, rfl, hi, ex, k⟩ := h
    refine ⟨_, pss_cons (ps_if (pt_cmpR op_eq (pv 0) pe_int (nomark _)) (pss_one (ps_ret (pe_lst (pa_cons (pe_xa (pv 1) rfl) (pa_cons (pe_xa (pv 1) rfl) (pa_cons (pe_xa (pv 1) rfl) (pa_cons (pe_xa (pv 1) rfl) pa_nil))))))) pss_nil)
 (pss_cons (ps_if (pt_cmpR op_eq (pv 0) pe_int (nomark _)) (pss_one (ps_ret (pe_lst (pa_cons (pe_xa (pv 1) rfl) (pa_cons (pe_xa (pv 1) rfl) (pa_cons (pe_xa (pv 1) rfl) pa_nil)))))) pss_nil)
 (pss_cons (ps_if (pt_cmpR op_eq (pv 0) pe_int (nomark _)) (pss_one (ps_ret (pe_lst (pa_cons (pe_xa (pv 1) rfl) (pa_cons (pe_xa (pv 1) rfl) (pa_cons (pe_xa (pv 1) rfl) pa_nil)))))) pss_nil)
 (pss_cons (ps_if (pt_cmpR op_eq (pv 0) pe_int (nomark _)) (pss_one (ps_ret (pe_lst (pa_cons (pe_xa (pv 1) rfl) (pa_cons (pe_xa (pv 1) rfl) (pa_cons (pe_xa (pv 1) rfl) pa_nil)))))) pss_nil)
 (pss_cons (ps_if (pt_cmpR op_eq (pv 0) pe_int (nomark _)) (pss_one (ps_ret (pe_lst (pa_cons (pe_xa (pv 1) rfl) (pa_cons (pe_xa (pv 1) rfl) (pa_cons (pe_xa (pv 1) rfl) pa_nil)))))) pss_nil)
 (pss_cons (ps_if (pt_cmpR op_eq (pv 0) pe_int (nomark _)) (pss_one (ps_ret (pe_lst (pa_cons (pe_xa (pv 1) rfl) (pa_cons (pe_xa (pv 1) rfl) pa_nil))))) pss_nil)
 (pss_one (ps_ret (pe_lst (pa_cons (pe_xa (pv 1) rfl) (pa_cons (pe_xa (pv 1) rfl) pa_nil)))))))))), ?_⟩
    refine ⟨_, rfl, rfl, _, rfl, ite2 (fun e => ?_) (fun n0 => ?_)⟩
    · obtain rfl : i = 0 := by injection of_decide_eq_true e; omega
      exact ⟨_, rfl, a, c.C 0, _, _, _, _, rfl, D.d0.T, D.d0.no, ex, lk0_what, _, rfl, a, c.C 0, _, _, _, _, rfl, D.d0.T, D.d0.no, ex, lk0_line, _, rfl, a, c.C 0, _, _, _, _, rfl, D.d0.T, D.d0.no, ex, lk0_why, _, rfl, a, c.C 0, _, _, _, _, rfl, D.d0.T, D.d0.no, ex, lk0_code, (by show 4 ≤ sizeLine; decide), fun l hl => k l hl⟩
    refine ⟨_, rfl, rfl, _, rfl, ite2 (fun e => ?_) (fun n2 => ?_)⟩
    · obtain rfl : i = 2 := by injection of_decide_eq_true e; omega
      exact ⟨_, rfl, a, c.C 2, _, _, _, _, rfl, D.d2.T, D.d2.no, ex, lk2_rule, _, rfl, a, c.C 2, _, _, _, _, rfl, D.d2.T, D.d2.no, ex, lk2_at, _, rfl, a, c.C 2, _, _, _, _, rfl, D.d2.T, D.d2.no, ex, lk2_code, (by show 3 ≤ sizeLine; decide), fun l hl => k l hl⟩
    refine ⟨_, rfl, rfl, _, rfl, ite2 (fun e => ?_) (fun n3 => ?_)⟩
    · obtain rfl : i = 3 := by injection of_decide_eq_true e; omega
      exact ⟨_, rfl, a, c.C 3, _, _, _, _, rfl, D.d3.T, D.d3.no, ex, lk3_cell, _, rfl, a, c.C 3, _, _, _, _, rfl, D.d3.T, D.d3.no, ex, lk3_other, _, rfl, a, c.C 3, _, _, _, _, rfl, D.d3.T, D.d3.no, ex, lk3_code, (by show 3 ≤ sizeLine; decide), fun l hl => k l hl⟩
    refine ⟨_, rfl, rfl, _, rfl, ite2 (fun e => ?_) (fun n4 => ?_)⟩
    · obtain rfl : i = 4 := by injection of_decide_eq_true e; omega
      exact ⟨_, rfl, a, c.C 4, _, _, _, _, rfl, D.d4.T, D.d4.no, ex, lk4_low, _, rfl, a, c.C 4, _, _, _, _, rfl, D.d4.T, D.d4.no, ex, lk4_high, _, rfl, a, c.C 4, _, _, _, _, rfl, D.d4.T, D.d4.no, ex, lk4_code, (by show 3 ≤ sizeLine; decide), fun l hl => k l hl⟩
    refine ⟨_, rfl, rfl, _, rfl, ite2 (fun e => ?_) (fun n6 => ?_)⟩
    · obtain rfl : i = 6 := by injection of_decide_eq_true e; omega
      exact ⟨_, rfl, a, c.C 6, _, _, _, _, rfl, D.d6.T, D.d6.no, ex, lk6_what, _, rfl, a, c.C 6, _, _, _, _, rfl, D.d6.T, D.d6.no, ex, lk6_count, _, rfl, a, c.C 6, _, _, _, _, rfl, D.d6.T, D.d6.no, ex, lk6_code, (by show 3 ≤ sizeLine; decide), fun l hl => k l hl⟩
    refine ⟨_, rfl, rfl, _, rfl, ite2 (fun e => ?_) (fun n7 => ?_)⟩
    · obtain rfl : i = 7 := by injection of_decide_eq_true e; omega
      exact ⟨_, rfl, a, c.C 7, _, _, _, _, rfl, D.d7.T, D.d7.no, ex, lk7_value, _, rfl, a, c.C 7, _, _, _, _, rfl, D.d7.T, D.d7.no, ex, lk7_code, (by show 2 ≤ sizeLine; decide), fun l hl => k l hl⟩
    have g : ∀ j : Nat, ¬ decide (V.int (i : Nat) = V.int (j : Nat)) = true → i ≠ j := fun j h e => h (by rw [e]; exact decide_eq_true rfl)
    have := g 0 n0; have := g 2 n2; have := g 3 n3; have := g 4 n4; have := g 6 n6; have := g 7 n7
    obtain rfl | rfl | rfl : i = 1 ∨ i = 5 ∨ i = 8 := by omega
    · exact ⟨_, rfl, a, c.C 1, _, _, _, _, rfl, D.d1.T, D.d1.no, ex, lk1_what, _, rfl, a, c.C 1, _, _, _, _, rfl, D.d1.T, D.d1.no, ex, lk1_code, (by show 2 ≤ sizeLine; decide), fun l hl => k l hl⟩
    · exact ⟨_, rfl, a, c.C 5, _, _, _, _, rfl, D.d5.T, D.d5.no, ex, lk5_what, _, rfl, a, c.C 5, _, _, _, _, rfl, D.d5.T, D.d5.no, ex, lk5_code, (by show 2 ≤ sizeLine; decide), fun l hl => k l hl⟩
    · exact ⟨_, rfl, a, c.C 8, _, _, _, _, rfl, D.d8.T, D.d8.no, ex, lk8_what, _, rfl, a, c.C 8, _, _, _, _, rfl, D.d8.T, D.d8.no, ex, lk8_code, (by show 2 ≤ sizeLine; decide), fun l hl => k l hl⟩
end
theorem Xs.ec {K : PySem.W.Frag} {mg : Str → Option Value} {c : CA} (D : Xs K mg c) {i : Nat} (hi : i < 9) : ∃ newId tl, ExCls K (c.C i) newId tl := by
  obtain rfl | rfl | rfl | rfl | rfl | rfl | rfl | rfl | rfl : i = 0 ∨ i = 1 ∨ i = 2 ∨ i = 3 ∨ i = 4 ∨ i = 5 ∨ i = 6 ∨ i = 7 ∨ i = 8 := by omega
  · exact ⟨_, _, D.d0.T⟩
  · exact ⟨_, _, D.d1.T⟩
  · exact ⟨_, _, D.d2.T⟩
  · exact ⟨_, _, D.d3.T⟩
  · exact ⟨_, _, D.d4.T⟩
  · exact ⟨_, _, D.d5.T⟩
  · exact ⟨_, _, D.d6.T⟩
  · exact ⟨_, _, D.d7.T⟩
  · exact ⟨_, _, D.d8.T⟩
/-- of which classes the exceptions are -/
structure Ks (K : PySem.W.Frag) (mg : Str → Option Value) (c : CA) (cB cA : Addr) : Prop where
  is : IsK K
  own : ∀ i j, i < 9 → j < 9 → PySem.W.kitOne K (.ref (c.C i)) (.ref (c.C j)) = some (decide (j = i))
  gB : mg "BothleastError" = some (.ref cB)
  gA : mg "Absent" = some (.ref cA)
  kBothleastError : ∀ i, i < 9 → PySem.W.kitOne K (.ref (c.C i)) (.ref cB) = some (decide (i < 7))
  kValueError : ∀ i, i < 9 → PySem.W.kitOne K (.ref (c.C i)) (.type "ValueError") = some (decide (i < 7))
  gValueError : mg "ValueError" = none
  kAbsent : ∀ i, i < 9 → PySem.W.kitOne K (.ref (c.C i)) (.ref cA) = some (decide (i = 7))
  kLookupError : ∀ i, i < 9 → PySem.W.kitOne K (.ref (c.C i)) (.type "LookupError") = some (decide (i = 7))
  gLookupError : mg "LookupError" = none
  kRuntimeError : ∀ i, i < 9 → PySem.W.kitOne K (.ref (c.C i)) (.type "RuntimeError") = some (decide (i = 8))
  gRuntimeError : mg "RuntimeError" = none
  kKeyError : ∀ i, i < 9 → PySem.W.kitOne K (.ref (c.C i)) (.type "KeyError") = some (false)
  gKeyError : mg "KeyError" = none
  kIndexError : ∀ i, i < 9 → PySem.W.kitOne K (.ref (c.C i)) (.type "IndexError") = some (false)
  gIndexError : mg "IndexError" = none
  kTypeError : ∀ i, i < 9 → PySem.W.kitOne K (.ref (c.C i)) (.type "TypeError") = some (false)
  gTypeError : mg "TypeError" = none
  kstr : ∀ i, i < 9 → PySem.W.kitOne K (.ref (c.C i)) (.type "str") = some false
def kdOf (i : Nat) : List Bool := [decide (0 = i), decide (1 = i), decide (2 = i), decide (3 = i), decide (4 = i), decide (5 = i), decide (6 = i), decide (7 = i), decide (8 = i), decide (i < 7), decide (i < 7), decide (i = 7), decide (i = 7), decide (i = 8), false, false, false]
def spKinds (c : CA) : Sp := fun vs H Q _ => ∃ (i : Nat) (a : Addr) (fs : List (Str × V)), vs = [.ref a] ∧ i < 9 ∧ ExAt H a (c.C i) fs ∧ ∀ (l : Addr) (H' : Hp), H l = none → Same H H' → H' l = some (.lst ((kdOf i).map V.bl)) → Q (.ref l) H'
section
variable {P : Program} {w : World} {K : PySem.W.Frag} {mg : Str → Option Value} {base : Heap}
theorem ok_kinds {f : Addr} {fd : FuncData} {c : CA} {cB cA : Addr} (F : Fun K "_law_kinds" "_law_kinds" sKinds f fd) (T : Bt mg) (D : Xs K mg c) (S : Ks K mg c cB cA) : FnOk P w K mg base CX0 1 f fd ["e"] (spKinds c) := by
  refine F.ok scKinds (fun vs H Q E h => ?_) (fun cdv A outer s H vs Q E hr h => ?_)
  · obtain ⟨i, a, fs, rfl, _⟩ := h
    rfl
  · obtain ⟨i, a, fs, rfl, hi, ex, k⟩ := h
    obtain ⟨newId, tl, TX⟩ := D.ec hi
    refine ⟨_, pss_cons (ps_set (i := 1) scKinds.nd rfl (Or.inl rfl) (pe_lst (pa_cons (pe_callB call_isX (by rfl) T.isinstance (by decide +kernel) (pa_cons (pv 0) (pa_cons (pe_glob (v := .ref (c.C 0)) rfl D.d0.g rfl) pa_nil))) (pa_cons (pe_callB call_isX (by rfl) T.isinstance (by decide +kernel) (pa_cons (pv 0) (pa_cons (pe_glob (v := .ref (c.C 1)) rfl D.d1.g rfl) pa_nil))) (pa_cons (pe_callB call_isX (by rfl) T.isinstance (by decide +kernel) (pa_cons (pv 0) (pa_cons (pe_glob (v := .ref (c.C 2)) rfl D.d2.g rfl) pa_nil))) (pa_cons (pe_callB call_isX (by rfl) T.isinstance (by decide +kernel) (pa_cons (pv 0) (pa_cons (pe_glob (v := .ref (c.C 3)) rfl D.d3.g rfl) pa_nil))) (pa_cons (pe_callB call_isX (by rfl) T.isinstance (by decide +kernel) (pa_cons (pv 0) (pa_cons (pe_glob (v := .ref (c.C 4)) rfl D.d4.g rfl) pa_nil))) pa_nil)))))))
 (pss_cons (ps_set (i := 1) scKinds.nd rfl (Or.inl rfl) (pe_op op_cat (pv 1) (pe_lst (pa_cons (pe_callB call_isX (by rfl) T.isinstance (by decide +kernel) (pa_cons (pv 0) (pa_cons (pe_glob (v := .ref (c.C 5)) rfl D.d5.g rfl) pa_nil))) (pa_cons (pe_callB call_isX (by rfl) T.isinstance (by decide +kernel) (pa_cons (pv 0) (pa_cons (pe_glob (v := .ref (c.C 6)) rfl D.d6.g rfl) pa_nil))) (pa_cons (pe_callB call_isX (by rfl) T.isinstance (by decide +kernel) (pa_cons (pv 0) (pa_cons (pe_glob (v := .ref (c.C 7)) rfl D.d7.g rfl) pa_nil))) (pa_cons (pe_callB call_isX (by rfl) T.isinstance (by decide +kernel) (pa_cons (pv 0) (pa_cons (pe_glob (v := .ref (c.C 8)) rfl D.d8.g rfl) pa_nil))) pa_nil)))))))
 (pss_cons (ps_set (i := 1) scKinds.nd rfl (Or.inl rfl) (pe_op op_cat (pv 1) (pe_lst (pa_cons (pe_callB call_isX (by rfl) T.isinstance (by decide +kernel) (pa_cons (pv 0) (pa_cons (pe_glob (v := .ref cB) rfl S.gB rfl) pa_nil))) (pa_cons (pe_callB call_isX (by rfl) T.isinstance (by decide +kernel) (pa_cons (pv 0) (pa_cons (pe_bltn (v := .ty "ValueError") rfl S.gValueError (by decide +kernel) rfl) pa_nil))) (pa_cons (pe_callB call_isX (by rfl) T.isinstance (by decide +kernel) (pa_cons (pv 0) (pa_cons (pe_glob (v := .ref cA) rfl S.gA rfl) pa_nil))) (pa_cons (pe_callB call_isX (by rfl) T.isinstance (by decide +kernel) (pa_cons (pv 0) (pa_cons (pe_bltn (v := .ty "LookupError") rfl S.gLookupError (by decide +kernel) rfl) pa_nil))) pa_nil)))))))
 (pss_one (ps_ret (pe_op op_cat (pv 1) (pe_lst (pa_cons (pe_callB call_isX (by rfl) T.isinstance (by decide +kernel) (pa_cons (pv 0) (pa_cons (pe_bltn (v := .ty "RuntimeError") rfl S.gRuntimeError (by decide +kernel) rfl) pa_nil))) (pa_cons (pe_callB call_isX (by rfl) T.isinstance (by decide +kernel) (pa_cons (pv 0) (pa_cons (pe_bltn (v := .ty "KeyError") rfl S.gKeyError (by decide +kernel) rfl) pa_nil))) (pa_cons (pe_callB call_isX (by rfl) T.isinstance (by decide +kernel) (pa_cons (pv 0) (pa_cons (pe_bltn (v := .ty "IndexError") rfl S.gIndexError (by decide +kernel) rfl) pa_nil))) (pa_cons (pe_callB call_isX (by rfl) T.isinstance (by decide +kernel) (pa_cons (pv 0) (pa_cons (pe_bltn (v := .ty "TypeError") rfl S.gTypeError (by decide +kernel) rfl) pa_nil))) pa_nil)))))))))), ?_⟩
    refine ⟨_, rfl, a, c.C i, fs, newId, tl, _, _, _, rfl, .own _, ex, TX, S.is, S.own i 0 hi (by decide), _, rfl, a, c.C i, fs, newId, tl, _, _, _, rfl, .own _, ex, TX, S.is, S.own i 1 hi (by decide), _, rfl, a, c.C i, fs, newId, tl, _, _, _, rfl, .own _, ex, TX, S.is, S.own i 2 hi (by decide), _, rfl, a, c.C i, fs, newId, tl, _, _, _, rfl, .own _, ex, TX, S.is, S.own i 3 hi (by decide), _, rfl, a, c.C i, fs, newId, tl, _, _, _, rfl, .own _, ex, TX, S.is, S.own i 4 hi (by decide), (by show 5 ≤ sizeLine; decide), fun l1 h1 => ?_⟩
    have s1 : Same H (upd H l1 (.lst [V.bl (decide (0 = i)), V.bl (decide (1 = i)), V.bl (decide (2 = i)), V.bl (decide (3 = i)), V.bl (decide (4 = i))])) := same_new h1
    have e1 := ex.mono s1
    refine ⟨_, rfl, _, rfl, a, c.C i, fs, newId, tl, _, _, _, rfl, .own _, e1, TX, S.is, S.own i 5 hi (by decide), _, rfl, a, c.C i, fs, newId, tl, _, _, _, rfl, .own _, e1, TX, S.is, S.own i 6 hi (by decide), _, rfl, a, c.C i, fs, newId, tl, _, _, _, rfl, .own _, e1, TX, S.is, S.own i 7 hi (by decide), _, rfl, a, c.C i, fs, newId, tl, _, _, _, rfl, .own _, e1, TX, S.is, S.own i 8 hi (by decide), (by show 4 ≤ sizeLine; decide), fun l1b h1b => ?_⟩
    have n1 : l1 ≠ l1b := ne_of_none upd_same h1b
    refine ⟨l1, l1b, _, _, rfl, rfl, by rw [upd_ne n1]; exact upd_same, upd_same, (by show 9 ≤ sizeLine; decide), fun l2 h2 => ?_⟩
    have s2 := Same.trans s1 (Same.trans (same_new (o := .lst [V.bl (decide (5 = i)), V.bl (decide (6 = i)), V.bl (decide (7 = i)), V.bl (decide (8 = i))]) h1b) (same_new (o := .lst ([V.bl (decide (0 = i)), V.bl (decide (1 = i)), V.bl (decide (2 = i)), V.bl (decide (3 = i)), V.bl (decide (4 = i))] ++ [V.bl (decide (5 = i)), V.bl (decide (6 = i)), V.bl (decide (7 = i)), V.bl (decide (8 = i))])) h2))
    have e2 := ex.mono s2
    refine ⟨_, rfl, _, rfl, a, c.C i, fs, newId, tl, _, _, _, rfl, .own _, e2, TX, S.is, S.kBothleastError i hi, _, rfl, a, c.C i, fs, newId, tl, _, _, _, rfl, .ty _, e2, TX, S.is, S.kValueError i hi, _, rfl, a, c.C i, fs, newId, tl, _, _, _, rfl, .own _, e2, TX, S.is, S.kAbsent i hi, _, rfl, a, c.C i, fs, newId, tl, _, _, _, rfl, .ty _, e2, TX, S.is, S.kLookupError i hi, (by show 4 ≤ sizeLine; decide), fun l2b h2b => ?_⟩
    have n2 : l2 ≠ l2b := ne_of_none upd_same h2b
    refine ⟨l2, l2b, _, _, rfl, rfl, by rw [upd_ne n2]; exact upd_same, upd_same, (by show 13 ≤ sizeLine; decide), fun l3 h3 => ?_⟩
    have s3 := Same.trans s2 (Same.trans (same_new (o := .lst [V.bl (decide (i < 7)), V.bl (decide (i < 7)), V.bl (decide (i = 7)), V.bl (decide (i = 7))]) h2b) (same_new (o := .lst (([V.bl (decide (0 = i)), V.bl (decide (1 = i)), V.bl (decide (2 = i)), V.bl (decide (3 = i)), V.bl (decide (4 = i))] ++ [V.bl (decide (5 = i)), V.bl (decide (6 = i)), V.bl (decide (7 = i)), V.bl (decide (8 = i))]) ++ [V.bl (decide (i < 7)), V.bl (decide (i < 7)), V.bl (decide (i = 7)), V.bl (decide (i = 7))])) h3))
    have e3 := ex.mono s3
    refine ⟨_, rfl, _, rfl, a, c.C i, fs, newId, tl, _, _, _, rfl, .ty _, e3, TX, S.is, S.kRuntimeError i hi, _, rfl, a, c.C i, fs, newId, tl, _, _, _, rfl, .ty _, e3, TX, S.is, S.kKeyError i hi, _, rfl, a, c.C i, fs, newId, tl, _, _, _, rfl, .ty _, e3, TX, S.is, S.kIndexError i hi, _, rfl, a, c.C i, fs, newId, tl, _, _, _, rfl, .ty _, e3, TX, S.is, S.kTypeError i hi, (by show 4 ≤ sizeLine; decide), fun l3b h3b => ?_⟩
    have n3 : l3 ≠ l3b := ne_of_none upd_same h3b
    refine ⟨l3, l3b, _, _, rfl, rfl, by rw [upd_ne n3]; exact upd_same, upd_same, (by show 17 ≤ sizeLine; decide), fun l4 h4 => ?_⟩
    have s4 := Same.trans s3 (Same.trans (same_new (o := .lst [V.bl (decide (i = 8)), V.bl false, V.bl false, V.bl false]) h3b) (same_new (o := .lst ((([V.bl (decide (0 = i)), V.bl (decide (1 = i)), V.bl (decide (2 = i)), V.bl (decide (3 = i)), V.bl (decide (4 = i))] ++ [V.bl (decide (5 = i)), V.bl (decide (6 = i)), V.bl (decide (7 = i)), V.bl (decide (8 = i))]) ++ [V.bl (decide (i < 7)), V.bl (decide (i < 7)), V.bl (decide (i = 7)), V.bl (decide (i = 7))]) ++ [V.bl (decide (i = 8)), V.bl false, V.bl false, V.bl false])) h4))
    have e4 := ex.mono s4
    exact k l4 _ (sN s3 (sN (same_new h3b) h4)) s4 (upd_same.trans rfl)
end
end Lw
namespace Lw
open PySem PySem.Spec PyProof.Rows L2 XV
def bsOf (i : Nat) : Str := if i < 7 then "BothleastError" else if i = 7 then "Absent" else "Ended"
/-- which clauses take the exceptions -/
structure Es (K : PySem.W.Frag) (c : CA) (cB cA : Addr) : Prop where
  eB : ∀ i, i < 9 → PySem.W.exmOne K (.ref (c.C i)) (.ref cB) = some (decide (i < 7))
  eA : ∀ i, i < 9 → PySem.W.exmOne K (.ref (c.C i)) (.ref cA) = some (decide (i = 7))
  eE : ∀ i, i < 9 → PySem.W.exmOne K (.ref (c.C i)) (.ref (c.C 8)) = some (decide (i = 8))
def tSu (c : CA) (z : Str) : Sui := fun a oe _ _ => tRet (tLst (tCons (tC (.str z)) (tCons (tWx a oe (spFields c) (tCons (tVar 0) (tCons (tVar 4) tNil))) tNil)))
/-- what is given back -/
def Told (H : Hp) (x y z : V) (i : Nat) (Q : VK) : Prop := ∀ (l l2 : Addr) (H' : Hp), H l = none → H l2 = none → l ≠ l2 → Same H H' → H' l = some (.lst [.str (bsOf i), .ref l2]) → H' l2 = some (.lst (duOf x y z i)) → Q (.ref l) H'
theorem su_do {c : CA} {D : Ends} {H0 H : Hp} {x y z : V} {i : Nat} {a d : Addr} {oe : Obj} {cls : Value} (hi : i < 9) (k : Told H0 x y z i D.rt) (s0 : Same H0 H) (hd : H d = some (.xd (fOf x y z i))) (ha : H a = none) (zc : Zc (.ref (c.C i)) (some d) oe) (hf : ∃ vs, oe.data = .fields vs) :
    tSu c (bsOf i) a oe cls (some d) D [some (.int i), some x, some y, some z, some (.ref a)] H := by
  obtain ⟨vs, hf⟩ := hf
  have hda : d ≠ a := ne_of_none hd ha
  have sa : Same H (upd H a (pinO a oe)) := same_new ha
  refine ⟨_, rfl, _, rfl, i, a, x, y, z, rfl, hi, ⟨oe, d, vs, upd_same, zc.1, zc.2, hf, hda, sa d _ hd⟩, fun l hl => ?_⟩
  have hla : l ≠ a := fun e => by rw [e, upd_same] at hl; cases hl
  have hl0 : H l = none := sN sa hl
  refine ⟨by rw [upd_ne hla.symm]; exact upd_same, (by show 2 ≤ sizeLine; decide), fun l2 hl2 => ?_⟩
  have hG : ∀ b, b ≠ a → b ≠ l → L2.del (upd (upd H a (pinO a oe)) l (.lst (duOf x y z i))) a b = H b := fun b n1 n2 => by rw [del_ne n1, upd_ne n2, upd_ne n1]
  have hG1 : L2.del (upd (upd H a (pinO a oe)) l (.lst (duOf x y z i))) a l = some (.lst (duOf x y z i)) := by rw [del_ne hla]; exact upd_same
  generalize L2.del (upd (upd H a (pinO a oe)) l (.lst (duOf x y z i))) a = G at hG hG1 hl2 ⊢
  have sG : Same H G := fun b o h => by rw [hG b (ne_of_none h ha) (ne_of_none h hl0)]; exact h
  have n2 : l ≠ l2 := ne_of_none hG1 hl2
  exact k l2 l _ (sN s0 (sN sG hl2)) (sN s0 hl0) n2.symm (Same.trans s0 (Same.trans sG (same_new hl2))) upd_same (by rw [upd_ne n2]; exact hG1)
theorem all_do {K : PySem.W.Frag} {c : CA} {cB cA : Addr} {D : Ends} {H0 H : Hp} {x y z : V} {i : Nat} {d : Addr} (S : Es K c cB cA) (hi : i < 9) (k : Told H0 x y z i D.rt) (s0 : Same H0 H) (hd : H d = some (.xd (fOf x y z i))) :
    wAll K (fun _ _ _ _ => False) D [(.ref cB, 4, tSu c "BothleastError"), (.ref cA, 4, tSu c "Absent"), (.ref (c.C 8), 4, tSu c "Ended")] (.ref (c.C i)) (some d) [some (.int i), some x, some y, some z, none] H := by
  refine ⟨_, S.eB i hi, fun e a oe ha zc hf => ?_, fun n => ?_⟩
  · have e := of_decide_eq_true e
    have := su_do (c := c) (D := goneE D 4) (cls := .ref (c.C i)) hi k s0 hd ha zc hf
    rw [bsOf, if_pos e] at this
    exact this
  have n := of_decide_eq_false n
  refine ⟨_, S.eA i hi, fun e a oe ha zc hf => ?_, fun n2 => ?_⟩
  · have e := of_decide_eq_true e
    have := su_do (c := c) (D := goneE D 4) (cls := .ref (c.C i)) hi k s0 hd ha zc hf
    rw [bsOf, if_neg n, if_pos e] at this
    exact this
  have n2 := of_decide_eq_false n2
  refine ⟨_, S.eE i hi, fun e a oe ha zc hf => ?_, fun n3 => ?_⟩
  · have := su_do (c := c) (D := goneE D 4) (cls := .ref (c.C i)) hi k s0 hd ha zc hf
    rw [bsOf, if_neg n, if_neg n2] at this
    exact this
  · have n3 := of_decide_eq_false n3
    omega
def spCaught (c : CA) : Sp := fun vs H Q _ => ∃ (i : Nat) (x y z : V), vs = [.int i, x, y, z] ∧ i < 9 ∧ Told H x y z i Q
abbrev sCaught : Stmt := topOf "_law_caught"
abbrev Ncaught : List Str := ["pick", "one", "two", "three", "e"]
theorem scCaught : FnScope Ncaught ["pick", "one", "two", "three"] (defScope sCaught) := ⟨rfl, rfl, rfl, by decide +kernel, rfl, by decide +kernel, by decide +kernel⟩
section
variable {P : Program} {w : World} {K : PySem.W.Frag} {mg : Str → Option Value} {base : Heap}
theorem ok_caught {f fF : Addr} {fd fdF : FuncData} {c : CA} {cB cA : Addr} (F : Fun K "_law_caught" "_law_caught" sCaught f fd) (D : Xs K mg c) (S : Ks K mg c cB cA) (S2 : Es K c cB cA) (DF : Df K mg "_law_fields" sFields ["pick", "e"] fF fdF) : FnOk P w K mg base CX0 3 f fd ["pick", "one", "two", "three"] (spCaught c) := by
  have GF : FnW P w K mg base 1 fF fdF ["pick", "e"] (spFields c) := ok_fields DF.fn D
  have G0 : FnOk P w K mg base CX0 1 (c.f 0) (c.fd 0) ("self" :: ["what", "line", "why"]) (spIni (c.C 0) ["what", "line", "why"] "BadText") := iniBadText (base := base) PySem.F.store_ValueError D.d0
  have G1 : FnOk P w K mg base CX0 1 (c.f 1) (c.fd 1) ("self" :: ["what"]) (spIni (c.C 1) ["what"] "BadValue") := iniBadValue (base := base) PySem.F.store_ValueError D.d1
  have G2 : FnOk P w K mg base CX0 1 (c.f 2) (c.fd 2) ("self" :: ["rule", "at"]) (spIni (c.C 2) ["rule", "at"] "Broken") := iniBroken (base := base) PySem.F.store_ValueError D.d2
  have G3 : FnOk P w K mg base CX0 1 (c.f 3) (c.fd 3) ("self" :: ["cell", "other"]) (spIni (c.C 3) ["cell", "other"] "Clash") := iniClash (base := base) PySem.F.store_ValueError D.d3
  have G4 : FnOk P w K mg base CX0 1 (c.f 4) (c.fd 4) ("self" :: ["low", "high"]) (spIni (c.C 4) ["low", "high"] "Even") := iniEven (base := base) PySem.F.store_ValueError D.d4
  have G5 : FnOk P w K mg base CX0 1 (c.f 5) (c.fd 5) ("self" :: ["what"]) (spIni (c.C 5) ["what"] "Unlike") := iniUnlike (base := base) PySem.F.store_ValueError D.d5
  have G6 : FnOk P w K mg base CX0 1 (c.f 6) (c.fd 6) ("self" :: ["what", "count"]) (spIni (c.C 6) ["what", "count"] "TooMany") := iniTooMany (base := base) PySem.F.store_ValueError D.d6
  have G7 : FnOk P w K mg base CX0 1 (c.f 7) (c.fd 7) ("self" :: ["value"]) (spIni (c.C 7) ["value"] "NoSuch") := iniNoSuch (base := base) PySem.F.store_LookupError D.d7
  have G8 : FnOk P w K mg base CX0 1 (c.f 8) (c.fd 8) ("self" :: ["what"]) (spIni (c.C 8) ["what"] "Ended") := iniEnded (base := base) PySem.F.store_RuntimeError D.d8
  refine F.ok scCaught (fun vs H Q E h => ?_) (fun cdv A outer s H vs Q E hr h => ?_)
  · obtain ⟨i, x, y, z, rfl, _⟩ := h
    rfl
  · obtain ⟨i, x, y, z, rfl, hi, k⟩ := h
    have hr1 : Room 1 _ := hr.mono (by decide)
    apply Exists.intro
    apply And.intro
    · apply pss_one
      apply ps_try_all (l := [(.ref cB, 4, tSu c "BothleastError"), (.ref cA, 4, tSu c "Absent"), (.ref (c.C 8), 4, tSu c "Ended")]) (Wo := fun _ _ _ _ => False)
      case hb =>
        intro W pn xe tk _
        apply pss_cons
        · apply ps_if
          · exact pt_cmpR op_eq (pv 0) pe_int (nomark _)
          · apply pss_one
            apply ps_raise rfl tk
            apply pmk_val (K := K) (H0 := H)
            · rfl
            · rfl
            · rfl
            exact (pe_mkx (x := "BadText") PySem.F.excBase_ValueError D.d0.T D.d0.iC D.d0.tI G0 (hr.mono (by decide)) D.d0.bd pass0 rfl D.d0.g (pa_cons (pv 1) (pa_cons (pv 2) (pa_cons (pv 3) pa_nil))))
          · exact pss_nil
        apply pss_cons
        · apply ps_if
          · exact pt_cmpR op_eq (pv 0) pe_int (nomark _)
          · apply pss_one
            apply ps_raise rfl tk
            apply pmk_val (K := K) (H0 := H)
            · rfl
            · rfl
            · rfl
            exact (pe_mkx (x := "BadValue") PySem.F.excBase_ValueError D.d1.T D.d1.iC D.d1.tI G1 (hr.mono (by decide)) D.d1.bd pass0 rfl D.d1.g (pa_cons (pv 1) pa_nil))
          · exact pss_nil
        apply pss_cons
        · apply ps_if
          · exact pt_cmpR op_eq (pv 0) pe_int (nomark _)
          · apply pss_one
            apply ps_raise rfl tk
            apply pmk_val (K := K) (H0 := H)
            · rfl
            · rfl
            · rfl
            exact (pe_mkx (x := "Broken") PySem.F.excBase_ValueError D.d2.T D.d2.iC D.d2.tI G2 (hr.mono (by decide)) D.d2.bd pass0 rfl D.d2.g (pa_cons (pv 1) (pa_cons (pv 2) pa_nil)))
          · exact pss_nil
        apply pss_cons
        · apply ps_if
          · exact pt_cmpR op_eq (pv 0) pe_int (nomark _)
          · apply pss_one
            apply ps_raise rfl tk
            apply pmk_val (K := K) (H0 := H)
            · rfl
            · rfl
            · rfl
            exact (pe_mkx (x := "Clash") PySem.F.excBase_ValueError D.d3.T D.d3.iC D.d3.tI G3 (hr.mono (by decide)) D.d3.bd pass0 rfl D.d3.g (pa_cons (pv 1) (pa_cons (pv 2) pa_nil)))
          · exact pss_nil
        apply pss_cons
        · apply ps_if
          · exact pt_cmpR op_eq (pv 0) pe_int (nomark _)
          · apply pss_one
            apply ps_raise rfl tk
            apply pmk_val (K := K) (H0 := H)
            · rfl
            · rfl
            · rfl
            exact (pe_mkx (x := "Even") PySem.F.excBase_ValueError D.d4.T D.d4.iC D.d4.tI G4 (hr.mono (by decide)) D.d4.bd pass0 rfl D.d4.g (pa_cons (pv 1) (pa_cons (pv 2) pa_nil)))
          · exact pss_nil
        apply pss_cons
        · apply ps_if
          · exact pt_cmpR op_eq (pv 0) pe_int (nomark _)
          · apply pss_one
            apply ps_raise rfl tk
            apply pmk_val (K := K) (H0 := H)
            · rfl
            · rfl
            · rfl
            exact (pe_mkx (x := "Unlike") PySem.F.excBase_ValueError D.d5.T D.d5.iC D.d5.tI G5 (hr.mono (by decide)) D.d5.bd pass0 rfl D.d5.g (pa_cons (pv 1) pa_nil))
          · exact pss_nil
        apply pss_cons
        · apply ps_if
          · exact pt_cmpR op_eq (pv 0) pe_int (nomark _)
          · apply pss_one
            apply ps_raise rfl tk
            apply pmk_val (K := K) (H0 := H)
            · rfl
            · rfl
            · rfl
            exact (pe_mkx (x := "TooMany") PySem.F.excBase_ValueError D.d6.T D.d6.iC D.d6.tI G6 (hr.mono (by decide)) D.d6.bd pass0 rfl D.d6.g (pa_cons (pv 1) (pa_cons (pv 2) pa_nil)))
          · exact pss_nil
        apply pss_cons
        · apply ps_if
          · exact pt_cmpR op_eq (pv 0) pe_int (nomark _)
          · apply pss_one
            apply ps_raise rfl tk
            apply pmk_val (K := K) (H0 := H)
            · rfl
            · rfl
            · rfl
            exact (pe_mkx (x := "NoSuch") PySem.F.excBase_LookupError D.d7.T D.d7.iC D.d7.tI G7 (hr.mono (by decide)) D.d7.bd pass0 rfl D.d7.g (pa_cons (pv 1) pa_nil))
          · exact pss_nil
        apply pss_one
        apply ps_raise rfl tk
        apply pmk_val (K := K) (H0 := H)
        · rfl
        · rfl
        · rfl
        exact (pe_mkx (x := "Ended") PySem.F.excBase_RuntimeError D.d8.T D.d8.iC D.d8.tI G8 (hr.mono (by decide)) D.d8.bd pass0 rfl D.d8.g (pa_cons (pv 1) pa_nil))
      case hs => rfl
      case hf => rfl
      case hN => exact scCaught.nd
      case tk => exact takes0
      · refine .cons ?_ ?_ ?_ ?_ (.cons ?_ ?_ ?_ ?_ (.cons ?_ ?_ ?_ ?_ .nil))
        · exact ⟨rfl, by decide, .inl S.gB⟩
        · rfl
        · rfl
        · exact (fun a oe cls d pn hz hf hba => pss_one (ps_ret (pe_lst (pa_cons pe_str (pa_cons (pe_wx hba GF ⟨hr1.dp, hr1.un⟩ rfl DF.g DF.fn.kp DF.bd (pa_cons (pv 0) (pa_cons (pv 4) pa_nil))) pa_nil)))))
        · exact ⟨rfl, by decide, .inl S.gA⟩
        · rfl
        · rfl
        · exact (fun a oe cls d pn hz hf hba => pss_one (ps_ret (pe_lst (pa_cons pe_str (pa_cons (pe_wx hba GF ⟨hr1.dp, hr1.un⟩ rfl DF.g DF.fn.kp DF.bd (pa_cons (pv 0) (pa_cons (pv 4) pa_nil))) pa_nil)))))
        · exact ⟨rfl, by decide, .inl D.d8.g⟩
        · rfl
        · rfl
        · exact (fun a oe cls d pn hz hf hba => pss_one (ps_ret (pe_lst (pa_cons pe_str (pa_cons (pe_wx hba GF ⟨hr1.dp, hr1.un⟩ rfl DF.g DF.fn.kp DF.bd (pa_cons (pv 0) (pa_cons (pv 4) pa_nil))) pa_nil)))))
    refine ⟨_, rfl, rfl, _, rfl, ite2 (fun e => ?_) (fun n0 => ?_)⟩
    · obtain rfl : i = 0 := by injection of_decide_eq_true e; omega
      refine ⟨_, rfl, _, rfl, _, rfl, (by show 3 ≤ 1000; decide), fun a1 ha1 => mk_ini (C := c.C 0) (ns := ["what", "line", "why"]) (code := "BadText") (vs := [x, y, z]) rfl ha1 fun d1 h1 e1 g1 hda1 mf1 => ⟨rfl, d1, _, e1, g1, hda1, fun u1 => ?_⟩⟩
      have m1 := mf1 u1
      generalize (upd (upd h1 a1 (pinO a1 (newX (c.C 0) d1 u1))) d1 (.xd (flds ["what", "line", "why"] "BadText" [x, y, z]))) = H1 at m1 ⊢
      refine ⟨a1, c.C 0, d1, u1, rfl, m1.pa, fr0_none ha1, D.d0.T.exC, D.d0.T.tyC, all_do S2 (by decide) k (fun b o h => ?_) ?_⟩
      · rw [delH_ne (ne_of_none h ha1)]
        exact m1.sm b o h
      · rw [delH_ne hda1]
        exact m1.pd
    refine ⟨_, rfl, rfl, _, rfl, ite2 (fun e => ?_) (fun n1 => ?_)⟩
    · obtain rfl : i = 1 := by injection of_decide_eq_true e; omega
      refine ⟨_, rfl, (by show 1 ≤ 1000; decide), fun a1 ha1 => mk_ini (C := c.C 1) (ns := ["what"]) (code := "BadValue") (vs := [x]) rfl ha1 fun d1 h1 e1 g1 hda1 mf1 => ⟨rfl, d1, _, e1, g1, hda1, fun u1 => ?_⟩⟩
      have m1 := mf1 u1
      generalize (upd (upd h1 a1 (pinO a1 (newX (c.C 1) d1 u1))) d1 (.xd (flds ["what"] "BadValue" [x]))) = H1 at m1 ⊢
      refine ⟨a1, c.C 1, d1, u1, rfl, m1.pa, fr0_none ha1, D.d1.T.exC, D.d1.T.tyC, all_do S2 (by decide) k (fun b o h => ?_) ?_⟩
      · rw [delH_ne (ne_of_none h ha1)]
        exact m1.sm b o h
      · rw [delH_ne hda1]
        exact m1.pd
    refine ⟨_, rfl, rfl, _, rfl, ite2 (fun e => ?_) (fun n2 => ?_)⟩
    · obtain rfl : i = 2 := by injection of_decide_eq_true e; omega
      refine ⟨_, rfl, _, rfl, (by show 2 ≤ 1000; decide), fun a1 ha1 => mk_ini (C := c.C 2) (ns := ["rule", "at"]) (code := "Broken") (vs := [x, y]) rfl ha1 fun d1 h1 e1 g1 hda1 mf1 => ⟨rfl, d1, _, e1, g1, hda1, fun u1 => ?_⟩⟩
      have m1 := mf1 u1
      generalize (upd (upd h1 a1 (pinO a1 (newX (c.C 2) d1 u1))) d1 (.xd (flds ["rule", "at"] "Broken" [x, y]))) = H1 at m1 ⊢
      refine ⟨a1, c.C 2, d1, u1, rfl, m1.pa, fr0_none ha1, D.d2.T.exC, D.d2.T.tyC, all_do S2 (by decide) k (fun b o h => ?_) ?_⟩
      · rw [delH_ne (ne_of_none h ha1)]
        exact m1.sm b o h
      · rw [delH_ne hda1]
        exact m1.pd
    refine ⟨_, rfl, rfl, _, rfl, ite2 (fun e => ?_) (fun n3 => ?_)⟩
    · obtain rfl : i = 3 := by injection of_decide_eq_true e; omega
      refine ⟨_, rfl, _, rfl, (by show 2 ≤ 1000; decide), fun a1 ha1 => mk_ini (C := c.C 3) (ns := ["cell", "other"]) (code := "Clash") (vs := [x, y]) rfl ha1 fun d1 h1 e1 g1 hda1 mf1 => ⟨rfl, d1, _, e1, g1, hda1, fun u1 => ?_⟩⟩
      have m1 := mf1 u1
      generalize (upd (upd h1 a1 (pinO a1 (newX (c.C 3) d1 u1))) d1 (.xd (flds ["cell", "other"] "Clash" [x, y]))) = H1 at m1 ⊢
      refine ⟨a1, c.C 3, d1, u1, rfl, m1.pa, fr0_none ha1, D.d3.T.exC, D.d3.T.tyC, all_do S2 (by decide) k (fun b o h => ?_) ?_⟩
      · rw [delH_ne (ne_of_none h ha1)]
        exact m1.sm b o h
      · rw [delH_ne hda1]
        exact m1.pd
    refine ⟨_, rfl, rfl, _, rfl, ite2 (fun e => ?_) (fun n4 => ?_)⟩
    · obtain rfl : i = 4 := by injection of_decide_eq_true e; omega
      refine ⟨_, rfl, _, rfl, (by show 2 ≤ 1000; decide), fun a1 ha1 => mk_ini (C := c.C 4) (ns := ["low", "high"]) (code := "Even") (vs := [x, y]) rfl ha1 fun d1 h1 e1 g1 hda1 mf1 => ⟨rfl, d1, _, e1, g1, hda1, fun u1 => ?_⟩⟩
      have m1 := mf1 u1
      generalize (upd (upd h1 a1 (pinO a1 (newX (c.C 4) d1 u1))) d1 (.xd (flds ["low", "high"] "Even" [x, y]))) = H1 at m1 ⊢
      refine ⟨a1, c.C 4, d1, u1, rfl, m1.pa, fr0_none ha1, D.d4.T.exC, D.d4.T.tyC, all_do S2 (by decide) k (fun b o h => ?_) ?_⟩
      · rw [delH_ne (ne_of_none h ha1)]
        exact m1.sm b o h
      · rw [delH_ne hda1]
        exact m1.pd
    refine ⟨_, rfl, rfl, _, rfl, ite2 (fun e => ?_) (fun n5 => ?_)⟩
    · obtain rfl : i = 5 := by injection of_decide_eq_true e; omega
      refine ⟨_, rfl, (by show 1 ≤ 1000; decide), fun a1 ha1 => mk_ini (C := c.C 5) (ns := ["what"]) (code := "Unlike") (vs := [x]) rfl ha1 fun d1 h1 e1 g1 hda1 mf1 => ⟨rfl, d1, _, e1, g1, hda1, fun u1 => ?_⟩⟩
      have m1 := mf1 u1
      generalize (upd (upd h1 a1 (pinO a1 (newX (c.C 5) d1 u1))) d1 (.xd (flds ["what"] "Unlike" [x]))) = H1 at m1 ⊢
      refine ⟨a1, c.C 5, d1, u1, rfl, m1.pa, fr0_none ha1, D.d5.T.exC, D.d5.T.tyC, all_do S2 (by decide) k (fun b o h => ?_) ?_⟩
      · rw [delH_ne (ne_of_none h ha1)]
        exact m1.sm b o h
      · rw [delH_ne hda1]
        exact m1.pd
    refine ⟨_, rfl, rfl, _, rfl, ite2 (fun e => ?_) (fun n6 => ?_)⟩
    · obtain rfl : i = 6 := by injection of_decide_eq_true e; omega
      refine ⟨_, rfl, _, rfl, (by show 2 ≤ 1000; decide), fun a1 ha1 => mk_ini (C := c.C 6) (ns := ["what", "count"]) (code := "TooMany") (vs := [x, y]) rfl ha1 fun d1 h1 e1 g1 hda1 mf1 => ⟨rfl, d1, _, e1, g1, hda1, fun u1 => ?_⟩⟩
      have m1 := mf1 u1
      generalize (upd (upd h1 a1 (pinO a1 (newX (c.C 6) d1 u1))) d1 (.xd (flds ["what", "count"] "TooMany" [x, y]))) = H1 at m1 ⊢
      refine ⟨a1, c.C 6, d1, u1, rfl, m1.pa, fr0_none ha1, D.d6.T.exC, D.d6.T.tyC, all_do S2 (by decide) k (fun b o h => ?_) ?_⟩
      · rw [delH_ne (ne_of_none h ha1)]
        exact m1.sm b o h
      · rw [delH_ne hda1]
        exact m1.pd
    refine ⟨_, rfl, rfl, _, rfl, ite2 (fun e => ?_) (fun n7 => ?_)⟩
    · obtain rfl : i = 7 := by injection of_decide_eq_true e; omega
      refine ⟨_, rfl, (by show 1 ≤ 1000; decide), fun a1 ha1 => mk_ini (C := c.C 7) (ns := ["value"]) (code := "NoSuch") (vs := [x]) rfl ha1 fun d1 h1 e1 g1 hda1 mf1 => ⟨rfl, d1, _, e1, g1, hda1, fun u1 => ?_⟩⟩
      have m1 := mf1 u1
      generalize (upd (upd h1 a1 (pinO a1 (newX (c.C 7) d1 u1))) d1 (.xd (flds ["value"] "NoSuch" [x]))) = H1 at m1 ⊢
      refine ⟨a1, c.C 7, d1, u1, rfl, m1.pa, fr0_none ha1, D.d7.T.exC, D.d7.T.tyC, all_do S2 (by decide) k (fun b o h => ?_) ?_⟩
      · rw [delH_ne (ne_of_none h ha1)]
        exact m1.sm b o h
      · rw [delH_ne hda1]
        exact m1.pd
    obtain rfl : i = 8 := by
      have g : ∀ j : Nat, ¬ decide (V.int (i : Nat) = V.int (j : Nat)) = true → i ≠ j := fun j h e => h (by rw [e]; exact decide_eq_true rfl)
      have := g 0 n0; have := g 1 n1; have := g 2 n2; have := g 3 n3; have := g 4 n4; have := g 5 n5; have := g 6 n6; have := g 7 n7
      omega
    refine ⟨_, rfl, (by show 1 ≤ 1000; decide), fun a1 ha1 => mk_ini (C := c.C 8) (ns := ["what"]) (code := "Ended") (vs := [x]) rfl ha1 fun d1 h1 e1 g1 hda1 mf1 => ⟨rfl, d1, _, e1, g1, hda1, fun u1 => ?_⟩⟩
    have m1 := mf1 u1
    generalize (upd (upd h1 a1 (pinO a1 (newX (c.C 8) d1 u1))) d1 (.xd (flds ["what"] "Ended" [x]))) = H1 at m1 ⊢
    refine ⟨a1, c.C 8, d1, u1, rfl, m1.pa, fr0_none ha1, D.d8.T.exC, D.d8.T.tyC, all_do S2 (by decide) k (fun b o h => ?_) ?_⟩
    · rw [delH_ne (ne_of_none h ha1)]
      exact m1.sm b o h
    · rw [delH_ne hda1]
      exact m1.pd
end
end Lw
namespace Lw
open PySem PySem.Spec PyProof.Rows L2 XV
theorem len_add (i j : Str) : (i ++ j).length = i.length + j.length := Array.size_append
abbrev sAsked : Stmt := topOf "_law_asked"
abbrev Nasked : List Str := ["bag", "word", "k", "spot"]
theorem scAsked : FnScope Nasked ["bag"] (defScope sAsked) := ⟨rfl, rfl, rfl, by decide +kernel, rfl, by decide +kernel, by decide +kernel⟩
def spAsked : Sp := fun vs H Q _ => ∃ B : Bg, vs = [.ref B.b] ∧ BagAt B H ∧ ∀ (v : V) (H' : Hp), Nice H H' 2 v → Go B H H' → Q v H'
section
variable {P : Program} {w : World} {K : PySem.W.Frag} {mg : Str → Option Value} {base : Heap}
theorem ok_asked {f fV fS fO fD : Addr} {fd fdV fdS fdO fdD : FuncData} (F : Fun K "_law_asked" "_law_asked" sAsked f fd) (T : Bt mg) (D_value : Df K mg "_law_value" sValue ["bag", "deep"] fV fdV) (D_string : Df K mg "_law_string" sString ["bag"] fS fdS) (D_of : Df K mg "_law_of" sOf ["bag", "things"] fO fdO) (D_draw : Df K mg "_law_draw" sDraw ["bag", "size"] fD fdD) : FnOk P w K mg base CX0 7 f fd ["bag"] spAsked := by
  have G_value : FnOk P w K mg base CX0 6 fV fdV ["bag", "deep"] (spVal 3) := ok_value T D_value D_string D_of D_draw 3
  have G_of : FnOk P w K mg base CX0 2 fO fdO ["bag", "things"] spOf := ok_of D_of.fn T D_draw
  have G_draw : FnOk P w K mg base CX0 1 fD fdD ["bag", "size"] spDraw := ok_draw D_draw.fn T
  refine F.ok scAsked (fun vs H Q E h => ?_) (fun cdv A outer s H vs Q E hr h => ?_)
  · obtain ⟨B, rfl, _⟩ := h
    rfl
  · obtain ⟨B, rfl, hB, k⟩ := h
    refine ⟨_, pss_cons (ps_if (pt_cmpR op_eq (cal D_draw G_draw (hr.mono (by decide)) (pa_cons (pv 0) (pa_cons (pe_int) pa_nil))) (pe_int) (nomark _))
 (pss_one (ps_ret (cal D_value G_value (hr.mono (by decide)) (pa_cons (pv 0) (pa_cons (pe_int) pa_nil)))))
 (pss_nil))
 (pss_mid (ps_set (i := 1) scAsked.nd rfl (Or.inl rfl) (pe_join (pe_str) (pe_lc (own := [("k", 2)]) (g := gName 2) (tt := tYes) rfl scAsked.nd (pi_range1 rfl T.range (pa_cons (cal D_of G_of (hr.mono (by decide)) (pa_cons (pv 0) (pa_cons (pe_lst (pa_cons (pe_int) (pa_cons (pe_int) (pa_cons (pe_int) (pa_cons (pe_int) (pa_cons (pe_int) (pa_cons (pe_int) (pa_cons (pe_int) (pa_cons (pe_int) pa_nil))))))))) pa_nil))) pa_nil)) (blkOk_by (N := Nasked) (sc := defScope sAsked) (by decide +kernel)) (fun _ _ _ _ _ => pg_name (i := 2) scAsked.nd rfl (Or.inl rfl)) (fun _ _ _ _ _ => pts_nil) (fun _ _ _ _ _ => cal D_of G_of (hr.mono (by decide)) (pa_cons (pv 0) (pa_cons (pe_str) pa_nil))))))
 (pss_mid (ps_if (pt_cmpR op_gt (cal D_draw G_draw (hr.mono (by decide)) (pa_cons (pv 0) (pa_cons (pe_int) pa_nil))) (pe_int) (nomark _))
 (pss_one (ps_set (i := 1) scAsked.nd rfl (Or.inl rfl) (pe_op op_add_str (cal D_of G_of (hr.mono (by decide)) (pa_cons (pv 0) (pa_cons (pe_str) pa_nil))) (pe_slice sl_str (pv 1) (po_some (pe_int)) (po_none)))))
 (pss_nil))
 (pss_mid (ps_if (pt_cmpR op_eq (cal D_draw G_draw (hr.mono (by decide)) (pa_cons (pv 0) (pa_cons (pe_int) pa_nil))) (pe_int) (nomark _))
 (pss_cons (ps_set (i := 3) scAsked.nd rfl (Or.inl rfl) (cal D_draw G_draw (hr.mono (by decide)) (pa_cons (pv 0) (pa_cons (pe_op op_add (pe_callB call_len (by rfl) T.len (by decide +kernel) (pa_cons (pv 1) pa_nil)) (pe_int)) pa_nil))))
 (pss_one (ps_set (i := 1) scAsked.nd rfl (Or.inl rfl) (pe_op op_add_str (pe_op op_add_str (pe_slice sl_str (pv 1) (po_none) (po_some (pv 3))) (cal D_of G_of (hr.mono (by decide)) (pa_cons (pv 0) (pa_cons (pe_str) pa_nil)))) (pe_slice sl_str (pv 1) (po_some (pv 3)) (po_none))))))
 (pss_nil))
 (pss_one (ps_ret (pv 1)))))), ?_⟩
    refine ⟨_, rfl, B, _, rfl, hB, by decide, by decide, fun d H1 d0 d1 g1 => ⟨rfl, _, rfl, ite2 (fun _ => ?_) (fun _ => ?_)⟩⟩
    · exact ⟨_, rfl, B, 2, rfl, rfl, g1.bag, fun v H2 nv g2 => k v H2 (nv.back (g1.up hB)) (g1.trans g2)⟩
    refine ⟨fun σ' H' => ∃ z : Str, σ' = [some (.ref B.b), some (.str z), none, none] ∧ z.length ≤ 10 ∧ Go B H H', ?_, ?_⟩
    · refine ⟨⟨_, rfl⟩, _, rfl, (by show 8 ≤ sizeLine; decide), fun p hp => ⟨B, _, rfl, (g1.new hp).bag, .inl ⟨p, _, rfl, upd_same, (g1.bag.away hp).1, (by show 0 < 8; decide), (by show 8 ≤ 1000; decide), fun v H2 hv g2 => ?_⟩⟩⟩
      have g0 := (g1.new (o := .lst [.int 2, .int 1, .int 8, .int 9, .int 3, .int 7, .int 0, .int 10]) hp).trans g2
      obtain ⟨j, rfl, j0, j1⟩ : ∃ j : Int, v = .int j ∧ 0 ≤ j ∧ j ≤ 10 := by
        simp only [List.mem_cons, List.not_mem_nil, or_false] at hv
        rcases hv with rfl | rfl | rfl | rfl | rfl | rfl | rfl | rfl <;> exact ⟨_, rfl, by decide, by decide⟩
      refine ⟨j, rfl, by omega, by omega, fun D hD => lc_range (lo := 0) (n := j.toNat) (fun i H2 => Go B H H2 ∧ ∃ ys : List Str, H2 D = some (.lst (ys.map V.str)) ∧ ys.length = i ∧ ∀ y ∈ ys, y.length = 1) ⟨g0.new hD, [], upd_same, rfl, fun _ h => by simp at h⟩ ?_ ?_⟩
      · rintro i H2 hi ⟨g2, ys, e2, l2, o2⟩
        have hD0 := g0.free hB hD
        refine ⟨rfl, _, rfl, B, _, rfl, g2.bag, .inr ⟨zSgn, rfl, by decide +kernel, by decide +kernel, fun c H3 _ g3 => ?_⟩⟩
        refine ⟨_, g3.keep g2.bag (hB.away hD0).1 e2, by rw [List.length_map, sizeLine_eq]; omega, (g2.trans g3).turn hB hD0, ys ++ [⟨#[c]⟩], ?_, by rw [List.length_append, l2]; rfl, fun y hy => ?_⟩
        · rw [upd_same, List.map_append]
          rfl
        · rcases List.mem_append.mp hy with h | h
          · exact o2 y h
          · rw [List.mem_singleton.mp h]
            rfl
      · rintro H2 ⟨g2, ys, e2, l2, o2⟩
        have s2 := ones_sum o2
        refine ⟨_, D, ys, rfl, rfl, .inl (SqL.of e2), ?_, _, rfl, ?_, g2⟩
        · rw [s2]
          show ys.length + ys.length * 0 ≤ 16777216
          omega
        · refine Nat.le_trans (join_len _ _) ?_
          rw [s2]
          show ys.length + ys.length * 0 ≤ 10
          omega
    · rintro σ1 H1 ⟨z, rfl, hz, g1⟩
      refine ⟨fun σ' H' => ∃ z : Str, σ' = [some (.ref B.b), some (.str z), none, none] ∧ z.length ≤ 11 ∧ Go B H H', ?_, ?_⟩
      · refine ⟨_, rfl, B, _, rfl, g1.bag, by decide, by decide, fun d H2 d0 d1 g2 => ⟨_, _, rfl, rfl, _, rfl, ite2 (fun _ => ?_) (fun _ => ?_)⟩⟩
        · refine ⟨_, rfl, B, _, rfl, (g1.trans g2).bag, .inr ⟨zLet, rfl, by decide +kernel, by decide +kernel, fun c H3 _ g3 => ?_⟩⟩
          have c1 := cutS_length z (some 1) none
          have c2 : (⟨#[c]⟩ : Str).length = 1 := rfl
          refine ⟨_, rfl, _, rfl, z, rfl, by rw [sizeLine_eq]; omega, _, _, rfl, rfl, by rw [sizeLine_eq]; omega, _, rfl, ?_, (g1.trans g2).trans g3⟩
          rw [len_add]
          omega
        · exact ⟨z, rfl, by omega, g1.trans g2⟩
      · rintro σ1 H1 ⟨z, rfl, hz, g1⟩
        refine ⟨fun σ' H' => ∃ (z : Str) (x : Option V), σ' = [some (.ref B.b), some (.str z), none, x] ∧ z.length ≤ 100 ∧ Go B H H', ?_, ?_⟩
        · refine ⟨_, rfl, B, _, rfl, g1.bag, by decide, by decide, fun d H2 d0 d1 g2 => ⟨rfl, _, rfl, ite2 (fun _ => ?_) (fun _ => ?_)⟩⟩
          · have g3 := g1.trans g2
            refine ⟨_, rfl, _, rfl, _, z.length, rfl, ⟨by rw [sizeLine_eq]; omega, rfl⟩, _, _, rfl, rfl, B, _, rfl, g3.bag, by omega, by omega, fun e H3 e0 e1 g4 => ?_⟩
            have g5 := g3.trans g4
            have c1 := cutS_length z none (some e)
            have c2 := cutS_length z (some e) none
            refine ⟨_, rfl, _, rfl, _, rfl, z, rfl, by rw [sizeLine_eq]; omega, ?_⟩
            refine ⟨_, rfl, B, _, rfl, g5.bag, .inr ⟨"-_ A\n.Zz0:", rfl, by decide +kernel, by decide +kernel, fun c H4 _ g6 => ?_⟩⟩
            have c3 : (⟨#[c]⟩ : Str).length = 1 := rfl
            refine ⟨_, _, rfl, rfl, by rw [sizeLine_eq]; omega, ?_⟩
            refine ⟨_, rfl, _, rfl, _, rfl, z, rfl, by rw [sizeLine_eq]; omega, _, _, rfl, rfl, by rw [sizeLine_eq, len_add]; omega, ?_⟩
            refine ⟨_, _, rfl, ?_, g5.trans g6⟩
            rw [len_add, len_add]
            omega
          · exact ⟨z, none, rfl, by omega, g1.trans g2⟩
        · rintro σ1 H1 ⟨z, x, rfl, hz, g1⟩
          exact ⟨_, rfl, k _ H1 (.str z hz) g1⟩
end
end Lw
namespace Lw
open PySem PySem.Spec PyProof.Rows L2 XV
section
variable {X : Cx}
/-- isinstance of plain data, or of an own exception -/
theorem call_isE : CallR X (.builtin "isinstance") (fun xs H Q => rIsi X.K xs H Q ∨ rIsX X.K xs H Q) := fun pins s σ H xs us Q I r h => by
  rcases h with h | h
  · exact call_isi pins s σ H xs us Q I r h
  · exact call_isX pins s σ H xs us Q I r h
/-- f(k = v, ..), by names alone -/
def tCallKO (sp : Sp) (gV : List V → List V → List V) (E : XK) (tk : TA) : TE := fun σ H Q => tk σ H fun zs H2 => sp (gV [] zs) H2 Q E
theorem pe_callKO {CX : CXT} {k : Nat} {f : Addr} {fd : FuncData} {ps ks : List Str} {sp : Sp} {E : XK} {x : Str} {p pos : Pos} {kws : List Keyword} {tk : TA} {g : List Value → List Value → List Value} {gV : List V → List V → List V}
    (F : FnOk X.prog X.w X.K X.mg X.base CX k f fd ps sp) (hr : Room k X.A) (hg : Gl X x) (hm : X.mg x = some (.ref f)) (hk : PySem.W.keepIn X.K (.ref f) = true) (hb : KBinds X.K fd ps ks g gV) (hx : Passes CX X E) (hkw : PK X kws tk)
    (hall : (backToKw pos (keywordEach kws X.env)).all (·.1.isSome) = true := by rfl) (hks : (backToKw pos (keywordEach kws X.env)).filterMap (·.1) = ks := by rfl) (hdb : (x == ("__debug__" : Str)) = false := by decide)
    (hpl : ((backTo pos (starEach [] X.env)).any (·.1) || (backToKw pos (keywordEach kws X.env)).any (·.1.isNone)) = false := by rfl) : PE X (.Call (.Name x p) [] kws pos) (tCallKO sp gV E tk) := by
  refine ⟨fun pins s σ H Q I h => wpAny_Call_Name_kw (ld_glob I hg hm ?_ hdb)⟩
  refine PySem.W.callWith_KW0 (h₀ := X.base) I.ok.mod.kin hk hall (thn (hkw.run pos pins s σ H _ I h) fun ws s1 hv => ?_) hpl
  obtain ⟨zs, H1, I1, rz, q⟩ := hv
  refine ⟨I1.kIn, ?_⟩
  rw [hks]
  exact run_fnk F hr hb hx I1 .nil rz q
end
def spNameX (K : PySem.W.Frag) : Sp := fun vs H Q _ => ∃ v : V, vs = [v] ∧ ((∃ (n : Nat) (M : Hp), Sim M n v v ∧ Same M H) ∨
  ∃ (a C : Addr) (fs : List (Str × V)) (newId : String) (tl : List Value), v = .ref a ∧ ExAt H a C fs ∧ ExCls K C newId tl ∧ IsK K ∧ PySem.W.kitOne K (.ref C) (.type "str") = some false) ∧ ∀ H', Same H H' → Q (.bl (nameV v)) H'
section
variable {P : Program} {w : World} {K : PySem.W.Frag} {mg : Str → Option Value} {base : Heap}
theorem ok_word {f : Addr} {fd : FuncData} (F : Fun K "is_word" "is_word" sWord f fd) (T : Bt mg) (C : Cs mg) : FnOk P w K mg base CX0 1 f fd ["value"] (spNameX K) := by
  refine F.ok scWord (fun vs H Q E h => ?_) (fun cdv A outer s H vs Q E hr h => ?_)
  · obtain ⟨v, rfl, _⟩ := h
    rfl
  · obtain ⟨v, rfl, hv, k⟩ := h
    obtain ⟨uL, gL, rL⟩ := C.lt
    obtain ⟨uS, gS, rS⟩ := C.sg
    obtain ⟨uN, gN, rN⟩ := C.ln
    refine ⟨_, pss_cons (ps_if (PW.pt (pw_or (pt_not (pt_val (pe_callB call_isE (by rfl) T.isinstance (by decide +kernel) (pa_cons (pv 0) (pa_cons (pe_bltn (v := .ty "str") (by rfl) T.str (by decide +kernel) rfl) pa_nil))))) (pw_or1 (pt_not (pt_chain op_lt op_le (pe_int) (pe_callB call_len (by rfl) T.len (by decide +kernel) (pa_cons (pv 0) pa_nil)) (pe_glob rfl gN rN))))))
 (pss_one (ps_ret (pe_bl)))
 (pss_nil))
 (pss_one (ps_ret (pe_and (pe_cmpR op_in_sign (pe_ix ix_str (pv 0) (pe_int) (fun _ _ => rfl)) (pe_glob rfl gL rL) (by rfl)) (pe_one (pe_callB (cr_all rfl) (by rfl) T.all (by decide +kernel) (pa_cons (pe_lc (own := [("sign", 1)]) (g := gName 1) (tt := tYes) rfl scWord.nd (pi_str (pv 0)) (blkOk_by (N := Nword) (sc := defScope sWord) (by decide +kernel)) (fun _ _ _ _ _ => pg_name (i := 1) scWord.nd rfl (Or.inl rfl)) (fun _ _ _ _ _ => pts_nil) (fun _ _ _ _ _ => pe_cmpR op_in_sign (pv 1) (pe_glob rfl gS rS) (by rfl))) pa_nil)))))), ?_⟩
    rcases hv with ⟨n, M, sm, sM⟩ | ⟨a, C, fs, newId, tl, rfl, ex, TX, iK, kk⟩
    rotate_left
    · refine ⟨_, rfl, .inr ⟨a, C, fs, newId, tl, _, _, _, rfl, .ty _, ex, TX, iK, kk, _, rfl, ?_⟩⟩
      refine iteT ?_
      refine iteT ?_
      exact k H (Same.refl H)
    have sm := sm.mono (rd_same sM)
    rcases sm.kind (K := K) with ⟨z, rfl, hz⟩ | ⟨nv, t, ty, tk⟩
    · have t1 : TyX K H (.str z) (.type "str") := .base (.str z)
      have hl := len_cps z
      refine ⟨_, rfl, .inl ⟨_, _, _, _, _, rfl, .ty _, t1, kit_ty k_str_str, _, rfl, ?_⟩⟩
      refine iteF ?_
      refine ⟨_, rfl, _, z.length, rfl, ⟨by rw [sizeLine_eq]; omega, rfl⟩, _, _, rfl, rfl, _, rfl, ?_⟩
      refine ite2 (fun c1 => ?_) (fun c1 => ?_)
      · have c1 : 0 < z.length := by
          have := of_decide_eq_true c1
          omega
        refine ⟨_, _, rfl, rfl, _, rfl, ?_⟩
        by_cases c2 : z.length ≤ 8
        · rw [decide_eq_true (p := ((z.length : Nat) : Int) ≤ 8) (by omega)]
          refine iteF ?_
          obtain ⟨c, cs, hc⟩ : ∃ c cs, z.cps.toList = c :: cs := by
            cases e : z.cps.toList with
            | nil =>
              rw [e] at hl
              exact absurd hl (by show ¬ z.length = 0; omega)
            | cons c cs => exact ⟨c, cs, rfl⟩
          refine ⟨_, rfl, z, _, c, rfl, rfl, by rw [sizeLine_eq]; omega, (atI_nat (j := 0) (by rw [hc]; rfl) : atI _ ((0 : Nat) : Int) = _), c, zLet, rfl, rfl, ?_⟩
          have e0 : nameV (.str z) = (decide (c ∈ zLet.cps.toList) && z.cps.toList.all fun c => decide (c ∈ zSgn.cps.toList)) := by
            rw [nameV, decide_eq_true c1, decide_eq_true c2, hc]
            rfl
          refine ⟨_, rfl, ite2 (fun m => ?_) (fun m => ?_)⟩
          · have m := of_decide_eq_true m
            rw [decide_eq_true m, Bool.true_and] at e0
            refine ⟨_, rfl, z, rfl, fun D hD => lc_it walk_str (fun i H3 => Same H H3 ∧ H3 D = some (.lst (((z.cps.toList.take i).map fun c => decide (c ∈ zSgn.cps.toList)).map V.bl))) ⟨same_new hD, upd_same⟩ (fun _ _ _ _ => True.intro) ?_ ?_⟩
            · rintro i x H3 H4 hi ⟨s3, e3⟩ ⟨hh, d, hd, hx⟩
              cases hh
              cases hx
              have hd' : z.cps.toList[i]? = some d := by rw [Array.getElem?_toList]; exact hd
              refine ⟨rfl, _, rfl, d, zSgn, rfl, rfl, _, e3, ?_, fun a o h => ?_, ?_⟩
              · rw [List.length_map, List.length_map, sizeLine_eq]
                have := List.length_take_le i z.cps.toList
                have : z.cps.toList.length ≤ 100 := by omega
                have := List.length_take_le' i z.cps.toList
                omega
              · rw [upd_ne (ne_of_none h hD)]
                exact s3 a o h
              · rw [upd_same, List.take_add_one, hd', List.map_append, List.map_append]
                rfl
            · rintro H3 ⟨s3, e3⟩
              refine ⟨D, _, rfl, SqL.of e3, ?_⟩
              have ea : ((z.cps.toList.take z.cps.size).map fun c => decide (c ∈ zSgn.cps.toList)).all id = nameV (.str z) := by
                rw [e0, List.all_map, ← Array.length_toList, List.take_length]
                rfl
              rw [ea]
              exact k H3 s3
          · have m : decide (c ∈ zLet.cps.toList) = false := by
              cases e : decide (c ∈ zLet.cps.toList) with
              | false => rfl
              | true => exact absurd e m
            rw [m, Bool.false_and] at e0
            rw [show false = nameV (.str z) from e0.symm]
            exact k H (Same.refl H)
        · rw [decide_eq_false (p := ((z.length : Nat) : Int) ≤ 8) (by omega)]
          refine iteT ?_
          rw [show false = nameV (.str z) from by rw [nameV, decide_eq_false c2]; cases decide (0 < z.length) <;> rfl]
          exact k H (Same.refl H)
      · have c1 : ¬ 0 < z.length := by
          have := mt decide_eq_true c1
          omega
        refine ⟨_, rfl, ?_⟩
        refine iteT ?_
        rw [show false = nameV (.str z) from by rw [nameV, decide_eq_false c1]; rfl]
        exact k H (Same.refl H)
    · refine ⟨_, rfl, .inl ⟨_, _, _, _, _, rfl, .ty _, ty, kit_ty tk, _, rfl, ?_⟩⟩
      refine iteT ?_
      refine iteT ?_
      rw [← nv]
      exact k H (Same.refl H)
theorem ok_name {f fW : Addr} {fd fdW : FuncData} (F : Fun K "is_name" "is_name" sName f fd) (T : Bt mg) (C : Cs mg) (D_word : Df K mg "is_word" sWord ["value"] fW fdW) : FnOk P w K mg base CX0 2 f fd ["value"] (spNameX K) := by
  have G_word : FnOk P w K mg base CX0 1 fW fdW ["value"] (spNameX K) := ok_word D_word.fn T C
  refine F.ok scName (fun vs H Q E h => ?_) (fun cdv A outer s H vs Q E hr h => ?_)
  · obtain ⟨v, rfl, _⟩ := h
    rfl
  · obtain ⟨v, rfl, hv, k⟩ := h
    refine ⟨_, pss_one (ps_ret (cal D_word G_word (hr.mono (by decide)) (pa_cons (pv 0) pa_nil))), ?_⟩
    exact ⟨_, rfl, v, rfl, hv, k⟩
theorem kb_name {f : Addr} {fd : FuncData} (F : Fun K "is_name" "is_name" sName f fd) : KBinds K fd ["value"] ["value"] (fun us ws => us ++ ws) (fun us ws => us ++ ws) := by
  obtain ⟨oc, od, kV, doc, pm, an, cdv, ct, osl, rfl, lk, hcd⟩ := F.ex
  refine ⟨fun s us ws _ hl => ?_, fun a b => ?_⟩
  · match us, ws, hl with
    | [], [_], _ => exact .of_eq rfl
    | [_], [], _ => exact .of_eq rfl
  · induction a with
    | nil => exact b
    | cons r rr ih => exact .cons r ih
end
end Lw
namespace Lw
open PySem PySem.Spec PyProof.Rows L2 XV
theorem nine {p : Nat → Prop} (h0 : p 0) (h1 : p 1) (h2 : p 2) (h3 : p 3) (h4 : p 4) (h5 : p 5) (h6 : p 6) (h7 : p 7) (h8 : p 8) {j : Nat} (hj : j < 9) : p j := by
  obtain rfl | rfl | rfl | rfl | rfl | rfl | rfl | rfl | rfl : j = 0 ∨ j = 1 ∨ j = 2 ∨ j = 3 ∨ j = 4 ∨ j = 5 ∨ j = 6 ∨ j = 7 ∨ j = 8 := by omega
  all_goals assumption
abbrev szL : List V := [.int 3, .int 1, .int 2, .int 2, .int 2, .int 1, .int 2, .int 1, .int 1]
def szN : Nat → Int
  | 0 => 3
  | 2 => 2
  | 3 => 2
  | 4 => 2
  | 6 => 2
  | _ => 1
abbrev wdL : List V := [.str "BadText", .str "BadValue", .str "Broken", .str "Clash", .str "Even", .str "Unlike", .str "TooMany", .str "NoSuch", .str "Ended"]
theorem at_sz {j : Nat} (hj : j < 9) : atI szL (j : Int) = some (.int (szN j)) :=
  nine (p := fun j => atI szL (j : Int) = some (.int (szN j))) rfl rfl rfl rfl rfl rfl rfl rfl rfl hj
theorem at_wd {j : Nat} (hj : j < 9) : atI wdL (j : Int) = some (.str (cdOf j)) :=
  nine (p := fun j => atI wdL (j : Int) = some (.str (cdOf j))) rfl rfl rfl rfl rfl rfl rfl rfl rfl hj
theorem wd_eq : ∀ k : Fin 9, ∀ j : Fin 9, decide (V.str (cdOf k) = V.str (cdOf j)) = decide (k.1 = j.1) := by decide +kernel
theorem wd_eq' {k j : Nat} (hk : k < 9) (hj : j < 9) : decide (V.str (cdOf k) = V.str (cdOf j)) = decide (k = j) := wd_eq ⟨k, hk⟩ ⟨j, hj⟩
theorem cut_row {x y z : V} {j : Nat} (hj : j < 9) : cutV [x, y, z] none (some (szN j)) ++ [.str (cdOf j)] = duOf x y z j :=
  nine (p := fun j => cutV [x, y, z] none (some (szN j)) ++ [.str (cdOf j)] = duOf x y z j) rfl rfl rfl rfl rfl rfl rfl rfl rfl hj
theorem kd_eq {j : Nat} (hj : j < 9) : ((List.range 9).map fun k => V.bl (decide (k = j))) ++ [V.bl (decide ((j : Int) < 7)), V.bl (decide ((j : Int) < 7)), V.bl (decide (V.int (j : Nat) = V.int 7)), V.bl (decide (V.int (j : Nat) = V.int 7)), V.bl (decide (V.int (j : Nat) = V.int 8)), V.bl false, V.bl false, V.bl false] = (kdOf j).map V.bl := by
  have e1 : decide ((j : Int) < 7) = decide (j < 7) := decide_eq_decide.mpr (by omega)
  have e2 : ∀ n : Nat, decide (V.int (j : Nat) = V.int (n : Nat)) = decide (j = n) := fun n => decide_eq_decide.mpr ⟨fun h => by injection h; omega, fun h => by rw [h]⟩
  have e7 := e2 7
  have e8 := e2 8
  rw [e1]
  show _ ++ [_, _, V.bl (decide (V.int (j : Nat) = V.int (7 : Nat))), V.bl (decide (V.int (j : Nat) = V.int (7 : Nat))), V.bl (decide (V.int (j : Nat) = V.int (8 : Nat))), _, _, _] = _
  rw [e7, e8]
  rfl
theorem du_mem {x y z v : V} {j : Nat} (h : v ∈ duOf x y z j) : v = x ∨ v = y ∨ v = z ∨ v = .str (cdOf j) := by
  rcases List.mem_append.mp h with h | h
  · have : v ∈ [x, y, z] := by
      unfold arOf at h
      split at h <;> (simp only [List.mem_cons, List.not_mem_nil, or_false] at h ⊢; rcases h with h | h <;> simp [h])
    simp only [List.mem_cons, List.not_mem_nil, or_false] at this
    rcases this with h | h | h
    · exact .inl h
    · exact .inr (.inl h)
    · exact .inr (.inr (.inl h))
  · exact .inr (.inr (.inr (List.mem_singleton.mp h)))
theorem du_len {x y z : V} {j : Nat} : (duOf x y z j).length ≤ 1000 := by
  rw [duOf, List.length_append]
  unfold arOf
  split <;> (show _ ≤ 1000; simp)
theorem cd_len (j : Nat) : (cdOf j).length ≤ 100 := by
  unfold cdOf
  split <;> decide +kernel
theorem bs_len (j : Nat) : (bsOf j).length ≤ 100 := by
  unfold bsOf
  split
  · decide +kernel
  · split <;> decide +kernel
/-- two lists of the same plain data -/
theorem sim_l {M : Hp} {n : Nat} {p q : Addr} {xs ys : List V} (hp : M p = some (.lst xs)) (hq : M q = some (.lst ys)) (e : xs.length = ys.length) (hs : ys.length ≤ 1000) (h : ∀ (i : Nat) (x y : V), xs[i]? = some x → ys[i]? = some y → Sim M n x y) : Sim M (n + 1) (.ref p) (.ref q) :=
  .lst (.inl hp) (.inl hq) e hs h
theorem sim_ll {M : Hp} {n : Nat} {p q : Addr} {xs : List V} (hp : M p = some (.lst xs)) (hq : M q = some (.lst xs)) (hs : xs.length ≤ 1000) (h : ∀ x ∈ xs, Sim M n x x) : Sim M (n + 1) (.ref p) (.ref q) :=
  sim_l hp hq rfl hs fun i x y a b => by
    cases a.symm.trans b
    exact h x (List.mem_of_getElem? a)
/-- x, y, z are plain data -/
structure Tri (M : Hp) (x y z : V) : Prop where
  x : Sim M 3 x x
  y : Sim M 3 y y
  z : Sim M 3 z z
theorem Tri.mono {M M' : Hp} {x y z : V} (t : Tri M x y z) (s : Same M M') : Tri M' x y z := ⟨t.x.mono (rd_same s), t.y.mono (rd_same s), t.z.mono (rd_same s)⟩
theorem Tri.du {M : Hp} {x y z : V} (t : Tri M x y z) (j : Nat) : ∀ v ∈ duOf x y z j, Sim M 3 v v := fun v h => by
  rcases du_mem h with rfl | rfl | rfl | rfl
  · exact t.x
  · exact t.y
  · exact t.z
  · exact .str _ (cd_len j)
theorem sim_kd {M : Hp} {p q : Addr} {j : Nat} (hp : M p = some (.lst ((kdOf j).map V.bl))) (hq : M q = some (.lst ((kdOf j).map V.bl))) : Sim M 4 (.ref p) (.ref q) :=
  sim_ll hp hq (by rw [List.length_map]; show 17 ≤ 1000; decide) fun x h => by
    obtain ⟨b, _, rfl⟩ := List.mem_map.mp h
    exact .bl b
theorem sim_told {M : Hp} {l l2 q du : Addr} {x y z : V} {j : Nat} (t : Tri M x y z) (h1 : M l = some (.lst [.str (bsOf j), .ref l2])) (h2 : M l2 = some (.lst (duOf x y z j))) (h3 : M q = some (.lst [.str (bsOf j), .ref du])) (h4 : M du = some (.lst (duOf x y z j))) : Sim M 5 (.ref l) (.ref q) := by
  refine sim_l h1 h3 rfl (by show 2 ≤ 1000; decide) fun i a b ha hb => ?_
  match i with
  | 0 =>
    cases ha
    cases hb
    exact .str _ (bs_len j)
  | 1 =>
    cases ha
    cases hb
    exact sim_ll h2 h4 du_len (t.du j)
  | i + 2 => cases ha
/-- what has been put by -/
structure Item (M : Hp) (c : CA) (t : V) : Prop where
  ex : ∃ (j : Nat) (a p q : Addr) (x y z : V), t = .ref p ∧ j < 9 ∧ M p = some (.tup [.int j, .ref a, .ref q]) ∧ ExAt M a (c.C j) (fOf x y z j) ∧ M q = some (.lst (duOf x y z j)) ∧ Tri M x y z
theorem Item.mono {M M' : Hp} {c : CA} {t : V} (h : Item M c t) (s : Same M M') : Item M' c t := by
  obtain ⟨j, a, p, q, x, y, z, e, hj, h1, h2, h3, h4⟩ := h.ex
  exact ⟨j, a, p, q, x, y, z, e, hj, s _ _ h1, h2.mono s, s _ _ h3, h4.mono s⟩
section
variable {B : Bg} {Kz H H' : Hp} {p : Addr} {o : HO}
theorem dif_go (hb : Kz B.b ≠ none) (g : Go B H H') : Same (dif Kz H) (dif Kz H') := fun a o h => by
  obtain ⟨h1, h2⟩ := of_dif h
  exact dif_of h1 (g.but a o (fun e => hb (e ▸ h1)) h2)
theorem dif_turn (hp : Kz p ≠ none) : Same (dif Kz H) (dif Kz (upd H p o)) := fun a u h => by
  obtain ⟨h1, h2⟩ := of_dif h
  exact dif_of h1 (by rw [upd_ne (by intro e; subst e; exact hp h1)]; exact h2)
theorem dif_in : Same (dif Kz H) H := fun a u h => (of_dif h).2
theorem go_same (hB : BagAt B H) (s : Same H H') : Go B H H' := by
  obtain ⟨⟨i, g, m, c, d, h, r⟩, h2, h3, h4⟩ := hB
  exact ⟨fun a o _ h => s a o h, ⟨⟨i, g, m, c, d, s _ _ h, r⟩, s _ _ h2, h3, h4⟩⟩
end
end Lw
namespace Lw
open PySem PySem.Spec PyProof.Rows L2 XV
abbrev sLaw : Stmt := topOf "law"
abbrev Nlaw : List Str := ["script", "bag", "words", "made", "pick", "row", "k", "size", "due", "one", "kinds", "base", "word"]
theorem scLaw : FnScope Nlaw ["script"] (defScope sLaw) := ⟨rfl, rfl, rfl, by decide +kernel, rfl, by decide +kernel, by decide +kernel⟩
def spLaw (K : PySem.W.Frag) : Sp := fun vs H Q _ => ∃ (a : Addr) (ns : List Int), vs = [.ref a] ∧ SqL K H a (ns.map V.int) ∧ ns.length ≤ 63 ∧ ∀ H', Q (.bl true) H'
/-- where the defs stand -/
structure FA where
  f : Nat → Addr
  fd : Nat → FuncData
structure Ds (K : PySem.W.Frag) (mg : Str → Option Value) (e : FA) : Prop where
  bag : Df K mg "_law_bag" sBag ["script"] (e.f 0) (e.fd 0)
  mixed : Df K mg "_law_mixed" sMixed ["bag", "things"] (e.f 1) (e.fd 1)
  value : Df K mg "_law_value" sValue ["bag", "deep"] (e.f 2) (e.fd 2)
  string : Df K mg "_law_string" sString ["bag"] (e.f 3) (e.fd 3)
  of : Df K mg "_law_of" sOf ["bag", "things"] (e.f 4) (e.fd 4)
  draw : Df K mg "_law_draw" sDraw ["bag", "size"] (e.f 5) (e.fd 5)
  made : Df K mg "_law_made" sMade ["pick", "way", "one", "two", "three"] (e.f 6) (e.fd 6)
  fields : Df K mg "_law_fields" sFields ["pick", "e"] (e.f 7) (e.fd 7)
  kinds : Df K mg "_law_kinds" sKinds ["e"] (e.f 8) (e.fd 8)
  caught : Df K mg "_law_caught" sCaught ["pick", "one", "two", "three"] (e.f 9) (e.fd 9)
  like : Df K mg "_law_like" sLike ["told", "due"] (e.f 10) (e.fd 10)
  asked : Df K mg "_law_asked" sAsked ["bag"] (e.f 11) (e.fd 11)
  name : Df K mg "is_name" sName ["value"] (e.f 12) (e.fd 12)
  word : Df K mg "is_word" sWord ["value"] (e.f 13) (e.fd 13)
  named : Df K mg "_law_named" sNamed ["item"] (e.f 14) (e.fd 14)
section
variable {P : Program} {w : World} {K : PySem.W.Frag} {mg : Str → Option Value} {base : Heap}
theorem ok_law {f : Addr} {fd : FuncData} {c : CA} {e : FA} {cB cA : Addr} (F : Fun K "law" "law" sLaw f fd) (T : Bt mg) (C : Cs mg) (D : Xs K mg c) (S : Ks K mg c cB cA) (S2 : Es K c cB cA) (G : Ds K mg e) : FnOk P w K mg base CX0 8 f fd ["script"] (spLaw K) := by
  have G_bag : FnOk P w K mg base CX0 1 (e.f 0) (e.fd 0) ["script"] (spBag K) := ok_bag G.bag.fn T
  have G_mixed : FnOk P w K mg base CX0 2 (e.f 1) (e.fd 1) ["bag", "things"] (spMixed) := ok_mixed G.mixed.fn T G.draw
  have G_value : FnOk P w K mg base CX0 7 (e.f 2) (e.fd 2) ["bag", "deep"] (spVal 4) := ok_value T G.value G.string G.of G.draw 4
  have G_draw : FnOk P w K mg base CX0 1 (e.f 5) (e.fd 5) ["bag", "size"] (spDraw) := ok_draw G.draw.fn T
  have G_made : FnOk P w K mg base CX0 3 (e.f 6) (e.fd 6) ["pick", "way", "one", "two", "three"] (spMade c) := ok_made G.made.fn D
  have G_fields : FnOk P w K mg base CX0 1 (e.f 7) (e.fd 7) ["pick", "e"] (spFields c) := (ok_fields G.fields.fn D).ok fun _ _ _ _ h => h
  have G_kinds : FnOk P w K mg base CX0 1 (e.f 8) (e.fd 8) ["e"] (spKinds c) := ok_kinds G.kinds.fn T D S
  have G_caught : FnOk P w K mg base CX0 3 (e.f 9) (e.fd 9) ["pick", "one", "two", "three"] (spCaught c) := ok_caught G.caught.fn D S S2 G.fields
  have G_like : FnOk P w K mg base CX0 6 (e.f 10) (e.fd 10) ["told", "due"] (spLike 6) := ok_like T G.like 6
  have G_asked : FnOk P w K mg base CX0 7 (e.f 11) (e.fd 11) ["bag"] (spAsked) := ok_asked G.asked.fn T G.value G.string G.of G.draw
  have G_name : FnOk P w K mg base CX0 2 (e.f 12) (e.fd 12) ["value"] (spNameX K) := ok_name G.name.fn T C G.word
  have G_named : FnOk P w K mg base CX0 1 (e.f 14) (e.fd 14) ["item"] (spName) := ok_named G.named.fn T
  refine F.ok scLaw (fun vs H Q E h => ?_) (fun cdv A outer s H vs Q E hr h => ?_)
  · obtain ⟨a, ns, rfl, _⟩ := h
    rfl
  · obtain ⟨sc, ns, rfl, hS, hlen, k⟩ := h
    refine ⟨_, pss_cons (ps_set (i := 1) scLaw.nd rfl (by first | exact Or.inl rfl | exact Or.inr rfl) (cal G.bag G_bag (hr.mono (by decide)) (pa_cons (pv 0) pa_nil)))
 (pss_cons (ps_set (i := 2) scLaw.nd rfl (by first | exact Or.inl rfl | exact Or.inr rfl) (pe_lst (pa_cons pe_str (pa_cons pe_str (pa_cons pe_str (pa_cons pe_str (pa_cons pe_str (pa_cons pe_str (pa_cons pe_str (pa_cons pe_str (pa_cons pe_str pa_nil)))))))))))
 (pss_cons (ps_set (i := 3) scLaw.nd rfl (by first | exact Or.inl rfl | exact Or.inr rfl) (pe_lst pa_nil))
 (pss_mid (ps_for PassesOwn.never rfl (pi_list (cal G.mixed G_mixed (hr.mono (by decide)) (pa_cons (pv 1) (pa_cons (pe_listRg rfl rfl T.list (prg_1 rfl T.range pe_int)) pa_nil)))) (pg_name (i := 4) scLaw.nd rfl (by first | exact Or.inl rfl | exact Or.inr rfl))
  (pss_mid (ps_setLc  (i := 5) (own := [("k", 6)]) (g := gName 6) (tt := tYes) rfl scLaw.nd rfl (by first | exact rfl) (sw_true rfl rfl rfl (by decide +kernel)) (pi_range1 rfl T.range (pa_cons pe_int pa_nil)) (blkOk_by (N := Nlaw) (sc := defScope sLaw) (by decide +kernel)) (fun _ _ _ _ _ => pg_name (i := 6) scLaw.nd rfl (Or.inl rfl)) (fun _ _ _ _ _ => pts_nil) (fun _ _ _ _ _ => (cal G.value G_value (hr.mono (by decide)) (pa_cons (pv 1) (pa_cons pe_int pa_nil)))))
  (pss_cons (ps_set (i := 7) scLaw.nd rfl (by first | exact Or.inl rfl | exact Or.inr rfl) (pe_ix ix_list (pe_lst (pa_cons pe_int (pa_cons pe_int (pa_cons pe_int (pa_cons pe_int (pa_cons pe_int (pa_cons pe_int (pa_cons pe_int (pa_cons pe_int (pa_cons pe_int pa_nil)))))))))) (pv 4) (fun _ _ => rfl)))
  (pss_mid (ps_set (i := 8) scLaw.nd rfl (by first | exact Or.inl rfl | exact Or.inr rfl) (pe_op op_cat (pe_slice sl_list (pv 5) po_none (po_some (pv 7))) (pe_lst (pa_cons (pe_ix ix_seq (pv 2) (pv 4) (fun _ _ => rfl)) pa_nil))))
  (pss_mid (ps_set (i := 9) scLaw.nd rfl (by first | exact Or.inl rfl | exact Or.inr rfl) (cal G.made G_made (hr.mono (by decide)) (pa_cons (pv 4) (pa_cons (cal G.draw G_draw (hr.mono (by decide)) (pa_cons (pv 1) (pa_cons pe_int pa_nil))) (pa_cons (pe_ix ix_seq (pv 5) pe_int (fun _ _ => rfl)) (pa_cons (pe_ix ix_seq (pv 5) pe_int (fun _ _ => rfl)) (pa_cons (pe_ix ix_seq (pv 5) pe_int (fun _ _ => rfl)) pa_nil)))))))
  (pss_cons (ps_setLc (te := tOp rEq (tOp (rIx K) (tVar 2) (tVar 6)) (tOp (rIx K) (tVar 2) (tVar 4))) (i := 10) (own := [("k", 6)]) (g := gName 6) (tt := tYes) rfl scLaw.nd rfl (by first | exact rfl) (sw_true rfl rfl rfl (by decide +kernel)) (pi_range1 rfl T.range (pa_cons pe_int pa_nil)) (blkOk_by (N := Nlaw) (sc := defScope sLaw) (by decide +kernel)) (fun _ _ _ _ _ => pg_name (i := 6) scLaw.nd rfl (Or.inl rfl)) (fun _ _ _ _ _ => pts_nil) (fun _ _ _ _ _ => pe_cmpR op_eq (pe_ix ix_seq (pv 2) (pv 6) (fun _ _ => rfl)) (pe_ix ix_seq (pv 2) (pv 4) (fun _ _ => rfl)) (nomark _)))
  (pss_mid (ps_set (i := 10) scLaw.nd rfl (by first | exact Or.inl rfl | exact Or.inr rfl) (pe_op op_cat (pv 10) (pe_lst (pa_cons (pe_cmpR op_lt (pv 4) pe_int (nomark _)) (pa_cons (pe_cmpR op_lt (pv 4) pe_int (nomark _)) (pa_cons (pe_cmpR op_eq (pv 4) pe_int (nomark _)) (pa_cons (pe_cmpR op_eq (pv 4) pe_int (nomark _)) (pa_cons (pe_cmpR op_eq (pv 4) pe_int (nomark _)) (pa_cons pe_bl (pa_cons pe_bl (pa_cons pe_bl pa_nil)))))))))))
  (pss_mid (ps_if (PW.pt (pw_or (pt_not (pt_val (cal G.like G_like (hr.mono (by decide)) (pa_cons (cal G.fields G_fields (hr.mono (by decide)) (pa_cons (pv 4) (pa_cons (pv 9) pa_nil))) (pa_cons (pv 8) pa_nil))))) (pw_or1 (pt_not (pt_val (cal G.like G_like (hr.mono (by decide)) (pa_cons (cal G.kinds G_kinds (hr.mono (by decide)) (pa_cons (pv 9) pa_nil)) (pa_cons (pv 10) pa_nil)))))))) (pss_one (ps_ret pe_bl)) pss_nil)
  (pss_mid (ps_set (i := 11) scLaw.nd rfl (by first | exact Or.inl rfl | exact Or.inr rfl) (pe_ifExp (pt_cmpR op_lt (pv 4) pe_int (nomark _)) pe_str (pe_ix ix_list (pe_lst (pa_cons pe_str (pa_cons pe_str pa_nil))) (pe_op op_sub (pv 4) pe_int) (fun _ _ => rfl))))
  (pss_mid (ps_if (pt_not (pt_val (cal G.like G_like (hr.mono (by decide)) (pa_cons (cal G.caught G_caught (hr.mono (by decide)) (pa_cons (pv 4) (pa_cons (pe_ix ix_seq (pv 5) pe_int (fun _ _ => rfl)) (pa_cons (pe_ix ix_seq (pv 5) pe_int (fun _ _ => rfl)) (pa_cons (pe_ix ix_seq (pv 5) pe_int (fun _ _ => rfl)) pa_nil))))) (pa_cons (pe_lst (pa_cons (pv 11) (pa_cons (pv 8) pa_nil))) pa_nil))))) (pss_one (ps_ret pe_bl)) pss_nil)
  (pss_one (ps_expr (pe_bm PySem.F.plainAttrs_list PySem.F.slot_list_append PySem.F.type_list_append mt_append (pv 3) (pa_cons (pe_tup (pa_cons (pv 4) (pa_cons (pv 9) (pa_cons (pv 8) pa_nil)))) pa_nil))))))))))))))
 (pss_mid (ps_for PassesOwn.never rfl (pi_list (pv 3)) (pg_tup rfl (pgs_cons (pg_name (i := 4) scLaw.nd rfl (by first | exact Or.inl rfl | exact Or.inr rfl)) (pgs_cons (pg_name (i := 9) scLaw.nd rfl (by first | exact Or.inl rfl | exact Or.inr rfl)) (pgs_cons (pg_name (i := 8) scLaw.nd rfl (by first | exact Or.inl rfl | exact Or.inr rfl)) pgs_nil))))
  (pss_one (ps_if (pt_not (pt_val (cal G.like G_like (hr.mono (by decide)) (pa_cons (cal G.fields G_fields (hr.mono (by decide)) (pa_cons (pv 4) (pa_cons (pv 9) pa_nil))) (pa_cons (pv 8) pa_nil))))) (pss_one (ps_ret pe_bl)) pss_nil)))
 (pss_mid (ps_for PassesOwn.never rfl (pi_range1 rfl T.range (pa_cons pe_int pa_nil)) (pg_name (i := 6) scLaw.nd rfl (Or.inl rfl))
  (pss_cons (ps_set (i := 12) scLaw.nd rfl (by first | exact Or.inl rfl | exact Or.inr rfl) (cal G.asked G_asked (hr.mono (by decide)) (pa_cons (pv 1) pa_nil)))
  (pss_one (ps_if (pt_not (pt_val (cal G.like G_like (hr.mono (by decide)) (pa_cons (cal G.name G_name (hr.mono (by decide)) (pa_cons (pv 12) pa_nil)) (pa_cons (cal G.named G_named (hr.mono (by decide)) (pa_cons (pv 12) pa_nil)) pa_nil))))) (pss_one (ps_ret pe_bl)) pss_nil))))
 (pss_one (ps_ret (cal G.like G_like (hr.mono (by decide)) (pa_cons (pe_lst (pa_cons (pe_callKO G_name (hr.mono (by decide)) rfl G.name.g G.name.fn.kp (kb_name G.name.fn) pass0 (pk_cons pe_str pk_nil)) (pa_cons (pe_callKO G_name (hr.mono (by decide)) rfl G.name.g G.name.fn.kp (kb_name G.name.fn) pass0 (pk_cons pe_str pk_nil)) (pa_cons (pe_callKO G_name (hr.mono (by decide)) rfl G.name.g G.name.fn.kp (kb_name G.name.fn) pass0 (pk_cons (pe_ix ix_seq (pe_ix ix_seq (pv 3) pe_int (fun _ _ => rfl)) pe_int (fun _ _ => rfl)) pk_nil)) pa_nil)))) (pa_cons (pe_lst (pa_cons pe_bl (pa_cons pe_bl (pa_cons pe_bl pa_nil)))) pa_nil)))))))))), ?_⟩
    refine ⟨_, rfl, sc, ns, rfl, hS, hlen, fun B H1 s1 hB nb nl => ⟨(by show 9 ≤ sizeLine; decide), fun wd hwd => ⟨Nat.zero_le _, fun md hmd => ?_⟩⟩⟩
    have nwb : wd ≠ B.b := (hB.away hwd).1
    have gK1 : Go B H1 (upd H1 wd (.lst wdL)) := (Go.refl hB).new hwd
    have hK1 : BagAt B (upd H1 wd (.lst wdL)) := gK1.bag
    have eW : upd H1 wd (.lst wdL) wd = some (.lst wdL) := upd_same
    generalize upd H1 wd (.lst wdL) = K1 at hmd gK1 hK1 eW ⊢
    have nmb : md ≠ B.b := (hK1.away hmd).1
    have nwm : wd ≠ md := ne_of_none eW hmd
    have hKz : BagAt B (upd K1 md (.lst [])) := ((Go.refl hK1).new hmd).bag
    have hb : upd K1 md (.lst []) B.b ≠ none := hKz.has
    have eM : upd K1 md (.lst []) md = some (.lst []) := upd_same
    have hm : upd K1 md (.lst []) md ≠ none := by rw [eM]; exact Option.some_ne_none _
    have gKz : Go B K1 (upd K1 md (.lst [])) := (Go.refl hK1).new hmd
    have uKz : Up K1 (upd K1 md (.lst [])) := gKz.up hK1
    have zUp : ∀ {H2 : Hp} {o : HO}, Go B K1 H2 → H2 md = some o → Up (upd K1 md (.lst [])) H2 := fun g e a h => by
      have na : a ≠ md := fun z => by rw [z, e] at h; cases h
      rw [upd_ne na]
      exact g.up hK1 a h
    generalize upd K1 md (.lst []) = Kz at hKz hb eM hm gKz uKz zUp ⊢
    -- the order of the kinds
    refine ⟨fun σ' H' => ∃ (x4 x5 x6 x7 x8 x9 x10 x11 : Option V) (ts : List V), σ' = [some (.ref sc), some (.ref B.b), some (.ref wd), some (.ref md), x4, x5, x6, x7, x8, x9, x10, x11, none] ∧ Go B K1 H' ∧ H' md = some (.lst ts) ∧ ts.length = 9 ∧ ∀ t ∈ ts, Item (dif Kz H') c t, ?_, ?_⟩
    · refine ⟨_, rfl, 9, rfl, RgOk.of_le (by decide) (by decide) (by decide) (by decide), fun q1 hq1 => ⟨B, q1, (List.range 9).map (fun i : Nat => (0 + i : Int)), rfl, ?_, ?_, ?_, by decide, fun q0 ms H2 hms lms g2 hq0 eq0 => ?_⟩⟩
      · exact (hKz.put (hKz.away hq1).1 (hKz.away hq1).2)
      · rw [upd_same]
        rfl
      · exact (hKz.away hq1).1
      have gq : Go B Kz (upd Kz q1 (.lst (rgV 0 9))) := (Go.refl hKz).new hq1
      have g2' : Go B Kz H2 := gq.trans g2
      have lms9 : ms.length = 9 := by rw [lms]; rfl
      have nqb : q0 ≠ B.b := (gq.bag.away hq0).1
      have nqm : q0 ≠ md := fun z => by
        rw [z, upd_ne (ne_of_none eM hq1), eM] at hq0
        cases hq0
      have h29 : ∀ y ∈ ms, ∃ j : Nat, y = (j : Int) ∧ j < 9 := fun y hy => by
        obtain ⟨j, hj, e⟩ := List.mem_map.mp (hms y hy)
        exact ⟨j, by rw [← e, Int.zero_add], List.mem_range.mp hj⟩
      refine ⟨q0, rfl, ⟨_, SqL.of eq0⟩, for_list (K := K) (a := q0) (xs := ms.map V.int) (fun i σ H' => ∃ (x4 x5 x6 x7 x8 x9 x10 x11 : Option V) (ts : List V), σ = [some (.ref sc), some (.ref B.b), some (.ref wd), some (.ref md), x4, x5, x6, x7, x8, x9, x10, x11, none] ∧ Go B K1 H' ∧ H' q0 = some (.lst (ms.map V.int)) ∧ H' md = some (.lst ts) ∧ ts.length = i ∧ ∀ t ∈ ts, Item (dif Kz H') c t)
        ⟨none, none, none, none, none, none, none, none, [], rfl, gKz.trans g2', eq0, g2'.keep hKz nmb eM, rfl, fun _ h => by simp at h⟩ (fun i σ H' _ h => ?_) ?_ ?_⟩
      · obtain ⟨_, _, _, _, _, _, _, _, _, _, _, e, _⟩ := h
        exact SqL.of e
      · rintro i y σ H3 hi ⟨x4, x5, x6, x7, x8, x9, x10, x11, ts, rfl, g3, e3q, e3m, l3, i3⟩
        obtain ⟨j, rfl, hj⟩ : ∃ j : Nat, y = V.int j ∧ j < 9 := by
          obtain ⟨n, hn, rfl⟩ := List.mem_map.mp (List.mem_of_getElem? hi)
          obtain ⟨j, rfl, hj⟩ := h29 n hn
          exact ⟨j, rfl, hj⟩
        have u3 : Up Kz H3 := zUp g3 e3m
        have w3 : H3 wd = some (.lst wdL) := g3.keep hK1 nwb eW
        refine ⟨fun σ' H' => ∃ (x y z : V) (rw : Addr), σ' = [some (.ref sc), some (.ref B.b), some (.ref wd), some (.ref md), some (.int j), some (.ref rw), x6, x7, x8, x9, x10, x11, none] ∧ Go B H3 H' ∧ dif Kz H' rw = some (.lst [x, y, z]) ∧ Tri (dif Kz H') x y z, ?_, ?_⟩
        · refine ⟨_, rfl, by decide, by decide, fun Da hDa => ?_⟩
          have hDb : Da ≠ B.b := (g3.bag.away hDa).1
          have uKd : Up Kz (upd H3 Da (.lst [])) := u3.upd
          have gD : Go B H3 (upd H3 Da (.lst [])) := (Go.refl g3.bag).new hDa
          have hDk : upd H3 Da (.lst []) Da ≠ none := by rw [upd_same]; exact Option.some_ne_none _
          refine lc_range (lo := 0) (n := 3) (fun i H4 => Go B H3 H4 ∧ Up (upd H3 Da (.lst [])) H4 ∧ ∃ ys : List V, H4 Da = some (.lst ys) ∧ ys.length = i ∧ ∀ y ∈ ys, Nice (upd H3 Da (.lst [])) H4 3 y) ⟨gD, Up.refl _, [], upd_same, rfl, fun _ h => by simp at h⟩ ?_ ?_
          · rintro i H4 hi4 ⟨g4, u4, ys, e4, l4, o4⟩
            refine ⟨rfl, _, rfl, B, 3, rfl, rfl, g4.bag, fun v H5 nv g5 => ?_⟩
            refine ⟨ys, g5.keep g4.bag hDb e4, by rw [sizeLine_eq]; omega, (g4.trans g5).turn g3.bag hDa, (u4.trans (g5.up g4.bag)).upd, ys ++ [v], upd_same, by rw [List.length_append, l4]; rfl, fun y hy => ?_⟩
            rcases List.mem_append.mp hy with h | h
            · exact ((o4 y h).go gD.bag.has g5).turn hDk
            · rw [List.mem_singleton.mp h]
              exact (nv.back u4).turn hDk
          · rintro H4 ⟨g4, u4, ys, e4, l4, o4⟩
            obtain ⟨x, y, z, rfl⟩ : ∃ x y z, ys = [x, y, z] := by
              match ys, l4 with
              | [x, y, z], _ => exact ⟨x, y, z, rfl⟩
            have o5 : ∀ v ∈ [x, y, z], Nice Kz H4 3 v := fun v hv => (o4 v hv).back uKd
            exact ⟨x, y, z, Da, rfl, g4, dif_of (u3 _ hDa) e4, ⟨o5 x (by simp), o5 y (by simp), o5 z (by simp)⟩⟩
        rintro σa H4 ⟨x, y, z, rw, rfl, g4, eR, tri⟩
        have w4 : H4 wd = some (.lst wdL) := g4.keep g3.bag nwb w3
        have r4 : H4 rw = some (.lst [x, y, z]) := dif_in _ _ eR
        have rk : Kz rw = none := (of_dif eR).1
        have rb : rw ≠ B.b := fun z => hb (z ▸ rk)
        -- size = [..][pick]
        refine ⟨(by show 9 ≤ sizeLine; decide), fun sl hsl => ⟨_, rfl, sl, szL, j, _, rfl, rfl, SqL.of upd_same, at_sz hj, ?_⟩⟩
        have sS : Same H4 (upd H4 sl (.lst szL)) := same_new hsl
        have gS : Go B H4 (upd H4 sl (.lst szL)) := (Go.refl g4.bag).new hsl
        -- due = row[:size] + [words[pick]]
        refine ⟨fun σ' H' => ∃ du : Addr, σ' = [some (.ref sc), some (.ref B.b), some (.ref wd), some (.ref md), some (.int j), some (.ref rw), x6, some (.int (szN j)), some (.ref du), x9, x10, x11, none] ∧ Go B H4 H' ∧ dif Kz H' du = some (.lst (duOf x y z j)), ?_, ?_⟩
        · refine ⟨_, rfl, _, rfl, _, rfl, rw, _, rfl, SqL.of (sS _ _ r4), fun s1 hs1 => ?_⟩
          have s5 := Same.trans sS (same_new (o := .lst (cutV [x, y, z] none (some (szN j)))) hs1)
          refine ⟨_, rfl, _, rfl, .inl ⟨wd, wdL, j, _, rfl, rfl, SqL.of (s5 _ _ w4), at_wd hj, (by show 1 ≤ sizeLine; decide), fun s2 hs2 => ?_⟩⟩
          have s6 := Same.trans s5 (same_new (o := .lst [.str (cdOf j)]) hs2)
          refine ⟨s1, s2, _, _, rfl, rfl, by rw [upd_ne (ne_of_none upd_same hs2)]; exact upd_same, upd_same, ?_, fun du hdu => ?_⟩
          · have := cutV_length [x, y, z] none (some (szN j))
            rw [sizeLine_eq]
            show _ + 1 ≤ _
            have : [x, y, z].length = 3 := rfl
            omega
          have s7 := Same.trans s6 (same_new (o := .lst (cutV [x, y, z] none (some (szN j)) ++ [.str (cdOf j)])) hdu)
          have g7 := go_same g4.bag s7
          refine ⟨du, rfl, g7, dif_of ?_ ?_⟩
          · exact u3 _ (g4.free g3.bag (sN s6 hdu))
          · rw [← cut_row hj]
            exact upd_same
        rintro σb H5 ⟨du, rfl, g5, eU⟩
        have dk : Kz du = none := (of_dif eU).1
        have db : du ≠ B.b := fun z => hb (z ▸ dk)
        have w5 : H5 wd = some (.lst wdL) := g5.keep g4.bag nwb w4
        have d45 := dif_go hb g5
        have r5 : dif Kz H5 rw = some (.lst [x, y, z]) := d45 _ _ eR
        have t5 := tri.mono d45
        -- one = _law_made(..)
        refine ⟨fun σ' H' => ∃ ao : Addr, σ' = [some (.ref sc), some (.ref B.b), some (.ref wd), some (.ref md), some (.int j), some (.ref rw), x6, some (.int (szN j)), some (.ref du), some (.ref ao), x10, x11, none] ∧ Go B H5 H' ∧ ExAt (dif Kz H') ao (c.C j) (fOf x y z j), ?_, ?_⟩
        · refine ⟨_, rfl, _, rfl, B, _, rfl, g5.bag, by decide, by decide, fun d H6 d0 d1 g6 => ?_⟩
          have r6 : H6 rw = some (.lst [x, y, z]) := g6.keep g5.bag rb (dif_in _ _ r5)
          refine ⟨_, rfl, .inl ⟨rw, _, 0, x, rfl, rfl, SqL.of r6, rfl, ?_⟩⟩
          refine ⟨_, rfl, .inl ⟨rw, _, 1, y, rfl, rfl, SqL.of r6, rfl, ?_⟩⟩
          refine ⟨_, rfl, .inl ⟨rw, _, 2, z, rfl, rfl, SqL.of r6, rfl, ?_⟩⟩
          refine ⟨j, d, x, y, z, rfl, hj, fun ao H7 ha s7 e7 => ⟨ao, rfl, g6.trans (go_same g6.bag s7), e7.mono fun b o h => ?_⟩⟩
          obtain ⟨h1, h2⟩ := of_dif h
          exact dif_of (u3 _ (g4.free g3.bag (g5.free g4.bag (g6.free g5.bag h1)))) h2
        rintro σc H6 ⟨ao, rfl, g6, eX⟩
        have d56 := dif_go hb g6
        have w6 : H6 wd = some (.lst wdL) := g6.keep g5.bag nwb w5
        -- kinds
        refine ⟨_, rfl, by decide, by decide, fun Db hDb => ?_⟩
        refine lc_range (lo := 0) (n := 9) (fun i H7 => Same H6 H7 ∧ H7 Db = some (.lst ((List.range i).map fun k => V.bl (decide (k = j))))) ⟨same_new hDb, upd_same⟩ ?_ ?_
        · rintro i H7 hi7 ⟨s7, e7⟩
          have w7 := s7 _ _ w6
          refine ⟨rfl, _, rfl, _, rfl, .inl ⟨wd, wdL, _, _, rfl, rfl, SqL.of w7, (by rw [Int.zero_add]; exact at_wd hi7), _, rfl, _, rfl, .inl ⟨wd, wdL, j, _, rfl, rfl, SqL.of w7, at_wd hj, rfl, ?_⟩⟩⟩
          refine ⟨_, e7, by rw [List.length_map, List.length_range, sizeLine_eq]; omega, fun a o h => ?_, ?_⟩
          · rw [upd_ne (ne_of_none h hDb)]
            exact s7 a o h
          · rw [upd_same, List.range_succ, List.map_append, wd_eq' hi7 hj]
            rfl
        rintro H7 ⟨s7, e7⟩
        refine ⟨fun σ' H' => ∃ kd : Addr, σ' = [some (.ref sc), some (.ref B.b), some (.ref wd), some (.ref md), some (.int j), some (.ref rw), x6, some (.int (szN j)), some (.ref du), some (.ref ao), some (.ref kd), x11, none] ∧ Same H6 H' ∧ H' kd = some (.lst ((kdOf j).map V.bl)), ?_, ?_⟩
        · refine ⟨_, rfl, _, rfl, _, _, rfl, rfl, _, rfl, _, _, rfl, rfl, _, rfl, rfl, _, rfl, rfl, _, rfl, rfl, (by show 8 ≤ sizeLine; decide), fun k2 hk2 => ?_⟩
          have s8 := Same.trans s7 (same_new (o := .lst [V.bl (decide ((j : Int) < 7)), V.bl (decide ((j : Int) < 7)), V.bl (decide (V.int (j : Nat) = V.int 7)), V.bl (decide (V.int (j : Nat) = V.int 7)), V.bl (decide (V.int (j : Nat) = V.int 8)), V.bl false, V.bl false, V.bl false]) hk2)
          refine ⟨Db, k2, _, _, rfl, rfl, by rw [upd_ne (ne_of_none e7 hk2)]; exact e7, upd_same, ?_, fun kd hkd => ?_⟩
          · rw [List.length_map, List.length_range, sizeLine_eq]
            show 9 + 8 ≤ _
            omega
          refine ⟨kd, rfl, Same.trans s8 (same_new hkd), ?_⟩
          rw [upd_same]
          exact congrArg (fun l => some (HO.lst l)) (kd_eq hj)
        rintro σd H8 ⟨kd, rfl, s8, eK⟩
        have g8 := g6.trans (go_same g6.bag s8)
        have d58 := dif_go hb g8
        have dsub : Same (dif Kz H8) H8 := dif_in
        have t8 : Tri (dif Kz H8) x y z := t5.mono d58
        have u8 := dsub _ _ (d58 _ _ eU)
        have x8e : ExAt H8 ao (c.C j) (fOf x y z j) := (eX.mono (dif_go hb (go_same g6.bag s8))).mono dsub
        -- the attributes and the classes
        refine ⟨fun σ' H' => σ' = [some (.ref sc), some (.ref B.b), some (.ref wd), some (.ref md), some (.int j), some (.ref rw), x6, some (.int (szN j)), some (.ref du), some (.ref ao), some (.ref kd), x11, none] ∧ Same H8 H', ?_, ?_⟩
        · refine ⟨_, rfl, _, rfl, j, ao, x, y, z, rfl, hj, x8e, fun l hl => ⟨_, rfl, _, _, rfl, (sim_ll upd_same (same_new hl _ _ u8) du_len fun v hv => (t8.du j v hv).mono (rd_same (Same.trans dsub (same_new hl)))).up (by decide), fun H9 s9 => ⟨_, rfl, ?_⟩⟩⟩
          refine iteF ?_
          have s89 := Same.trans (same_new (o := .lst (duOf x y z j)) hl) s9
          refine ⟨_, rfl, j, ao, _, rfl, hj, x8e.mono s89, fun l2 H10 hl2 s10 e10 => ⟨_, rfl, _, _, rfl, (sim_kd e10 (s10 _ _ (s89 _ _ eK))).up (by decide), fun H11 s11 => ⟨_, rfl, ?_⟩⟩⟩
          exact ⟨rfl, Same.trans s89 (Same.trans s10 s11)⟩
        rintro σe H9 ⟨rfl, s9⟩
        -- base
        refine ⟨fun σ' H' => σ' = [some (.ref sc), some (.ref B.b), some (.ref wd), some (.ref md), some (.int j), some (.ref rw), x6, some (.int (szN j)), some (.ref du), some (.ref ao), some (.ref kd), some (.str (bsOf j)), none] ∧ Same H9 H', ?_, ?_⟩
        · refine ⟨_, rfl, _, _, rfl, rfl, _, rfl, ite2 (fun c1 => ?_) (fun c1 => ?_)⟩
          · have c1 := of_decide_eq_true c1
            refine ⟨?_, Same.refl _⟩
            rw [bsOf, if_pos (by omega)]
            rfl
          · have c1 : ¬ j < 7 := fun h => c1 (decide_eq_true (by omega))
            refine ⟨(by show 2 ≤ sizeLine; decide), fun l hl => ⟨_, rfl, _, _, rfl, rfl, l, _, _, _, rfl, rfl, SqL.of upd_same, (?_ : atI [V.str "Absent", V.str "Ended"] ((j : Int) - 7) = some (V.str (bsOf j))), rfl, same_new hl⟩⟩
            obtain rfl | rfl : j = 7 ∨ j = 8 := by omega
            · rfl
            · rfl
        rintro σf H10 ⟨rfl, s10⟩
        have s810 := Same.trans s9 s10
        have g10 := g8.trans (go_same g8.bag s810)
        have gR := g5.trans g10
        have d10 := dif_go hb (go_same g8.bag s810)
        have r10 : H10 rw = some (.lst [x, y, z]) := s810 _ _ (dsub _ _ (d58 _ _ r5))
        have t10 : Tri (dif Kz H10) x y z := t8.mono d10
        have e10 : dif Kz H10 du = some (.lst (duOf x y z j)) := d10 _ _ (d58 _ _ eU)
        have x10e : ExAt (dif Kz H10) ao (c.C j) (fOf x y z j) := (eX.mono (dif_go hb (go_same g6.bag s8))).mono d10
        -- _law_caught
        refine ⟨fun σ' H' => σ' = [some (.ref sc), some (.ref B.b), some (.ref wd), some (.ref md), some (.int j), some (.ref rw), x6, some (.int (szN j)), some (.ref du), some (.ref ao), some (.ref kd), some (.str (bsOf j)), none] ∧ Same H10 H', ?_, ?_⟩
        · refine ⟨_, rfl, _, rfl, .inl ⟨rw, _, 0, x, rfl, rfl, SqL.of r10, rfl, ?_⟩⟩
          refine ⟨_, rfl, .inl ⟨rw, _, 1, y, rfl, rfl, SqL.of r10, rfl, ?_⟩⟩
          refine ⟨_, rfl, .inl ⟨rw, _, 2, z, rfl, rfl, SqL.of r10, rfl, ?_⟩⟩
          refine ⟨j, x, y, z, rfl, hj, fun l l2 H11 hl hl2 hne s11 el el2 => ?_⟩
          refine ⟨_, rfl, _, rfl, (by show 2 ≤ sizeLine; decide), fun q hq => ?_⟩
          have s12 := same_new (o := .lst [.str (bsOf j), .ref du]) hq
          have sM : Same (dif Kz H10) (upd H11 q (.lst [.str (bsOf j), .ref du])) := Same.trans dif_in (Same.trans s11 s12)
          refine ⟨_, _, rfl, sim_told (t10.mono sM) (s12 _ _ el) (s12 _ _ el2) upd_same (sM _ _ e10), fun H12 s13 => ⟨_, rfl, ?_⟩⟩
          exact ⟨rfl, Same.trans s11 (Same.trans s12 s13)⟩
        rintro σg H11 ⟨rfl, s11⟩
        -- made.append((pick, one, due))
        have g11 : Go B H3 H11 := g4.trans (gR.trans (go_same gR.bag s11))
        have m11 : H11 md = some (.lst ts) := g11.keep g3.bag nmb e3m
        have d11 := dif_go hb (go_same g10.bag s11)
        have d311 := dif_go hb g11
        refine ⟨_, rfl, tyL m11, _, rfl, _, rfl, _, rfl, (by show 3 ≤ sizeLine; decide), fun tp htp => ⟨md, ts, _, rfl, rfl, same_new htp _ _ m11, ?_, ?_⟩⟩
        · have := (List.getElem?_eq_some_iff.mp hi).1
          rw [List.length_map] at this
          rw [sizeLine_eq]
          omega
        have s12 := same_new (o := .tup [.int j, .ref ao, .ref du]) htp
        have gT : Go B H11 (upd H11 tp (.tup [.int j, .ref ao, .ref du])) := (Go.refl g11.bag).new htp
        have dT := dif_go hb gT
        have d12 := dif_turn (Kz := Kz) (H := upd H11 tp (.tup [.int j, .ref ao, .ref du])) (o := .lst (ts ++ [.ref tp])) hm
        have dall := Same.trans dT d12
        have hm1 : K1 md = none := hmd
        refine ⟨some (.int j), some (.ref rw), x6, some (.int (szN j)), some (.ref du), some (.ref ao), some (.ref kd), some (.str (bsOf j)), ts ++ [.ref tp], rfl, (g3.trans (g11.trans gT)).turn hK1 hm1, ?_, upd_same, by rw [List.length_append, l3]; rfl, fun t ht => ?_⟩
        · rw [upd_ne nqm]
          exact s12 _ _ (g11.keep g3.bag nqb e3q)
        · rcases List.mem_append.mp ht with h | h
          · exact (i3 t h).mono (Same.trans d311 dall)
          · rw [List.mem_singleton.mp h]
            refine ⟨j, ao, tp, du, x, y, z, rfl, hj, d12 _ _ (dif_of (zUp (g3.trans g11) m11 _ htp) upd_same), x10e.mono (Same.trans d11 dall), dall _ _ (d11 _ _ e10), t10.mono (Same.trans d11 dall)⟩
      · rintro σ H3 ⟨x4, x5, x6, x7, x8, x9, x10, x11, ts, rfl, g3, e3q, e3m, l3, i3⟩
        exact ⟨x4, x5, x6, x7, x8, x9, x10, x11, ts, rfl, g3, e3m, by rw [l3, List.length_map, lms9], i3⟩
    · rintro σ1 H2 ⟨x4, x5, x6, x7, x8, x9, x10, x11, ts, rfl, g2, e2m, l2, i2⟩
      refine ⟨fun σ' H' => ∃ (x4 x5 x6 x7 x8 x9 x10 x11 : Option V), σ' = [some (.ref sc), some (.ref B.b), some (.ref wd), some (.ref md), x4, x5, x6, x7, x8, x9, x10, x11, none] ∧ Go B H2 H', ?_, ?_⟩
      · refine ⟨_, rfl, md, rfl, ⟨_, SqL.of e2m⟩, for_list (K := K) (a := md) (xs := ts) (fun i σ H' => ∃ (x4 x5 x6 x7 x8 x9 x10 x11 : Option V), σ = [some (.ref sc), some (.ref B.b), some (.ref wd), some (.ref md), x4, x5, x6, x7, x8, x9, x10, x11, none] ∧ Go B H2 H')
          ⟨_, _, _, _, _, _, _, _, rfl, Go.refl g2.bag⟩ (fun i σ H' _ h => ?_) ?_ ?_⟩
        · obtain ⟨_, _, _, _, _, _, _, _, _, g⟩ := h
          exact SqL.of (g.keep g2.bag nmb e2m)
        · rintro i t σ H3 hi ⟨x4, x5, x6, x7, x8, x9, x10, x11, rfl, g3⟩
          obtain ⟨j, a, p, q, x, y, z, rfl, hj, e1, ex, e2, tri⟩ := ((i2 t (List.mem_of_getElem? hi)).mono (dif_go hb g3)).ex
          have u3 := dif_in _ _ e2
          refine ⟨p, _, rfl, SqT.of (dif_in _ _ e1), rfl, _, _, rfl, _, _, rfl, _, _, rfl, rfl, ?_⟩
          refine ⟨_, rfl, _, rfl, j, a, x, y, z, rfl, hj, ex.mono dif_in, fun l hl => ⟨_, rfl, _, _, rfl, (sim_ll upd_same (same_new hl _ _ u3) du_len fun v hv => (tri.du j v hv).mono (rd_same (Same.trans dif_in (same_new hl)))).up (by decide), fun H9 s9 => ⟨_, rfl, ?_⟩⟩⟩
          refine iteF ?_
          exact ⟨_, _, _, _, _, _, _, _, rfl, g3.trans (go_same g3.bag (Same.trans (same_new hl) s9))⟩
        · rintro σ H3 ⟨x4, x5, x6, x7, x8, x9, x10, x11, rfl, g3⟩
          exact ⟨_, _, _, _, _, _, _, _, rfl, g3⟩
      rintro σ2 H3 ⟨x4, x5, x6, x7, x8, x9, x10, x11, rfl, g3⟩
      refine ⟨fun σ' H' => ∃ (x4 x5 x6 x7 x8 x9 x10 x11 x12 : Option V), σ' = [some (.ref sc), some (.ref B.b), some (.ref wd), some (.ref md), x4, x5, x6, x7, x8, x9, x10, x11, x12] ∧ Go B H3 H', ?_, ?_⟩
      · refine ⟨_, rfl, by decide, by decide, for_range (n := 30) (fun i σ H' => ∃ (x4 x5 x6 x7 x8 x9 x10 x11 x12 : Option V), σ = [some (.ref sc), some (.ref B.b), some (.ref wd), some (.ref md), x4, x5, x6, x7, x8, x9, x10, x11, x12] ∧ Go B H3 H') ⟨_, _, _, _, _, _, _, _, _, rfl, Go.refl g3.bag⟩ ?_ ?_⟩
        · rintro i σ H4 hi ⟨x4, x5, x6, x7, x8, x9, x10, x11, x12, rfl, g4⟩
          refine ⟨_, rfl, B, rfl, g4.bag, fun v H5 nv g5 => ?_⟩
          have sv : Sim H5 2 v v := nv.mono (rd_same dif_in)
          refine ⟨_, rfl, v, rfl, .inl ⟨2, H5, sv, Same.refl _⟩, fun H6 s6 => ?_⟩
          refine ⟨_, rfl, 2, H5, v, rfl, sv, s6, fun H7 s7 => ?_⟩
          refine ⟨_, _, rfl, .bl _, fun H8 s8 => ⟨_, rfl, ?_⟩⟩
          refine iteF ?_
          exact ⟨_, _, _, _, _, _, _, _, _, rfl, g4.trans (g5.trans (go_same g5.bag (Same.trans s6 (Same.trans s7 s8))))⟩
        · rintro σ H4 ⟨x4, x5, x6, x7, x8, x9, x10, x11, x12, rfl, g4⟩
          exact ⟨_, _, _, _, _, _, _, _, _, rfl, g4⟩
      rintro σ3 H4 ⟨x4, x5, x6, x7, x8, x9, x10, x11, x12, rfl, g4⟩
      have g24 := g3.trans g4
      have m4 : H4 md = some (.lst ts) := g24.keep g2.bag nmb e2m
      obtain ⟨t, ht⟩ : ∃ t, ts[0]? = some t := ⟨_, List.getElem?_eq_getElem (by omega)⟩
      obtain ⟨j, a, p, q, x, y, z, rfl, hj, e1, ex, e2, tri⟩ := ((i2 t (List.mem_of_getElem? ht)).mono (dif_go hb g24)).ex
      obtain ⟨newId, tl, TX⟩ := D.ec hj
      refine ⟨_, rfl, .inl ⟨0, H4, .str "a9" (by decide +kernel), Same.refl _⟩, fun H5 s5 => ?_⟩
      refine ⟨_, rfl, .inl ⟨0, H4, .str "9a" (by decide +kernel), s5⟩, fun H6 s6 => ?_⟩
      have s46 := Same.trans s5 s6
      refine ⟨_, rfl, .inl ⟨md, ts, 0, _, rfl, rfl, SqL.of (s46 _ _ m4), (atI_nat (j := 0) ht : atI _ ((0 : Nat) : Int) = _), ?_⟩⟩
      have n1 : nameV (.str "a9") = true := by decide +kernel
      have n2 : nameV (.str "9a") = false := by decide +kernel
      refine .inr (.inl ⟨p, _, 1, .ref a, rfl, rfl, SqT.of (s46 _ _ (dif_in _ _ e1)), rfl, ?_⟩)
      refine ⟨_, rfl, .inr ⟨a, c.C j, _, newId, tl, rfl, (ex.mono dif_in).mono s46, TX, S.is, S.kstr j hj⟩, fun H7 s7 => ?_⟩
      refine ⟨(by show 3 ≤ sizeLine; decide), fun l hl => ⟨(by show 3 ≤ sizeLine; decide), fun l2 hl2 => ?_⟩⟩
      refine ⟨_, _, rfl, (sim_ll (n := 0) (xs := [.bl true, .bl false, .bl false]) ?_ upd_same (by show 3 ≤ 1000; decide) fun v hv => ?_).up (by decide), fun H8 s8 => k H8⟩
      · rw [upd_ne (ne_of_none upd_same hl2), upd_same, n1, n2]
        rfl
      · simp only [List.mem_cons, List.not_mem_nil, or_false] at hv
        rcases hv with rfl | rfl | rfl <;> exact .bl _
end
end Lw
namespace Lw
open PySem PySem.Spec PyProof.Rows L2 XV
/-- what the written part must say of an own exception class -/
def clOk (K : PySem.W.Frag) (C f : Addr) (tl : List Value) (newId : String) (ns : List Str) : Bool :=
  PySem.W.excInitIn K C tl newId && (PySem.W.excOver K C tl && (PySem.W.hasDictIn K C && (PySem.W.findIn K (.ref C) "__setattr__" == some (some (.builtin "object.__setattr__")) && (PySem.W.findIn K (.ref C) "__getattribute__" == some (some (.builtin "BaseException.__getattribute__")) &&
  (PySem.W.findIn K (.ref C) "__getattr__" == some none && (PySem.W.subIn K (.ref C) (.type "BaseException") == some true && (PySem.W.typeIn K (.ref C) == some (.type "type") && (PySem.W.keepIn K (.ref C) && (PySem.W.findIn K (.ref C) "__class__" == some (some (.builtin "object.__class__")) &&
  (PySem.W.mroIn K C (.type "object") == some true && (PySem.W.typeIn K (.ref f) == some (.type "function") && ("code" :: ns : List Str).all fun x => PySem.W.findIn K (.ref C) x == some none)))))))))))
theorem xc_of {K : PySem.W.Frag} {mg : Str → Option Value} {nm qn : Str} {newId : String} {tl : List Value} {st : Stmt} {ns : List Str} {C f : Addr} {fd : FuncData} (h : clOk K C f tl newId ns = true) (iC : PySem.W.findIn K (.ref C) "__init__" = some (some (.ref f))) (F : Fun K "__init__" qn st f fd)
    (bd : Binds K fd ("self" :: ns) []) (g : mg nm = some (.ref C)) : XC K mg nm qn newId tl st ns C f fd := by
  simp only [clOk, Bool.and_eq_true, beq_iff_eq, List.all_eq_true] at h
  obtain ⟨h1, h2, h3, h4, h5, h6, h7, h8, h9, h10, h11, h12, h13⟩ := h
  exact ⟨⟨h1, h2, h3, h4, h5, h6, h7, h8, h9, h10, h11⟩, iC, h12, F, bd, g, h13⟩
/-- what it must say of isinstance and of the clauses -/
def ktOk (K : PySem.W.Frag) (Cs : Nat → Addr) (cB cA : Addr) : Bool :=
  PySem.W.specialIn K (.builtin "object.__class__") "__get__" == some (some (.builtin "getset_descriptor.__get__")) && (PySem.W.takesIn K (.builtin "object.__class__") == some true &&
  (List.range 9).all fun i => (List.range 9).all (fun j => PySem.W.kitOne K (.ref (Cs i)) (.ref (Cs j)) == some (decide (j = i))) &&
  (PySem.W.kitOne K (.ref (Cs i)) (.ref cB) == some (decide (i < 7)) && (PySem.W.kitOne K (.ref (Cs i)) (.type "ValueError") == some (decide (i < 7)) && (PySem.W.kitOne K (.ref (Cs i)) (.ref cA) == some (decide (i = 7)) && (PySem.W.kitOne K (.ref (Cs i)) (.type "LookupError") == some (decide (i = 7)) &&
  (PySem.W.kitOne K (.ref (Cs i)) (.type "RuntimeError") == some (decide (i = 8)) && (PySem.W.kitOne K (.ref (Cs i)) (.type "KeyError") == some false && (PySem.W.kitOne K (.ref (Cs i)) (.type "IndexError") == some false && (PySem.W.kitOne K (.ref (Cs i)) (.type "TypeError") == some false &&
  (PySem.W.kitOne K (.ref (Cs i)) (.type "str") == some false && (PySem.W.exmOne K (.ref (Cs i)) (.ref cB) == some (decide (i < 7)) && (PySem.W.exmOne K (.ref (Cs i)) (.ref cA) == some (decide (i = 7)) && PySem.W.exmOne K (.ref (Cs i)) (.ref (Cs 8)) == some (decide (i = 8))))))))))))))
/-- the built-in exception names that stand free -/
structure Fx (mg : Str → Option Value) : Prop where
  v : mg "ValueError" = none
  l : mg "LookupError" = none
  r : mg "RuntimeError" = none
  k : mg "KeyError" = none
  i : mg "IndexError" = none
  t : mg "TypeError" = none
theorem kt_of {K : PySem.W.Frag} {mg : Str → Option Value} {c : CA} {cB cA : Addr} (h : ktOk K c.C cB cA = true) (gB : mg "BothleastError" = some (.ref cB)) (gA : mg "Absent" = some (.ref cA)) (X : Fx mg) : Ks K mg c cB cA ∧ Es K c cB cA := by
  simp only [ktOk, Bool.and_eq_true, beq_iff_eq, List.all_eq_true, List.mem_range] at h
  obtain ⟨h1, h2, h3⟩ := h
  exact ⟨⟨⟨h1, h2⟩, fun i j hi hj => (h3 i hi).1 j hj, gB, gA, fun i hi => (h3 i hi).2.1, fun i hi => (h3 i hi).2.2.1, X.v, fun i hi => (h3 i hi).2.2.2.1, fun i hi => (h3 i hi).2.2.2.2.1, X.l, fun i hi => (h3 i hi).2.2.2.2.2.1, X.r, fun i hi => (h3 i hi).2.2.2.2.2.2.1, X.k, fun i hi => (h3 i hi).2.2.2.2.2.2.2.1, X.i,
    fun i hi => (h3 i hi).2.2.2.2.2.2.2.2.1, X.t, fun i hi => (h3 i hi).2.2.2.2.2.2.2.2.2.1⟩, ⟨fun i hi => (h3 i hi).2.2.2.2.2.2.2.2.2.2.1, fun i hi => (h3 i hi).2.2.2.2.2.2.2.2.2.2.2.1, fun i hi => (h3 i hi).2.2.2.2.2.2.2.2.2.2.2.2⟩⟩
theorem all_mk {l : PySem.W.OpenLaw} {w : World} {K : PySem.W.Frag} {h : Heap} {mg : Str → Option Value} {fd0 fd1 fd2 fd3 fd4 fd5 fd6 fd7 fd8 fd9 fd10 fd11 fd12 fd13 fd14 fd15 fx0 fx1 fx2 fx3 fx4 fx5 fx6 fx7 fx8 C0 C1 C2 C3 C4 C5 C6 C7 C8 cB cA fa : Addr} {odd0 and0 odd1 and1 odd2 and2 odd3 and3 odd4 and4 odd5 and5 odd6 and6 odd7 and7 odd8 and8 odd9 and9 odd10 and10 odd11 and11 odd12 and12 odd13 and13 odd14 and14 odd15 and15 odx0 anx0 odx1 anx1 odx2 anx2 odx3 anx3 odx4 anx4 odx5 anx5 odx6 anx6 odx7 anx7 odx8 anx8 : Option Addr} {sld0 sld1 sld2 sld3 sld4 sld5 sld6 sld7 sld8 sld9 sld10 sld11 sld12 sld13 sld14 sld15 slx0 slx1 slx2 slx3 slx4 slx5 slx6 slx7 slx8 : Array (Option Value)} {ocd0 kVd0 dcd0 pmd0 cdd0 ctd0 ocd1 kVd1 dcd1 pmd1 cdd1 ctd1 ocd2 kVd2 dcd2 pmd2 cdd2 ctd2 ocd3 kVd3 dcd3 pmd3 cdd3 ctd3 ocd4 kVd4 dcd4 pmd4 cdd4 ctd4 ocd5 kVd5 dcd5 pmd5 cdd5 ctd5 ocd6 kVd6 dcd6 pmd6 cdd6 ctd6 ocd7 kVd7 dcd7 pmd7 cdd7 ctd7 ocd8 kVd8 dcd8 pmd8 cdd8 ctd8 ocd9 kVd9 dcd9 pmd9 cdd9 ctd9 ocd10 kVd10 dcd10 pmd10 cdd10 ctd10 ocd11 kVd11 dcd11 pmd11 cdd11 ctd11 ocd12 kVd12 dcd12 pmd12 cdd12 ctd12 ocd13 kVd13 dcd13 pmd13 cdd13 ctd13 ocd14 kVd14 dcd14 pmd14 cdd14 ctd14 ocd15 kVd15 dcd15 pmd15 cdd15 ctd15 ocx0 kVx0 dcx0 pmx0 cdx0 ctx0 ocx1 kVx1 dcx1 pmx1 cdx1 ctx1 ocx2 kVx2 dcx2 pmx2 cdx2 ctx2 ocx3 kVx3 dcx3 pmx3 cdx3 ctx3 ocx4 kVx4 dcx4 pmx4 cdx4 ctx4 ocx5 kVx5 dcx5 pmx5 cdx5 ctx5 ocx6 kVx6 dcx6 pmx6 cdx6 ctx6 ocx7 kVx7 dcx7 pmx7 cdx7 ctx7 ocx8 kVx8 dcx8 pmx8 cdx8 ctx8 : Value} {tL tS tN : Tok} (X : K.In h) (G : h.Ns mainGlobals mg) (hfa : mg "law" = some (.ref fa))
    (ad0 : PySem.W.nsIn K mainGlobals "_law_bag" = some (some (.ref fd0)))
    (ld0 : K.lookup fd0 = some ⟨ocd0, odd0, .func (PySem.W.fnOf "_law_bag" "_law_bag" (defArgs sBag) (defBody sBag) (defScope sBag) .none kVd0 dcd0 pmd0 and0 cdd0 ctd0), sld0⟩)
    (cd0 : PySem.W.codeIn K cdd0 "_law_bag" = true)
    (kd0 : PySem.W.keepIn K (.ref fd0) = true)
    (ad1 : PySem.W.nsIn K mainGlobals "_law_mixed" = some (some (.ref fd1)))
    (ld1 : K.lookup fd1 = some ⟨ocd1, odd1, .func (PySem.W.fnOf "_law_mixed" "_law_mixed" (defArgs sMixed) (defBody sMixed) (defScope sMixed) .none kVd1 dcd1 pmd1 and1 cdd1 ctd1), sld1⟩)
    (cd1 : PySem.W.codeIn K cdd1 "_law_mixed" = true)
    (kd1 : PySem.W.keepIn K (.ref fd1) = true)
    (ad2 : PySem.W.nsIn K mainGlobals "_law_value" = some (some (.ref fd2)))
    (ld2 : K.lookup fd2 = some ⟨ocd2, odd2, .func (PySem.W.fnOf "_law_value" "_law_value" (defArgs sValue) (defBody sValue) (defScope sValue) .none kVd2 dcd2 pmd2 and2 cdd2 ctd2), sld2⟩)
    (cd2 : PySem.W.codeIn K cdd2 "_law_value" = true)
    (kd2 : PySem.W.keepIn K (.ref fd2) = true)
    (ad3 : PySem.W.nsIn K mainGlobals "_law_string" = some (some (.ref fd3)))
    (ld3 : K.lookup fd3 = some ⟨ocd3, odd3, .func (PySem.W.fnOf "_law_string" "_law_string" (defArgs sString) (defBody sString) (defScope sString) .none kVd3 dcd3 pmd3 and3 cdd3 ctd3), sld3⟩)
    (cd3 : PySem.W.codeIn K cdd3 "_law_string" = true)
    (kd3 : PySem.W.keepIn K (.ref fd3) = true)
    (ad4 : PySem.W.nsIn K mainGlobals "_law_of" = some (some (.ref fd4)))
    (ld4 : K.lookup fd4 = some ⟨ocd4, odd4, .func (PySem.W.fnOf "_law_of" "_law_of" (defArgs sOf) (defBody sOf) (defScope sOf) .none kVd4 dcd4 pmd4 and4 cdd4 ctd4), sld4⟩)
    (cd4 : PySem.W.codeIn K cdd4 "_law_of" = true)
    (kd4 : PySem.W.keepIn K (.ref fd4) = true)
    (ad5 : PySem.W.nsIn K mainGlobals "_law_draw" = some (some (.ref fd5)))
    (ld5 : K.lookup fd5 = some ⟨ocd5, odd5, .func (PySem.W.fnOf "_law_draw" "_law_draw" (defArgs sDraw) (defBody sDraw) (defScope sDraw) .none kVd5 dcd5 pmd5 and5 cdd5 ctd5), sld5⟩)
    (cd5 : PySem.W.codeIn K cdd5 "_law_draw" = true)
    (kd5 : PySem.W.keepIn K (.ref fd5) = true)
    (ad6 : PySem.W.nsIn K mainGlobals "_law_made" = some (some (.ref fd6)))
    (ld6 : K.lookup fd6 = some ⟨ocd6, odd6, .func (PySem.W.fnOf "_law_made" "_law_made" (defArgs sMade) (defBody sMade) (defScope sMade) .none kVd6 dcd6 pmd6 and6 cdd6 ctd6), sld6⟩)
    (cd6 : PySem.W.codeIn K cdd6 "_law_made" = true)
    (kd6 : PySem.W.keepIn K (.ref fd6) = true)
    (ad7 : PySem.W.nsIn K mainGlobals "_law_fields" = some (some (.ref fd7)))
    (ld7 : K.lookup fd7 = some ⟨ocd7, odd7, .func (PySem.W.fnOf "_law_fields" "_law_fields" (defArgs sFields) (defBody sFields) (defScope sFields) .none kVd7 dcd7 pmd7 and7 cdd7 ctd7), sld7⟩)
    (cd7 : PySem.W.codeIn K cdd7 "_law_fields" = true)
    (kd7 : PySem.W.keepIn K (.ref fd7) = true)
    (ad8 : PySem.W.nsIn K mainGlobals "_law_kinds" = some (some (.ref fd8)))
    (ld8 : K.lookup fd8 = some ⟨ocd8, odd8, .func (PySem.W.fnOf "_law_kinds" "_law_kinds" (defArgs sKinds) (defBody sKinds) (defScope sKinds) .none kVd8 dcd8 pmd8 and8 cdd8 ctd8), sld8⟩)
    (cd8 : PySem.W.codeIn K cdd8 "_law_kinds" = true)
    (kd8 : PySem.W.keepIn K (.ref fd8) = true)
    (ad9 : PySem.W.nsIn K mainGlobals "_law_caught" = some (some (.ref fd9)))
    (ld9 : K.lookup fd9 = some ⟨ocd9, odd9, .func (PySem.W.fnOf "_law_caught" "_law_caught" (defArgs sCaught) (defBody sCaught) (defScope sCaught) .none kVd9 dcd9 pmd9 and9 cdd9 ctd9), sld9⟩)
    (cd9 : PySem.W.codeIn K cdd9 "_law_caught" = true)
    (kd9 : PySem.W.keepIn K (.ref fd9) = true)
    (ad10 : PySem.W.nsIn K mainGlobals "_law_like" = some (some (.ref fd10)))
    (ld10 : K.lookup fd10 = some ⟨ocd10, odd10, .func (PySem.W.fnOf "_law_like" "_law_like" (defArgs sLike) (defBody sLike) (defScope sLike) .none kVd10 dcd10 pmd10 and10 cdd10 ctd10), sld10⟩)
    (cd10 : PySem.W.codeIn K cdd10 "_law_like" = true)
    (kd10 : PySem.W.keepIn K (.ref fd10) = true)
    (ad11 : PySem.W.nsIn K mainGlobals "_law_asked" = some (some (.ref fd11)))
    (ld11 : K.lookup fd11 = some ⟨ocd11, odd11, .func (PySem.W.fnOf "_law_asked" "_law_asked" (defArgs sAsked) (defBody sAsked) (defScope sAsked) .none kVd11 dcd11 pmd11 and11 cdd11 ctd11), sld11⟩)
    (cd11 : PySem.W.codeIn K cdd11 "_law_asked" = true)
    (kd11 : PySem.W.keepIn K (.ref fd11) = true)
    (ad12 : PySem.W.nsIn K mainGlobals "is_name" = some (some (.ref fd12)))
    (ld12 : K.lookup fd12 = some ⟨ocd12, odd12, .func (PySem.W.fnOf "is_name" "is_name" (defArgs sName) (defBody sName) (defScope sName) .none kVd12 dcd12 pmd12 and12 cdd12 ctd12), sld12⟩)
    (cd12 : PySem.W.codeIn K cdd12 "is_name" = true)
    (kd12 : PySem.W.keepIn K (.ref fd12) = true)
    (ad13 : PySem.W.nsIn K mainGlobals "is_word" = some (some (.ref fd13)))
    (ld13 : K.lookup fd13 = some ⟨ocd13, odd13, .func (PySem.W.fnOf "is_word" "is_word" (defArgs sWord) (defBody sWord) (defScope sWord) .none kVd13 dcd13 pmd13 and13 cdd13 ctd13), sld13⟩)
    (cd13 : PySem.W.codeIn K cdd13 "is_word" = true)
    (kd13 : PySem.W.keepIn K (.ref fd13) = true)
    (ad14 : PySem.W.nsIn K mainGlobals "_law_named" = some (some (.ref fd14)))
    (ld14 : K.lookup fd14 = some ⟨ocd14, odd14, .func (PySem.W.fnOf "_law_named" "_law_named" (defArgs sNamed) (defBody sNamed) (defScope sNamed) .none kVd14 dcd14 pmd14 and14 cdd14 ctd14), sld14⟩)
    (cd14 : PySem.W.codeIn K cdd14 "_law_named" = true)
    (kd14 : PySem.W.keepIn K (.ref fd14) = true)
    (ad15 : PySem.W.nsIn K mainGlobals "law" = some (some (.ref fd15)))
    (ld15 : K.lookup fd15 = some ⟨ocd15, odd15, .func (PySem.W.fnOf "law" "law" (defArgs sLaw) (defBody sLaw) (defScope sLaw) .none kVd15 dcd15 pmd15 and15 cdd15 ctd15), sld15⟩)
    (cd15 : PySem.W.codeIn K cdd15 "law" = true)
    (kd15 : PySem.W.keepIn K (.ref fd15) = true)
    (gx0 : PySem.W.nsIn K mainGlobals "BadText" = some (some (.ref C0)))
    (ax0 : PySem.W.findIn K (.ref C0) "__init__" = some (some (.ref fx0)))
    (lx0 : K.lookup fx0 = some ⟨ocx0, odx0, .func (PySem.W.fnOf "__init__" "BadText.__init__" (defArgs sBadText) (defBody sBadText) (defScope sBadText) .none kVx0 dcx0 pmx0 anx0 cdx0 ctx0), slx0⟩)
    (cx0 : PySem.W.codeIn K cdx0 "BadText.__init__" = true)
    (kx0 : PySem.W.keepIn K (.ref fx0) = true)
    (gx1 : PySem.W.nsIn K mainGlobals "BadValue" = some (some (.ref C1)))
    (ax1 : PySem.W.findIn K (.ref C1) "__init__" = some (some (.ref fx1)))
    (lx1 : K.lookup fx1 = some ⟨ocx1, odx1, .func (PySem.W.fnOf "__init__" "BadValue.__init__" (defArgs sBadValue) (defBody sBadValue) (defScope sBadValue) .none kVx1 dcx1 pmx1 anx1 cdx1 ctx1), slx1⟩)
    (cx1 : PySem.W.codeIn K cdx1 "BadValue.__init__" = true)
    (kx1 : PySem.W.keepIn K (.ref fx1) = true)
    (gx2 : PySem.W.nsIn K mainGlobals "Broken" = some (some (.ref C2)))
    (ax2 : PySem.W.findIn K (.ref C2) "__init__" = some (some (.ref fx2)))
    (lx2 : K.lookup fx2 = some ⟨ocx2, odx2, .func (PySem.W.fnOf "__init__" "Broken.__init__" (defArgs sBroken) (defBody sBroken) (defScope sBroken) .none kVx2 dcx2 pmx2 anx2 cdx2 ctx2), slx2⟩)
    (cx2 : PySem.W.codeIn K cdx2 "Broken.__init__" = true)
    (kx2 : PySem.W.keepIn K (.ref fx2) = true)
    (gx3 : PySem.W.nsIn K mainGlobals "Clash" = some (some (.ref C3)))
    (ax3 : PySem.W.findIn K (.ref C3) "__init__" = some (some (.ref fx3)))
    (lx3 : K.lookup fx3 = some ⟨ocx3, odx3, .func (PySem.W.fnOf "__init__" "Clash.__init__" (defArgs sClash) (defBody sClash) (defScope sClash) .none kVx3 dcx3 pmx3 anx3 cdx3 ctx3), slx3⟩)
    (cx3 : PySem.W.codeIn K cdx3 "Clash.__init__" = true)
    (kx3 : PySem.W.keepIn K (.ref fx3) = true)
    (gx4 : PySem.W.nsIn K mainGlobals "Even" = some (some (.ref C4)))
    (ax4 : PySem.W.findIn K (.ref C4) "__init__" = some (some (.ref fx4)))
    (lx4 : K.lookup fx4 = some ⟨ocx4, odx4, .func (PySem.W.fnOf "__init__" "Even.__init__" (defArgs sEven) (defBody sEven) (defScope sEven) .none kVx4 dcx4 pmx4 anx4 cdx4 ctx4), slx4⟩)
    (cx4 : PySem.W.codeIn K cdx4 "Even.__init__" = true)
    (kx4 : PySem.W.keepIn K (.ref fx4) = true)
    (gx5 : PySem.W.nsIn K mainGlobals "Unlike" = some (some (.ref C5)))
    (ax5 : PySem.W.findIn K (.ref C5) "__init__" = some (some (.ref fx5)))
    (lx5 : K.lookup fx5 = some ⟨ocx5, odx5, .func (PySem.W.fnOf "__init__" "Unlike.__init__" (defArgs sUnlike) (defBody sUnlike) (defScope sUnlike) .none kVx5 dcx5 pmx5 anx5 cdx5 ctx5), slx5⟩)
    (cx5 : PySem.W.codeIn K cdx5 "Unlike.__init__" = true)
    (kx5 : PySem.W.keepIn K (.ref fx5) = true)
    (gx6 : PySem.W.nsIn K mainGlobals "TooMany" = some (some (.ref C6)))
    (ax6 : PySem.W.findIn K (.ref C6) "__init__" = some (some (.ref fx6)))
    (lx6 : K.lookup fx6 = some ⟨ocx6, odx6, .func (PySem.W.fnOf "__init__" "TooMany.__init__" (defArgs sTooMany) (defBody sTooMany) (defScope sTooMany) .none kVx6 dcx6 pmx6 anx6 cdx6 ctx6), slx6⟩)
    (cx6 : PySem.W.codeIn K cdx6 "TooMany.__init__" = true)
    (kx6 : PySem.W.keepIn K (.ref fx6) = true)
    (gx7 : PySem.W.nsIn K mainGlobals "NoSuch" = some (some (.ref C7)))
    (ax7 : PySem.W.findIn K (.ref C7) "__init__" = some (some (.ref fx7)))
    (lx7 : K.lookup fx7 = some ⟨ocx7, odx7, .func (PySem.W.fnOf "__init__" "NoSuch.__init__" (defArgs sNoSuch) (defBody sNoSuch) (defScope sNoSuch) .none kVx7 dcx7 pmx7 anx7 cdx7 ctx7), slx7⟩)
    (cx7 : PySem.W.codeIn K cdx7 "NoSuch.__init__" = true)
    (kx7 : PySem.W.keepIn K (.ref fx7) = true)
    (gx8 : PySem.W.nsIn K mainGlobals "Ended" = some (some (.ref C8)))
    (ax8 : PySem.W.findIn K (.ref C8) "__init__" = some (some (.ref fx8)))
    (lx8 : K.lookup fx8 = some ⟨ocx8, odx8, .func (PySem.W.fnOf "__init__" "Ended.__init__" (defArgs sEnded) (defBody sEnded) (defScope sEnded) .none kVx8 dcx8 pmx8 anx8 cdx8 ctx8), slx8⟩)
    (cx8 : PySem.W.codeIn K cdx8 "Ended.__init__" = true)
    (kx8 : PySem.W.keepIn K (.ref fx8) = true)
    (gB : PySem.W.nsIn K mainGlobals "BothleastError" = some (some (.ref cB)))
    (gA : PySem.W.nsIn K mainGlobals "Absent" = some (some (.ref cA)))
    (zint : PySem.W.nsIn K mainGlobals "int" = some none)
    (zlen : PySem.W.nsIn K mainGlobals "len" = some none)
    (zlist : PySem.W.nsIn K mainGlobals "list" = some none)
    (ztuple : PySem.W.nsIn K mainGlobals "tuple" = some none)
    (zisinstance : PySem.W.nsIn K mainGlobals "isinstance" = some none)
    (zall : PySem.W.nsIn K mainGlobals "all" = some none)
    (zrange : PySem.W.nsIn K mainGlobals "range" = some none)
    (zbool : PySem.W.nsIn K mainGlobals "bool" = some none)
    (zstr : PySem.W.nsIn K mainGlobals "str" = some none)
    (zdict : PySem.W.nsIn K mainGlobals "dict" = some none)
    (yv : PySem.W.nsIn K mainGlobals "ValueError" = some none)
    (yl : PySem.W.nsIn K mainGlobals "LookupError" = some none)
    (yr : PySem.W.nsIn K mainGlobals "RuntimeError" = some none)
    (yk : PySem.W.nsIn K mainGlobals "KeyError" = some none)
    (yi : PySem.W.nsIn K mainGlobals "IndexError" = some none)
    (yt : PySem.W.nsIn K mainGlobals "TypeError" = some none)
    (wL : PySem.W.nsIn K mainGlobals "LETTERS" = some (some (.str zLet tL)))
    (wS : PySem.W.nsIn K mainGlobals "SIGNS" = some (some (.str zSgn tS)))
    (wN : PySem.W.nsIn K mainGlobals "LONGEST_NAME" = some (some (.int 8 tN)))
    (b0 : clOk K C0 fx0 tlV "ValueError.__new__" ["what", "line", "why"] = true)
    (b1 : clOk K C1 fx1 tlV "ValueError.__new__" ["what"] = true)
    (b2 : clOk K C2 fx2 tlV "ValueError.__new__" ["rule", "at"] = true)
    (b3 : clOk K C3 fx3 tlV "ValueError.__new__" ["cell", "other"] = true)
    (b4 : clOk K C4 fx4 tlV "ValueError.__new__" ["low", "high"] = true)
    (b5 : clOk K C5 fx5 tlV "ValueError.__new__" ["what"] = true)
    (b6 : clOk K C6 fx6 tlV "ValueError.__new__" ["what", "count"] = true)
    (b7 : clOk K C7 fx7 tlL "LookupError.__new__" ["value"] = true)
    (b8 : clOk K C8 fx8 tlR "RuntimeError.__new__" ["what"] = true)
    (bK : ktOk K (fun i => match i with | 0 => C0 | 1 => C1 | 2 => C2 | 3 => C3 | 4 => C4 | 5 => C5 | 6 => C6 | 7 => C7 | _ => C8) cB cA = true)
    : ∃ fd : FuncData, (∀ (s : Shared) (v : Value), BindsTo s fd ⟨[v], []⟩ [("script", v)]) ∧ ∀ base : Heap, K.In base → base.Ns mainGlobals mg → FnOk l.prog w K mg base CX0 8 fa fd ["script"] (spLaw K) := by
  have e := hfa.symm.trans (PySem.W.mg_of X G ad15)
  cases e
  have Fd0 := fun_mk (st := sBag) ld0 cd0 kd0
  have Bd0 := Fd0.binds (ps := ["script"]) fun _ _ _ _ _ _ us hl => match us, hl with | [_], _ => rfl
  have Fd1 := fun_mk (st := sMixed) ld1 cd1 kd1
  have Bd1 := Fd1.binds (ps := ["bag", "things"]) fun _ _ _ _ _ _ us hl => match us, hl with | [_, _], _ => rfl
  have Fd2 := fun_mk (st := sValue) ld2 cd2 kd2
  have Bd2 := Fd2.binds (ps := ["bag", "deep"]) fun _ _ _ _ _ _ us hl => match us, hl with | [_, _], _ => rfl
  have Fd3 := fun_mk (st := sString) ld3 cd3 kd3
  have Bd3 := Fd3.binds (ps := ["bag"]) fun _ _ _ _ _ _ us hl => match us, hl with | [_], _ => rfl
  have Fd4 := fun_mk (st := sOf) ld4 cd4 kd4
  have Bd4 := Fd4.binds (ps := ["bag", "things"]) fun _ _ _ _ _ _ us hl => match us, hl with | [_, _], _ => rfl
  have Fd5 := fun_mk (st := sDraw) ld5 cd5 kd5
  have Bd5 := Fd5.binds (ps := ["bag", "size"]) fun _ _ _ _ _ _ us hl => match us, hl with | [_, _], _ => rfl
  have Fd6 := fun_mk (st := sMade) ld6 cd6 kd6
  have Bd6 := Fd6.binds (ps := ["pick", "way", "one", "two", "three"]) fun _ _ _ _ _ _ us hl => match us, hl with | [_, _, _, _, _], _ => rfl
  have Fd7 := fun_mk (st := sFields) ld7 cd7 kd7
  have Bd7 := Fd7.binds (ps := ["pick", "e"]) fun _ _ _ _ _ _ us hl => match us, hl with | [_, _], _ => rfl
  have Fd8 := fun_mk (st := sKinds) ld8 cd8 kd8
  have Bd8 := Fd8.binds (ps := ["e"]) fun _ _ _ _ _ _ us hl => match us, hl with | [_], _ => rfl
  have Fd9 := fun_mk (st := sCaught) ld9 cd9 kd9
  have Bd9 := Fd9.binds (ps := ["pick", "one", "two", "three"]) fun _ _ _ _ _ _ us hl => match us, hl with | [_, _, _, _], _ => rfl
  have Fd10 := fun_mk (st := sLike) ld10 cd10 kd10
  have Bd10 := Fd10.binds (ps := ["told", "due"]) fun _ _ _ _ _ _ us hl => match us, hl with | [_, _], _ => rfl
  have Fd11 := fun_mk (st := sAsked) ld11 cd11 kd11
  have Bd11 := Fd11.binds (ps := ["bag"]) fun _ _ _ _ _ _ us hl => match us, hl with | [_], _ => rfl
  have Fd12 := fun_mk (st := sName) ld12 cd12 kd12
  have Bd12 := Fd12.binds (ps := ["value"]) fun _ _ _ _ _ _ us hl => match us, hl with | [_], _ => rfl
  have Fd13 := fun_mk (st := sWord) ld13 cd13 kd13
  have Bd13 := Fd13.binds (ps := ["value"]) fun _ _ _ _ _ _ us hl => match us, hl with | [_], _ => rfl
  have Fd14 := fun_mk (st := sNamed) ld14 cd14 kd14
  have Bd14 := Fd14.binds (ps := ["item"]) fun _ _ _ _ _ _ us hl => match us, hl with | [_], _ => rfl
  have Fd15 := fun_mk (st := sLaw) ld15 cd15 kd15
  have Fx0 := fun_mk (st := sBadText) lx0 cx0 kx0
  have Bx0 := Fx0.binds (ps := ["self", "what", "line", "why"]) fun _ _ _ _ _ _ us hl => match us, hl with | [_, _, _, _], _ => rfl
  have Fx1 := fun_mk (st := sBadValue) lx1 cx1 kx1
  have Bx1 := Fx1.binds (ps := ["self", "what"]) fun _ _ _ _ _ _ us hl => match us, hl with | [_, _], _ => rfl
  have Fx2 := fun_mk (st := sBroken) lx2 cx2 kx2
  have Bx2 := Fx2.binds (ps := ["self", "rule", "at"]) fun _ _ _ _ _ _ us hl => match us, hl with | [_, _, _], _ => rfl
  have Fx3 := fun_mk (st := sClash) lx3 cx3 kx3
  have Bx3 := Fx3.binds (ps := ["self", "cell", "other"]) fun _ _ _ _ _ _ us hl => match us, hl with | [_, _, _], _ => rfl
  have Fx4 := fun_mk (st := sEven) lx4 cx4 kx4
  have Bx4 := Fx4.binds (ps := ["self", "low", "high"]) fun _ _ _ _ _ _ us hl => match us, hl with | [_, _, _], _ => rfl
  have Fx5 := fun_mk (st := sUnlike) lx5 cx5 kx5
  have Bx5 := Fx5.binds (ps := ["self", "what"]) fun _ _ _ _ _ _ us hl => match us, hl with | [_, _], _ => rfl
  have Fx6 := fun_mk (st := sTooMany) lx6 cx6 kx6
  have Bx6 := Fx6.binds (ps := ["self", "what", "count"]) fun _ _ _ _ _ _ us hl => match us, hl with | [_, _, _], _ => rfl
  have Fx7 := fun_mk (st := sNoSuch) lx7 cx7 kx7
  have Bx7 := Fx7.binds (ps := ["self", "value"]) fun _ _ _ _ _ _ us hl => match us, hl with | [_, _], _ => rfl
  have Fx8 := fun_mk (st := sEnded) lx8 cx8 kx8
  have Bx8 := Fx8.binds (ps := ["self", "what"]) fun _ _ _ _ _ _ us hl => match us, hl with | [_, _], _ => rfl
  have T : Bt mg := ⟨PySem.W.mg_none_of X G zint, PySem.W.mg_none_of X G zlen, PySem.W.mg_none_of X G zlist, PySem.W.mg_none_of X G ztuple, PySem.W.mg_none_of X G zisinstance, PySem.W.mg_none_of X G zall, PySem.W.mg_none_of X G zrange, PySem.W.mg_none_of X G zbool, PySem.W.mg_none_of X G zstr, PySem.W.mg_none_of X G zdict⟩
  have X6 : Fx mg := ⟨PySem.W.mg_none_of X G yv, PySem.W.mg_none_of X G yl, PySem.W.mg_none_of X G yr, PySem.W.mg_none_of X G yk, PySem.W.mg_none_of X G yi, PySem.W.mg_none_of X G yt⟩
  have C : Cs mg := ⟨⟨_, PySem.W.mg_of X G wL, ⟨_, rfl⟩⟩, ⟨_, PySem.W.mg_of X G wS, ⟨_, rfl⟩⟩, ⟨_, PySem.W.mg_of X G wN, ⟨_, rfl⟩⟩⟩
  have D : Xs K mg (⟨(fun i => match i with | 0 => C0 | 1 => C1 | 2 => C2 | 3 => C3 | 4 => C4 | 5 => C5 | 6 => C6 | 7 => C7 | _ => C8), (fun i => match i with | 0 => fx0 | 1 => fx1 | 2 => fx2 | 3 => fx3 | 4 => fx4 | 5 => fx5 | 6 => fx6 | 7 => fx7 | _ => fx8), (fun i => match i with | 0 => (PySem.W.fnOf "__init__" "BadText.__init__" (defArgs sBadText) (defBody sBadText) (defScope sBadText) .none kVx0 dcx0 pmx0 anx0 cdx0 ctx0) | 1 => (PySem.W.fnOf "__init__" "BadValue.__init__" (defArgs sBadValue) (defBody sBadValue) (defScope sBadValue) .none kVx1 dcx1 pmx1 anx1 cdx1 ctx1) | 2 => (PySem.W.fnOf "__init__" "Broken.__init__" (defArgs sBroken) (defBody sBroken) (defScope sBroken) .none kVx2 dcx2 pmx2 anx2 cdx2 ctx2) | 3 => (PySem.W.fnOf "__init__" "Clash.__init__" (defArgs sClash) (defBody sClash) (defScope sClash) .none kVx3 dcx3 pmx3 anx3 cdx3 ctx3) | 4 => (PySem.W.fnOf "__init__" "Even.__init__" (defArgs sEven) (defBody sEven) (defScope sEven) .none kVx4 dcx4 pmx4 anx4 cdx4 ctx4) | 5 => (PySem.W.fnOf "__init__" "Unlike.__init__" (defArgs sUnlike) (defBody sUnlike) (defScope sUnlike) .none kVx5 dcx5 pmx5 anx5 cdx5 ctx5) | 6 => (PySem.W.fnOf "__init__" "TooMany.__init__" (defArgs sTooMany) (defBody sTooMany) (defScope sTooMany) .none kVx6 dcx6 pmx6 anx6 cdx6 ctx6) | 7 => (PySem.W.fnOf "__init__" "NoSuch.__init__" (defArgs sNoSuch) (defBody sNoSuch) (defScope sNoSuch) .none kVx7 dcx7 pmx7 anx7 cdx7 ctx7) | _ => (PySem.W.fnOf "__init__" "Ended.__init__" (defArgs sEnded) (defBody sEnded) (defScope sEnded) .none kVx8 dcx8 pmx8 anx8 cdx8 ctx8))⟩ : CA) := ⟨xc_of b0 ax0 Fx0 Bx0 (PySem.W.mg_of X G gx0), xc_of b1 ax1 Fx1 Bx1 (PySem.W.mg_of X G gx1), xc_of b2 ax2 Fx2 Bx2 (PySem.W.mg_of X G gx2), xc_of b3 ax3 Fx3 Bx3 (PySem.W.mg_of X G gx3), xc_of b4 ax4 Fx4 Bx4 (PySem.W.mg_of X G gx4), xc_of b5 ax5 Fx5 Bx5 (PySem.W.mg_of X G gx5), xc_of b6 ax6 Fx6 Bx6 (PySem.W.mg_of X G gx6), xc_of b7 ax7 Fx7 Bx7 (PySem.W.mg_of X G gx7), xc_of b8 ax8 Fx8 Bx8 (PySem.W.mg_of X G gx8)⟩
  have E : Ds K mg (⟨(fun i => match i with | 0 => fd0 | 1 => fd1 | 2 => fd2 | 3 => fd3 | 4 => fd4 | 5 => fd5 | 6 => fd6 | 7 => fd7 | 8 => fd8 | 9 => fd9 | 10 => fd10 | 11 => fd11 | 12 => fd12 | 13 => fd13 | _ => fd14), (fun i => match i with | 0 => (PySem.W.fnOf "_law_bag" "_law_bag" (defArgs sBag) (defBody sBag) (defScope sBag) .none kVd0 dcd0 pmd0 and0 cdd0 ctd0) | 1 => (PySem.W.fnOf "_law_mixed" "_law_mixed" (defArgs sMixed) (defBody sMixed) (defScope sMixed) .none kVd1 dcd1 pmd1 and1 cdd1 ctd1) | 2 => (PySem.W.fnOf "_law_value" "_law_value" (defArgs sValue) (defBody sValue) (defScope sValue) .none kVd2 dcd2 pmd2 and2 cdd2 ctd2) | 3 => (PySem.W.fnOf "_law_string" "_law_string" (defArgs sString) (defBody sString) (defScope sString) .none kVd3 dcd3 pmd3 and3 cdd3 ctd3) | 4 => (PySem.W.fnOf "_law_of" "_law_of" (defArgs sOf) (defBody sOf) (defScope sOf) .none kVd4 dcd4 pmd4 and4 cdd4 ctd4) | 5 => (PySem.W.fnOf "_law_draw" "_law_draw" (defArgs sDraw) (defBody sDraw) (defScope sDraw) .none kVd5 dcd5 pmd5 and5 cdd5 ctd5) | 6 => (PySem.W.fnOf "_law_made" "_law_made" (defArgs sMade) (defBody sMade) (defScope sMade) .none kVd6 dcd6 pmd6 and6 cdd6 ctd6) | 7 => (PySem.W.fnOf "_law_fields" "_law_fields" (defArgs sFields) (defBody sFields) (defScope sFields) .none kVd7 dcd7 pmd7 and7 cdd7 ctd7) | 8 => (PySem.W.fnOf "_law_kinds" "_law_kinds" (defArgs sKinds) (defBody sKinds) (defScope sKinds) .none kVd8 dcd8 pmd8 and8 cdd8 ctd8) | 9 => (PySem.W.fnOf "_law_caught" "_law_caught" (defArgs sCaught) (defBody sCaught) (defScope sCaught) .none kVd9 dcd9 pmd9 and9 cdd9 ctd9) | 10 => (PySem.W.fnOf "_law_like" "_law_like" (defArgs sLike) (defBody sLike) (defScope sLike) .none kVd10 dcd10 pmd10 and10 cdd10 ctd10) | 11 => (PySem.W.fnOf "_law_asked" "_law_asked" (defArgs sAsked) (defBody sAsked) (defScope sAsked) .none kVd11 dcd11 pmd11 and11 cdd11 ctd11) | 12 => (PySem.W.fnOf "is_name" "is_name" (defArgs sName) (defBody sName) (defScope sName) .none kVd12 dcd12 pmd12 and12 cdd12 ctd12) | 13 => (PySem.W.fnOf "is_word" "is_word" (defArgs sWord) (defBody sWord) (defScope sWord) .none kVd13 dcd13 pmd13 and13 cdd13 ctd13) | _ => (PySem.W.fnOf "_law_named" "_law_named" (defArgs sNamed) (defBody sNamed) (defScope sNamed) .none kVd14 dcd14 pmd14 and14 cdd14 ctd14))⟩ : FA) := ⟨⟨Fd0, Bd0, PySem.W.mg_of X G ad0⟩, ⟨Fd1, Bd1, PySem.W.mg_of X G ad1⟩, ⟨Fd2, Bd2, PySem.W.mg_of X G ad2⟩, ⟨Fd3, Bd3, PySem.W.mg_of X G ad3⟩, ⟨Fd4, Bd4, PySem.W.mg_of X G ad4⟩, ⟨Fd5, Bd5, PySem.W.mg_of X G ad5⟩, ⟨Fd6, Bd6, PySem.W.mg_of X G ad6⟩, ⟨Fd7, Bd7, PySem.W.mg_of X G ad7⟩, ⟨Fd8, Bd8, PySem.W.mg_of X G ad8⟩, ⟨Fd9, Bd9, PySem.W.mg_of X G ad9⟩, ⟨Fd10, Bd10, PySem.W.mg_of X G ad10⟩, ⟨Fd11, Bd11, PySem.W.mg_of X G ad11⟩, ⟨Fd12, Bd12, PySem.W.mg_of X G ad12⟩, ⟨Fd13, Bd13, PySem.W.mg_of X G ad13⟩, ⟨Fd14, Bd14, PySem.W.mg_of X G ad14⟩⟩
  have S := kt_of (c := (⟨(fun i => match i with | 0 => C0 | 1 => C1 | 2 => C2 | 3 => C3 | 4 => C4 | 5 => C5 | 6 => C6 | 7 => C7 | _ => C8), (fun i => match i with | 0 => fx0 | 1 => fx1 | 2 => fx2 | 3 => fx3 | 4 => fx4 | 5 => fx5 | 6 => fx6 | 7 => fx7 | _ => fx8), (fun i => match i with | 0 => (PySem.W.fnOf "__init__" "BadText.__init__" (defArgs sBadText) (defBody sBadText) (defScope sBadText) .none kVx0 dcx0 pmx0 anx0 cdx0 ctx0) | 1 => (PySem.W.fnOf "__init__" "BadValue.__init__" (defArgs sBadValue) (defBody sBadValue) (defScope sBadValue) .none kVx1 dcx1 pmx1 anx1 cdx1 ctx1) | 2 => (PySem.W.fnOf "__init__" "Broken.__init__" (defArgs sBroken) (defBody sBroken) (defScope sBroken) .none kVx2 dcx2 pmx2 anx2 cdx2 ctx2) | 3 => (PySem.W.fnOf "__init__" "Clash.__init__" (defArgs sClash) (defBody sClash) (defScope sClash) .none kVx3 dcx3 pmx3 anx3 cdx3 ctx3) | 4 => (PySem.W.fnOf "__init__" "Even.__init__" (defArgs sEven) (defBody sEven) (defScope sEven) .none kVx4 dcx4 pmx4 anx4 cdx4 ctx4) | 5 => (PySem.W.fnOf "__init__" "Unlike.__init__" (defArgs sUnlike) (defBody sUnlike) (defScope sUnlike) .none kVx5 dcx5 pmx5 anx5 cdx5 ctx5) | 6 => (PySem.W.fnOf "__init__" "TooMany.__init__" (defArgs sTooMany) (defBody sTooMany) (defScope sTooMany) .none kVx6 dcx6 pmx6 anx6 cdx6 ctx6) | 7 => (PySem.W.fnOf "__init__" "NoSuch.__init__" (defArgs sNoSuch) (defBody sNoSuch) (defScope sNoSuch) .none kVx7 dcx7 pmx7 anx7 cdx7 ctx7) | _ => (PySem.W.fnOf "__init__" "Ended.__init__" (defArgs sEnded) (defBody sEnded) (defScope sEnded) .none kVx8 dcx8 pmx8 anx8 cdx8 ctx8))⟩ : CA)) bK (PySem.W.mg_of X G gB) (PySem.W.mg_of X G gA) X6
  exact ⟨(PySem.W.fnOf "law" "law" (defArgs sLaw) (defBody sLaw) (defScope sLaw) .none kVd15 dcd15 pmd15 and15 cdd15 ctd15), fun s v => .of_eq rfl, fun base _ _ => ok_law Fd15 T C D S.1 S.2 E⟩
theorem walk {l : PySem.W.OpenLaw} {q : Program} {loose : List Str} {XP : (Str → Option Value) → Heap → Prop} {YP : World → Heap → Prop} {d : DefRec} {K : Params → PySem.W.Frag} (hn : l.most = some 63) (hdf : d.params.defaults = [])
    (hY : ∀ (w : World) (h : Heap), YP w h → (K w.params).In h)
    (F : ∀ (w : World) (mg : Str → Option Value) (fa : Addr) (h : Heap), (K w.params).In h → h.Ns mainGlobals mg → mg d.name = some (.ref fa) →
      ∃ fd : FuncData, (∀ (s : Shared) (u : Value), BindsTo s fd ⟨[u], []⟩ [("script", u)]) ∧ ∀ base : Heap, (K w.params).In base → base.Ns mainGlobals mg → FnOk l.prog w (K w.params) mg base CX0 8 fa fd ["script"] (spLaw (K w.params))) :
    PySem.W.WalkO q loose XP YP l.row.toRowW d [] (fun f vs => PySem.call f vs) :=
  L2.walk_of (n := 63) (k := 8) (x := "script") (CX := fun _ => CX0) (sp := fun w => spLaw (K w.params)) hn (by decide) hdf ⟨rfl, by decide, by decide⟩ hY F (fun _ _ a ns hl _ hS => ⟨a, ns, rfl, hS, hl, fun _ => rfl⟩) fun _ _ _ _ _ z => z
end Lw
open PySem PySem.W PyProof.Rows
set_option maxRecDepth 100000 in
set_option maxHeartbeats 0 in
theorem PySem.Challenge.cw_bothleast_k00_errors_told_holds : PySem.Challenge.rw_bothleast_k00_errors_told.Holds := by
  w_on; o_law; k_head; (case hw => w_witness2)
  k_fill
  refine Lw.walk (l := PySem.Challenge.rw_bothleast_k00_errors_told) rfl rfl (fun w h Y => PySem.W.kIn_of Y) ?F
  case F =>
    intro w mg fa h KX G hmg
    refine' Lw.all_mk KX G hmg ?ad0 ?ld0 ?cd0 ?kd0 ?ad1 ?ld1 ?cd1 ?kd1 ?ad2 ?ld2 ?cd2 ?kd2 ?ad3 ?ld3 ?cd3 ?kd3 ?ad4 ?ld4 ?cd4 ?kd4 ?ad5 ?ld5 ?cd5 ?kd5 ?ad6 ?ld6 ?cd6 ?kd6 ?ad7 ?ld7 ?cd7 ?kd7 ?ad8 ?ld8 ?cd8 ?kd8 ?ad9 ?ld9 ?cd9 ?kd9 ?ad10 ?ld10 ?cd10 ?kd10 ?ad11 ?ld11 ?cd11 ?kd11 ?ad12 ?ld12 ?cd12 ?kd12 ?ad13 ?ld13 ?cd13 ?kd13 ?ad14 ?ld14 ?cd14 ?kd14 ?ad15 ?ld15 ?cd15 ?kd15 ?gx0 ?ax0 ?lx0 ?cx0 ?kx0 ?gx1 ?ax1 ?lx1 ?cx1 ?kx1 ?gx2 ?ax2 ?lx2 ?cx2 ?kx2 ?gx3 ?ax3 ?lx3 ?cx3 ?kx3 ?gx4 ?ax4 ?lx4 ?cx4 ?kx4 ?gx5 ?ax5 ?lx5 ?cx5 ?kx5 ?gx6 ?ax6 ?lx6 ?cx6 ?kx6 ?gx7 ?ax7 ?lx7 ?cx7 ?kx7 ?gx8 ?ax8 ?lx8 ?cx8 ?kx8 ?gB ?gA ?zint ?zlen ?zlist ?ztuple ?zisinstance ?zall ?zrange ?zbool ?zstr ?zdict ?yv ?yl ?yr ?yk ?yi ?yt ?wL ?wS ?wN ?b0 ?b1 ?b2 ?b3 ?b4 ?b5 ?b6 ?b7 ?b8 ?bK
    (case ad0 => k_is)
    (case ld0 => k_is)
    (case cd0 => k_is)
    (case kd0 => k_is)
    (case ad1 => k_is)
    (case ld1 => k_is)
    (case cd1 => k_is)
    (case kd1 => k_is)
    (case ad2 => k_is)
    (case ld2 => k_is)
    (case cd2 => k_is)
    (case kd2 => k_is)
    (case ad3 => k_is)
    (case ld3 => k_is)
    (case cd3 => k_is)
    (case kd3 => k_is)
    (case ad4 => k_is)
    (case ld4 => k_is)
    (case cd4 => k_is)
    (case kd4 => k_is)
    (case ad5 => k_is)
    (case ld5 => k_is)
    (case cd5 => k_is)
    (case kd5 => k_is)
    (case ad6 => k_is)
    (case ld6 => k_is)
    (case cd6 => k_is)
    (case kd6 => k_is)
    (case ad7 => k_is)
    (case ld7 => k_is)
    (case cd7 => k_is)
    (case kd7 => k_is)
    (case ad8 => k_is)
    (case ld8 => k_is)
    (case cd8 => k_is)
    (case kd8 => k_is)
    (case ad9 => k_is)
    (case ld9 => k_is)
    (case cd9 => k_is)
    (case kd9 => k_is)
    (case ad10 => k_is)
    (case ld10 => k_is)
    (case cd10 => k_is)
    (case kd10 => k_is)
    (case ad11 => k_is)
    (case ld11 => k_is)
    (case cd11 => k_is)
    (case kd11 => k_is)
    (case ad12 => k_is)
    (case ld12 => k_is)
    (case cd12 => k_is)
    (case kd12 => k_is)
    (case ad13 => k_is)
    (case ld13 => k_is)
    (case cd13 => k_is)
    (case kd13 => k_is)
    (case ad14 => k_is)
    (case ld14 => k_is)
    (case cd14 => k_is)
    (case kd14 => k_is)
    (case ad15 => k_is)
    (case ld15 => k_is)
    (case cd15 => k_is)
    (case kd15 => k_is)
    (case gx0 => k_is)
    (case ax0 => k_is)
    (case lx0 => k_is)
    (case cx0 => k_is)
    (case kx0 => k_is)
    (case gx1 => k_is)
    (case ax1 => k_is)
    (case lx1 => k_is)
    (case cx1 => k_is)
    (case kx1 => k_is)
    (case gx2 => k_is)
    (case ax2 => k_is)
    (case lx2 => k_is)
    (case cx2 => k_is)
    (case kx2 => k_is)
    (case gx3 => k_is)
    (case ax3 => k_is)
    (case lx3 => k_is)
    (case cx3 => k_is)
    (case kx3 => k_is)
    (case gx4 => k_is)
    (case ax4 => k_is)
    (case lx4 => k_is)
    (case cx4 => k_is)
    (case kx4 => k_is)
    (case gx5 => k_is)
    (case ax5 => k_is)
    (case lx5 => k_is)
    (case cx5 => k_is)
    (case kx5 => k_is)
    (case gx6 => k_is)
    (case ax6 => k_is)
    (case lx6 => k_is)
    (case cx6 => k_is)
    (case kx6 => k_is)
    (case gx7 => k_is)
    (case ax7 => k_is)
    (case lx7 => k_is)
    (case cx7 => k_is)
    (case kx7 => k_is)
    (case gx8 => k_is)
    (case ax8 => k_is)
    (case lx8 => k_is)
    (case cx8 => k_is)
    (case kx8 => k_is)
    (case gB => k_is)
    (case gA => k_is)
    (case zint => k_is)
    (case zlen => k_is)
    (case zlist => k_is)
    (case ztuple => k_is)
    (case zisinstance => k_is)
    (case zall => k_is)
    (case zrange => k_is)
    (case zbool => k_is)
    (case zstr => k_is)
    (case zdict => k_is)
    (case yv => k_is)
    (case yl => k_is)
    (case yr => k_is)
    (case yk => k_is)
    (case yi => k_is)
    (case yt => k_is)
    (case wL => k_is)
    (case wS => k_is)
    (case wN => k_is)
    (case b0 => kernel_rfl)
    (case b1 => kernel_rfl)
    (case b2 => kernel_rfl)
    (case b3 => kernel_rfl)
    (case b4 => kernel_rfl)
    (case b5 => kernel_rfl)
    (case b6 => kernel_rfl)
    (case b7 => kernel_rfl)
    (case b8 => kernel_rfl)
    (case bK => kernel_rfl)
