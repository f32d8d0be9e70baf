import PyProof.Rows.All
import Wide.All
import OpenK.AllK
import Wide.FinOn
import PyProof.EqAt
import PyProof.EqKinds
import PyProof.TupleCall
import KE.KExcInit
import KE.KIsAll
import KE.KTryMore
import HandS.ForMost
import HandS.Exc
import HandS.ExcInit
import HandS.ExcIs
import HandS.ExcField
import HandS.ExcValue
import HandS.IsInst
import HandS.Defaults
import HandS.HotCalls
import PySem.Challenge.RW_bothleast_k67_lives_there_and_back
import HandS.Wide
import HandS.WordsExc
import HandS.Text
import HandS.Walk
import HandS.ExcOwn
import KE.IntTextLaws
import HandS.Deep
import HandS.SortRule
import HandS.SortInts
import HandS.FStr
import PyProof.FitsInt
import PyProof.FitsReplace
import HandS.Zip
import HandS.TupAny
import HandS.Codes
import HandS.OwnEq
import PyProof.InstNe
import PyProof.FactsAll.tuple_iterator_1
import PyProof.ReprRoads
import PyProof.CallFns
import PyProof.ReprLen
import PyProof.StrLawsRepr
import HandS.MakeKwOnly
set_option Elab.async false
set_option linter.all false
set_option maxRecDepth 100000
set_option maxHeartbeats 4000000
namespace XV
open PySem PySem.Spec PyProof.Rows L2
/-- just this object stands there -/
def pinO (a : Addr) (o : Obj) : HO := .ext fun h => h.get? a = some o
section
variable {P : Program} {w : World} {H : Hp} {h : Heap} {a : Addr} {o : Obj}
theorem pinO_ok (e : h.get? a = some o) : ObjOk P w H h a (pinO a o) := ⟨e, ⟨_, e⟩, fun _ _ z k => k _ z⟩
theorem pinO_at (ok : HOk P w H h) (e : H a = some (pinO a o)) : h.get? a = some o := by
  have x : ObjOk P w H h a (.ext fun h => h.get? a = some o) := ok a _ e
  exact x.1
end
theorem ext_own {φ : Heap → Prop} {x : Addr} : HO.ext φ ≠ HO.own x := fun z => nomatch z
theorem ext_tup {φ : Heap → Prop} {xs : List V} : HO.ext φ ≠ HO.tup xs := fun z => nomatch z
theorem ext_frz {φ : Heap → Prop} {o : Obj} {u : HO} : HO.ext φ ≠ HO.frz o u := fun z => nomatch z
theorem ext_tbl {φ : Heap → Prop} {ps : Array Value} : HO.ext φ ≠ HO.tbl ps := fun z => nomatch z
/-- what the written part says of an own exception class C; tl: the part of its chain behind the own classes -/
structure ExCls (K : PySem.W.Frag) (C : Addr) (newId : String) (tl : List Value) : Prop where
  ini : PySem.W.excInitIn K C tl newId = true
  ovr : PySem.W.excOver K C tl = true
  dic : PySem.W.hasDictIn K C = true
  sa : PySem.W.findIn K (.ref C) "__setattr__" = some (some (.builtin "object.__setattr__"))
  ga : PySem.W.findIn K (.ref C) "__getattribute__" = some (some (.builtin "BaseException.__getattribute__"))
  gg : PySem.W.findIn K (.ref C) "__getattr__" = some none
  exC : PySem.W.subIn K (.ref C) (.type "BaseException") = some true
  tyC : PySem.W.typeIn K (.ref C) = some (.type "type")
  kC : PySem.W.keepIn K (.ref C) = true
  cl : PySem.W.findIn K (.ref C) "__class__" = some (some (.builtin "object.__class__"))
  mro : PySem.W.mroIn K C (.type "object") = some true
section
variable {X : Cx} {pins : List (Addr × Obj)} {σ : L2.St} {H : Hp} {s : Shared} {a C dx : Addr} {f : Str} {y : V} {u : Value} {fs : List (Str × V)} {Q : Unit → Shared → Prop} {E : Value → Shared → Prop} {A : Around} {newId B : String} {tl : List Value}
/-- one object of ours turns, a new one is laid beside it -/
theorem inv_two {h' : Heap} {t' : Nat} {φ : Heap → Prop} {oa od : HO} (I : Inv X pins σ H s) (ea : H a = some (.ext φ)) (dn : s.heap.objs.size ≤ dx) (k : ∀ b o, b ≠ a → s.heap.get? b = some o → h'.get? b = some o) (ha : ∃ o, h'.get? a = some o)
    (oka : ObjOk X.prog X.w (upd (upd H dx od) a oa) h' a oa) (okd : ObjOk X.prog X.w (upd (upd H dx od) a oa) h' dx od) : Inv X pins σ (upd (upd H dx od) a oa) { s with heap := h', toks := t' } := by
  have hd := I.hok.fresh dn
  have hne : ∀ {b o}, s.heap.get? b = some o → b ≠ dx := fun q z => absurd (Nat.lt_of_lt_of_le (Heap.lt_size q) dn) (by rw [z]; exact Nat.lt_irrefl _)
  have ane : ∀ {b}, H b = none → b ≠ a := fun n z => by rw [z, ea] at n; cases n
  have pass : ∀ {b u}, H b = some u → b ≠ a → (upd (upd H dx od) a oa) b = some u := fun q z => by rw [upd_ne z, upd_ne (ne_of_none q hd)]; exact q
  refine I.un (t' := t') { keep := fun b o q n _ _ => k b o (ane n) q, slot := fun b o q n _ _ => ⟨o.slots, k b o (ane n) q⟩, free := fun b o q n _ => ?_, there := fun b o q _ => ?_, tups := fun b xs q => pass q (at_ne ea q ext_tup), frzs := fun b o v q => pass q (at_ne ea q ext_frz), tbls := fun b ps q => ⟨#[], ?_⟩ } fun b o q => ?_
  · rw [upd_ne (ane n), upd_ne (hne q)]; exact n
  · by_cases e : b = a
    · rw [e]; exact ha
    · exact ⟨o, k b o e q⟩
  · rw [Array.append_empty]; exact pass q (at_ne ea q ext_tbl)
  · by_cases e : b = a
    · subst e; rw [upd_same] at q; cases q; exact oka
    rw [upd_ne e] at q
    by_cases e2 : b = dx
    · subst e2; rw [upd_same] at q; cases q; exact okd
    rw [upd_ne e2] at q
    refine (I.hok b o q).stay (fun c v hc z => k c v ?_ z) (fun c hc => pass hc (at_ne ea hc ext_own)) fun c xs hc => pass hc (at_ne ea hc ext_tup)
    rcases hc with rfl | hc
    · exact e
    · exact at_ne ea hc ext_own
theorem taker_none {K : PySem.W.Frag} (h : PySem.W.findIn K (.ref C) f = some none) : PySem.W.takerIn K C f = some none := by
  unfold PySem.W.takerIn
  rw [h] <;> rfl
theorem stx_new (SF : StoreFacts B tl "object.__setattr__" "object") (T : ExCls X.K C newId tl) (I : Inv X pins σ H s) (e : H a = some (exo a C none)) (hno : PySem.W.findIn X.K (.ref C) f = some none) (ry : RelV y u)
    (h : ∀ dx s', H dx = none → dx ≠ a → Inv X pins σ (upd (upd H dx (exd dx [(f, y)])) a (exo a C (some dx))) s' → Q () s') : wpAny (model X.prog X.w) A (setAttr (.ref a) f u) Q E s := by
  obtain ⟨t1, ho⟩ := exo_at I.hok e
  obtain ⟨cd, hcd, hdi⟩ := PySem.W.any_some T.dic
  obtain ⟨hp, g, d, t, os⟩ := s
  refine PySem.W.set_plain I.kIn (od := none) ⟨ho, rfl, rfl, trivial⟩ T.sa (PySem.W.osa_openX (od := none) SF I.kIn ⟨ho, rfl, rfl, trivial⟩ T.ovr (taker_none hno) fun b => ?_)
  refine wpAny_bind (wpAny_pure (wpAny_bind (PySem.W.instanceDict_exc ho (PySem.W.looks_clsIn I.kIn hcd) hdi ?_)))
  have lta : a < hp.objs.size := Heap.lt_size ho
  have nea : a ≠ hp.objs.size := Nat.ne_of_lt lta
  have keep : ∀ b o, b ≠ a → hp.get? b = some o → ((hp.push (PySem.W.dictOf [] 0)).update a fun o => { o with dict := some hp.objs.size }).get? b = some o := fun b o hb q => by
    rw [Heap.get?_update_other _ _ (Ne.symm hb)]
    exact Heap.get?_push_of_some _ q
  show wpAny _ _ (Builtin.ObjectAttr.storeInDict hp.objs.size (.str f t) f u) _ _ _
  refine PySem.HandSPX.store_in_new ?_ fun h' tk' hn hs => ?_
  · refine ⟨PySem.W.dictOf [] 0, #[], 0, ?_, rfl, fun e he => absurd he (by simp), fun _ => rfl⟩
    rw [Heap.get?_update_other _ _ nea]
    exact Heap.get?_push_at rfl rfl
  have hx : h'.get? a = some ({ cls := .ref C, dict := some hp.objs.size, data := .fields #[.ref t1, .none, .none, .none, .bool false, .none] } : Obj) := by
    rw [hs.2 a nea, Heap.get?_update_self _ (Heap.get?_push_of_some _ ho) rfl]
  have J := inv_two (s := ⟨hp, g, d, t, os⟩) (t' := tk') I e (Nat.le_refl _) (fun b o hb q => (hs.2 b (Nat.ne_of_lt (Heap.lt_size q))).trans (keep b o hb q)) ⟨_, hx⟩ (exo_ok hx) (exd_ok hn (relO_put (fs := []) ry fun g => True.intro))
  exact h hp.objs.size _ (I.hok.fresh (Nat.le_refl _)) (Ne.symm nea) J
theorem stx_old (SF : StoreFacts B tl "object.__setattr__" "object") (T : ExCls X.K C newId tl) (I : Inv X pins σ H s) (e : H a = some (exo a C (some dx))) (ed : H dx = some (exd dx fs)) (hl : fs.length ≤ 900) (hno : PySem.W.findIn X.K (.ref C) f = some none) (ry : RelV y u)
    (h : ∀ s', Inv X pins σ (upd H dx (exd dx ((f, y) :: fs))) s' → Q () s') : wpAny (model X.prog X.w) A (setAttr (.ref a) f u) Q E s := by
  obtain ⟨t1, ho⟩ := exo_at I.hok e
  obtain ⟨mA, hns, rel⟩ := exd_at I.hok ed
  obtain ⟨cd, hcd, hdi⟩ := PySem.W.any_some T.dic
  have hw := within_of rel
  obtain ⟨oD, _, _, hoD, _, _⟩ := hns.count hw
  obtain ⟨hp, g, d, t, os⟩ := s
  refine PySem.W.set_plain I.kIn (od := some oD) ⟨ho, rfl, rfl, hoD⟩ T.sa (PySem.W.osa_openX (od := some oD) SF I.kIn ⟨ho, rfl, rfl, hoD⟩ T.ovr (taker_none hno) fun b => ?_)
  refine wpAny_bind (wpAny_pure (wpAny_bind (wpAny_bind (wpAny_loadPart ho (wpAny_bind ((PySem.W.looks_clsIn (h := hp) I.kIn hcd).at ?_))))))
  rw [hdi]
  refine wpAny_pure (a := some dx) ?_
  refine PySem.OEX.store_in_old hns hw (by rw [List.length_map]; omega) fun h' tk' hn hs => ?_
  have there : ∃ o, h'.get? dx = some o := let ⟨o, _, _, q, _⟩ := hn; ⟨o, q⟩
  exact h _ (I.write (t' := tk') (x := dx) (e := dx) (by rw [ed]; exact True.intro) (.inl rfl) (fun b o hb q => (hs.2 b hb).trans q) there (exd_ok hn (relO_put ry rel)))
end
/-- self.f = e on an exception that is being made -/
def tStx (C : Addr) (f : Str) (to te : TE) : TS := fun D σ H => te σ H fun y H1 => to σ H1 fun x H2 => ∃ a : Addr, x = .ref a ∧
  ((H2 a = some (exo a C none) ∧ ∀ dx, H2 dx = none → dx ≠ a → D.nx σ (upd (upd H2 dx (exd dx [(f, y)])) a (exo a C (some dx)))) ∨
    ∃ (dx : Addr) (fs : List (Str × V)), H2 a = some (exo a C (some dx)) ∧ H2 dx = some (exd dx fs) ∧ fs.length ≤ 900 ∧ D.nx σ (upd H2 dx (exd dx ((f, y) :: fs))))
theorem ps_stx {X : Cx} {o e : Expr} {to te : TE} {f : Str} {p' pos : Pos} {C : Addr} {B newId : String} {tl : List Value} (SF : StoreFacts B tl "object.__setattr__" "object") (T : ExCls X.K C newId tl) (hno : PySem.W.findIn X.K (.ref C) f = some none)
    (ho : PE X o to) (he : PE X e te) (hs : swapsWith e (some (.Attribute o f p')) pos.line X.env = pure false := by rfl) : PS X (.Assign [.Attribute o f p'] e pos) (tStx C f to te) := by
  refine ⟨fun pins s σ H D I h => plainObj_wpAny_Assign_Attribute (thn (he.run pins s σ H _ I h) fun v s1 hv => ?_) hs⟩
  obtain ⟨y, H1, I1, ry, q1⟩ := hv
  refine thn (ho.run pins s1 σ H1 _ I1 q1) fun u s2 hu => ?_
  obtain ⟨x, H2, I2, rx, a, rfl, q⟩ := hu
  cases rx
  rcases q with ⟨ea, q⟩ | ⟨dx, fs, ea, ed, hl, q⟩
  · exact stx_new SF T I2 ea hno ry fun dx s' n ne J => ⟨σ, _, J, q dx n ne⟩
  · exact stx_old SF T I2 ea ed hl hno ry fun s' J => ⟨σ, _, J, q⟩
end XV
namespace XK
open PySem
section
variable {M : Model} {A : Around} {E : Value → Shared → Prop} {h : Heap} {g : Array GenState} {d : Drawn} {t : Nat} {os : OsState}
variable {nm q : Str} {C N : Addr} {bs bm bmB : List Value} {hdct : Bool} {sn : List Str} {sub : List Value} {ab : Bool} {col : Option Bool} {dd : Option Addr} {k0 k1 k2 k3 k5 : Option Value} {B newId initId : String} {rest : List Value} {kw : List (Str × Value)}
theorem kwNewCheck (F : ExcBaseFacts B newId initId bmB) (hT : ∀ z : String, bm.contains (.type z) = bmB.contains (.type z)) {Q : Unit → Shared → Prop}
    (hC : h.get? C = some (excClassObj nm q C N bs bm hdct sn sub ab col dd k0 k1 k2 k3 k5 newId)) (hq : Q () ⟨h, g, d, t, os⟩) : wpAny M A (checkBuiltinCall newId ⟨.ref C :: rest, kw⟩) Q E ⟨h, g, d, t, os⟩ := by
  have c1 : (Value.ref C :: bm).contains (.type B) = true := by rw [List.contains_cons, hT, F.hasB, Bool.or_true]
  have c2 := F.noStar
  simp only [checkBuiltinCall, F.newKind, F.newSplit, F.newRow]
  repeat (first
    | refine wpAny_loadPart_at hC ?_
    | (refine wpAny_isSubtype_exc hC ?_
       rw [c1])
    | refine wpAny_staticBase_exc hC ?_
    | refine wpAny_madeBy_exc hC ?_
    | simp only [bne_self_eq_false, Bool.false_eq_true, if_false]
    | wp_step)
  exact hq
theorem kwTcCheck {Q : Unit → Shared → Prop} (hC : h.get? C = some (excClassObj nm q C N bs bm hdct sn sub ab col dd k0 k1 k2 k3 k5 newId)) (hq : Q () ⟨h, g, d, t, os⟩) : wpAny M A (checkBuiltinCall "type.__call__" ⟨.ref C :: rest, kw⟩) Q E ⟨h, g, d, t, os⟩ := by
  have f3 := tc_sub
  have hT : (⟨h, g, d, t, os⟩ : Shared).TypeIs (.ref C) "type" := ⟨_, hC, rfl⟩
  simp only [checkBuiltinCall, tc_kind, tc_split]
  repeat (any_goals (first
    | assumption
    | with_reducible refine wpAny_loadPart_at hC ?_
    | with_reducible refine wpAny_onRaise ?_
    | with_reducible refine wpAny_map ?_
    | wp_step))
end
section
variable {prog : Program} {w : World} {A : Around} {E : Value → Shared → Prop} {R : Result → Shared → Prop} {h : Heap} {g : Array GenState} {d : Drawn} {t : Nat} {os : OsState}
variable {nm q : Str} {C N : Addr} {bs bm bmB : List Value} {hdct : Bool} {sn : List Str} {sub : List Value} {ab : Bool} {col : Option Bool} {dd : Option Addr} {k0 k1 k2 k3 k5 : Option Value} {B newId initId : String} {rest : List Value} {kw : List (Str × Value)}
theorem kwNew (F : ExcBaseFacts B newId initId bmB) (hT : ∀ z : String, bm.contains (.type z) = bmB.contains (.type z)) (hC : h.get? C = some (excClassObj nm q C N bs bm hdct sn sub ab col dd k0 k1 k2 k3 k5 newId))
    (hq : R (.ok (.ret (.ref (h.objs.size + 1)))) ⟨(h.push (PySem.W.kdv_tup rest)).push (PySem.HandSPX.excO C h.objs.size), g, d, t, os⟩) (hrest : rest.length ≤ sizeLine) :
    codeAny (model prog w) A (.builtin newId ⟨.ref C :: rest, kw⟩) R ⟨h, g, d, t, os⟩ := by
  have c0 := F.ends
  have c1 : (Value.ref C :: bm).contains (.type B) = true := by rw [List.contains_cons, hT, F.hasB, Bool.or_true]
  have c2 : (Value.ref C :: bm).contains (.type "AttributeError") = false := by rw [List.contains_cons, hT, F.noAttr]; rfl
  have c3 : (Value.ref C :: bm).contains (.type "NameError") = false := by rw [List.contains_cons, hT, F.noName]; rfl
  refine codeAny_builtinAt F.entry ?_
  unfold Builtin.«BaseException.__new__»
  refine wpAt_bind ?_
  show wpAt _ _ _ (stack >>= _) _ _ _
  refine wpAt_bind (wpAt_stack fun p below => wpAt_of_wpAny ?_)
  wp_walk
  refine wpAt_of_wpAny ?_
  rw [F.owner]
  repeat (first
    | with_reducible refine wpAny_madeHere_exc F.canon hC ?_
    | with_reducible refine wpAny_loadPart_at hC ?_
    | (with_reducible refine wpAny_isSubtype_exc hC ?_
       first
       | rw [c1]
       | rw [c2]
       | rw [c3])
    | wp_step)
  show R _ _
  rw [Heap.size_push]
  exact hq
theorem kwTypeCall (F : ExcBaseFacts B newId initId bmB) (hT : ∀ z : String, bm.contains (.type z) = bmB.contains (.type z)) {fI : Addr} {Q : Fin → Shared → Prop} (hC : h.get? C = some (excClassObj nm q C N bs bm hdct sn sub ab col dd k0 k1 k2 k3 k5 newId))
    (hi : PySem.W.Looks (model prog w) h (typeLookup (.ref C) "__init__") (some (.ref fI))) (hb : ∀ self, PySem.W.Looks (model prog w) h (bindSpecial (.ref fI) self) (.ref fI, [self])) (hrest : rest.length ≤ sizeLine)
    (hq : codeAny (model prog w) A (.call (.ref fI) ⟨.ref (h.objs.size + 1) :: rest, kw⟩) (fun r s' => match r with | .ok (.ret v) => v = .none ∧ Q (.done (.ret (.ref (h.objs.size + 1)))) s' | .ok _ => False | .error e => E e s')
      ⟨(h.push (PySem.W.kdv_tup rest)).push (PySem.HandSPX.excO C h.objs.size), g, d, t, os⟩) :
    wpAny (model prog w) A (Builtin.«type.__call__» ⟨.ref C :: rest, kw⟩) Q E ⟨h, g, d, t, os⟩ := by
  repeat (first
    | with_reducible refine wpAny_loadPart_at hC ?_
    | with_reducible refine wpAny_madeBy_exc hC ?_
    | wp_step)
  refine codeAny_call_builtin_code (Code.quiet_builtin _ F.quiet) (kwNewCheck F hT hC (kwNew F hT hC ?_ hrest))
  have kp : ∀ b o, h.get? b = some o → ((h.push (PySem.W.kdv_tup rest)).push (PySem.HandSPX.excO C h.objs.size)).get? b = some o := fun b o e => Heap.get?_push_of_some _ (Heap.get?_push_of_some _ e)
  have hC1 := kp _ _ hC
  have hg : ((h.push (PySem.W.kdv_tup rest)).push (PySem.HandSPX.excO C h.objs.size)).get? (h.objs.size + 1) = some (PySem.HandSPX.excO C h.objs.size) := by heap_get
  have c4 : (Value.ref C :: bm).contains (.ref C) = true := by simp
  show wpAny _ _ _ _ _ _
  unfold isInstance
  repeat (first
    | with_reducible refine wpAny_loadPart_at hg ?_
    | (with_reducible refine wpAny_isSubtype_exc hC1 ?_
       rw [c4])
    | wp_step)
  show wpAny _ _ (typeLookup (.ref C) _) _ _ _
  refine (hi.keeps kp).at (wpAny_holding (wpAny_bind (((hb (.ref (h.objs.size + 1))).keeps kp).at (wpAny_bind (wpAny_call (codeAny_mono hq fun r s' z => ?_))))))
  cases r with
  | error e => exact z
  | ok f =>
    cases f with
    | ret v =>
      obtain ⟨rfl, z⟩ := z
      first
      | exact wpAny_pure (wpAny_pure z)
      | (wp_walk
         exact z)
    | next => exact z.elim
    | brk => exact z.elim
    | cont => exact z.elim
theorem kwCall (F : ExcBaseFacts B newId initId bmB) (hT : ∀ z : String, bm.contains (.type z) = bmB.contains (.type z)) {fI : Addr} (hC : h.get? C = some (excClassObj nm q C N bs bm hdct sn sub ab col dd k0 k1 k2 k3 k5 newId))
    (hi : PySem.W.Looks (model prog w) h (typeLookup (.ref C) "__init__") (some (.ref fI))) (hb : ∀ self, PySem.W.Looks (model prog w) h (bindSpecial (.ref fI) self) (.ref fI, [self])) (hrest : rest.length ≤ sizeLine)
    (hq : codeAny (model prog w) (A.under (.builtin "type.__call__" ⟨.ref C :: rest, kw⟩)) (.call (.ref fI) ⟨.ref (h.objs.size + 1) :: rest, kw⟩) (PySem.W.InitBack (h.objs.size + 1) R) ⟨(h.push (PySem.W.kdv_tup rest)).push (PySem.HandSPX.excO C h.objs.size), g, d, t, os⟩) :
    codeAny (model prog w) A (.call (.ref C) ⟨rest, kw⟩) R ⟨h, g, d, t, os⟩ := by
  have f1 := tc_lookup
  have f2 := tc_bind (.ref C)
  have hTy : (⟨h, g, d, t, os⟩ : Shared).TypeIs (.ref C) "type" := ⟨_, hC, rfl⟩
  refine codeAny_of_tree ?_
  show wpAny _ _ (callAny (.ref C) _) _ _ _
  repeat (any_goals (first
    | assumption
    | with_reducible refine wpAny_loadPart_at hC ?_
    | wp_step))
  refine ⟨rfl, codeAny_call_builtin_at (Code.quiet_builtin _ (by decide +kernel)) entry_typeCall (kwTcCheck hC (kwTypeCall F hT hC hi hb hrest (codeAny_mono hq fun r s' z => ?_)))⟩
  cases r with
  | error e => exact z
  | ok f => cases f <;> exact z
end
end XK
namespace XV
open PySem PySem.Spec PyProof.Rows L2
/-- a new own exception with its dict -/
abbrev newX (C d t0 : Addr) : Obj := { cls := .ref C, dict := some d, data := .fields #[.ref t0, .none, .none, .none, .bool false, .none] }
/-- an own exception of the class at C stands at a, with these attributes -/
structure ExAt (H : Hp) (a C : Addr) (fs : List (Str × V)) : Prop where
  ex : ∃ (oe : Obj) (d : Addr) (vs : Array Value), H a = some (pinO a oe) ∧ oe.cls = .ref C ∧ oe.dict = some d ∧ oe.data = .fields vs ∧ d ≠ a ∧ H d = some (.xd fs)
theorem ExAt.mono {H H' : Hp} {a C : Addr} {fs : List (Str × V)} (x : ExAt H a C fs) (s : ∀ b o, H b = some o → H' b = some o) : ExAt H' a C fs := by
  obtain ⟨oe, d, vs, h1, h2, h3, h4, h5, h6⟩ := x.ex
  exact ⟨oe, d, vs, s _ _ h1, h2, h3, h4, h5, s _ _ h6⟩
/-- the arguments of C(..) in the order of the parameters vs, then __init__, which keeps sp -/
def tMkx (C : Addr) (sp : Sp) (t : TA) : TE := fun σ H Q => t σ H fun vs H1 => vs.length ≤ 1000 ∧ ∀ a, H1 a = none → sp (.ref a :: vs) (upd H1 a (exo a C none))
  (fun v H2 => v = .non ∧ ∃ (d : Addr) (fs : List (Str × V)), H2 a = some (exo a C (some d)) ∧ H2 d = some (exd d fs) ∧ d ≠ a ∧ ∀ t0, Q (.ref a) (upd (upd H2 a (pinO a (newX C d t0))) d (.xd fs))) (fun _ _ _ => False)
section
variable {X : Cx} {pins : List (Addr × Obj)} {σ : L2.St} {H : Hp} {s : Shared} {C fI : Addr} {k : Nat} {fd : FuncData} {ps : List Str} {sp : Sp} {B newId initId : String} {tl : List Value} {CX : CXT}
/-- what was an exception in the making is read as one that is made -/
theorem inv_made {a d : Addr} {fs : List (Str × V)} (I : Inv X pins σ H s) (ea : H a = some (exo a C (some d))) (ed : H d = some (exd d fs)) (hda : d ≠ a) : ∃ t0, Inv X pins σ (upd (upd H a (pinO a (newX C d t0))) d (.xd fs)) s := by
  obtain ⟨t0, ho⟩ := exo_at I.hok ea
  obtain ⟨mA, hn, rel⟩ := exd_at I.hok ed
  have J := I.write (t' := s.toks) (h' := s.heap) (x := a) (e := a) (o := pinO a (newX C d t0)) (by rw [ea]; exact True.intro) (.inl rfl) (fun _ _ _ q => q) ⟨_, ho⟩ (pinO_ok ho)
  have there : ∃ u, s.heap.get? d = some u := let ⟨o, _, _, q, _⟩ := hn; ⟨o, q⟩
  have J2 := J.write (t' := s.toks) (h' := s.heap) (x := d) (e := d) (o := .xd fs) (by rw [upd_ne hda, ed]; exact True.intro) (.inl rfl) (fun _ _ _ q => q) there ⟨mA, hn, rel⟩
  exact ⟨t0, J2⟩
theorem run_mkx {kw : List (Str × Value)} {us ws : List Value} {vs : List V} {Q : VK} (FB : ExcBaseFacts B newId initId tl) (T : ExCls X.K C newId tl) (iC : PySem.W.findIn X.K (.ref C) "__init__" = some (some (.ref fI))) (tI : PySem.W.typeIn X.K (.ref fI) = some (.type "function"))
    (F : FnOk X.prog X.w X.K X.mg X.base CX k fI fd ps sp) (hr : Room (k + 1) X.A) (hb : ∀ (s : Shared) (x : Value), X.K.In s.heap → BindsTo s fd ⟨x :: us, kw⟩ (ps.zip (x :: ws))) (hx : Passes CX X (fun _ _ _ => False)) (I : Inv X pins σ H s) (r : Vals vs ws) (hus : us.length ≤ sizeLine)
    (h : ∀ a, H a = none → sp (.ref a :: vs) (upd H a (exo a C none)) (fun v H2 => v = .non ∧ ∃ (d : Addr) (fs : List (Str × V)), H2 a = some (exo a C (some d)) ∧ H2 d = some (exd d fs) ∧ d ≠ a ∧ ∀ t0, Q (.ref a) (upd (upd H2 a (pinO a (newX C d t0))) d (.xd fs))) (fun _ _ _ => False)) :
    wpAny (model X.prog X.w) X.A (call (.ref C) us kw) (EP X pins σ Q) X.xe s := by
  obtain ⟨nm, N, qn, bs, bm, hdct, sn, sub, ab, col, dd, k0, k1, k2, k3, k5, hC, hT⟩ := PySem.W.excInit_of I.kIn T.ini
  obtain ⟨hp, g, dr, tk, os⟩ := s
  have hsz : hp.objs.size ≤ hp.objs.size + 1 := Nat.le_succ _
  have hn := I.hok.fresh hsz
  have hq := h _ hn
  have kp : ∀ b o, hp.get? b = some o → ((hp.push (PySem.W.kdv_tup us)).push (PySem.HandSPX.excO C hp.objs.size)).get? b = some o := fun b o e => Heap.get?_push_of_some _ (Heap.get?_push_of_some _ e)
  have hg : ((hp.push (PySem.W.kdv_tup us)).push (PySem.HandSPX.excO C hp.objs.size)).get? (hp.objs.size + 1) = some (PySem.HandSPX.excO C hp.objs.size) := by heap_get
  have I2 : Inv X pins σ (upd H (hp.objs.size + 1) (exo (hp.objs.size + 1) C none)) ⟨(hp.push (PySem.W.kdv_tup us)).push (PySem.HandSPX.excO C hp.objs.size), g, dr, tk, os⟩ := I.laid (t' := tk) kp hsz (exo_ok hg)
  refine wpAny_call (XK.kwCall FB hT hC (PySem.W.looks_findIn I.kIn iC) (fun self => PySem.W.bind_fn I.kIn self tI) hus
    (codeAny_mono (F.run _ X.stack _ _ ⟨.ref (hp.objs.size + 1) :: us, kw⟩ (.ref (hp.objs.size + 1) :: ws) (.ref (hp.objs.size + 1) :: vs) _ (fun _ _ _ => False) (hr.make C us kw) (I2.env0.make C us kw) (hb _ _ I2.kIn) (.cons rfl r) hq) fun r s' hq' => ?_))
  cases r with
  | error er => exact hx pins σ _ _ er s' I2 hq'
  | ok fl =>
    cases fl with
    | ret u =>
      obtain ⟨v, H2, I3, rv, ev, d, fs, ea, ed, hda, q2⟩ := I2.after hq'
      subst ev
      obtain ⟨t0, J⟩ := inv_made I3 ea ed hda
      exact ⟨rv, ⟨.ref (hp.objs.size + 1), _, J, rfl, q2 t0⟩⟩
    | next => exact False.elim hq'
    | brk => exact False.elim hq'
    | cont => exact False.elim hq'
end
section
variable {X : Cx} {C fI : Addr} {k : Nat} {fd : FuncData} {ps : List Str} {sp : Sp} {B newId initId : String} {tl : List Value} {CX : CXT} {x : Str} {p pos : Pos} {e : Expr} {es : List Expr} {kws : List Keyword} {t : TA}
/-- C(e, ..) by position -/
theorem pe_mkx (FB : ExcBaseFacts B newId initId tl) (T : ExCls X.K C newId tl) (iC : PySem.W.findIn X.K (.ref C) "__init__" = some (some (.ref fI))) (tI : PySem.W.typeIn X.K (.ref fI) = some (.type "function"))
    (F : FnOk X.prog X.w X.K X.mg X.base CX k fI fd ps sp) (hr : Room (k + 1) X.A) (hb : Binds X.K fd ps []) (hx : Passes CX X (fun _ _ _ => False)) (hg : Gl X x) (hm : X.mg x = some (.ref C)) (ha : PA X (e :: es) t)
    (hdb : (x == ("__debug__" : Str)) = false := by decide) (he : starEach (e :: es) X.env = (false, eval e X.env) :: starEach es X.env := by rfl) (hpl : (backTo pos (starEach es X.env)).any (·.1) = false := by rfl) :
    PE X (.Call (.Name x p) (e :: es) [] pos) (tMkx C sp t) := by
  refine ⟨fun pins s σ H Q I h => wpAny_Call_Name_kw (ld_glob I hg hm ?_ hdb)⟩
  refine PySem.W.callWith_K (h₀ := X.base) I.ok.mod.kin T.kC (thn (ha.run pos pins s σ H _ I h) fun us s1 hv => ?_) he hpl
  obtain ⟨vs, H1, I1, r1, hz, q1⟩ := hv
  refine ⟨I1.kIn, ?_⟩
  have hn := I1.hok.fresh (Nat.le_refl s1.heap.objs.size)
  have hl : us.length + 1 = ps.length := by
    have e1 := F.len _ _ _ _ (q1 _ hn)
    rw [← r1.length]
    exact e1
  show wpAny _ _ (call (.ref C) us) _ _ _
  refine run_mkx FB T iC tI F hr (fun s' y X' => ?_) hx I1 r1 (by rw [← r1.length, sizeLine_eq]; omega) q1
  have b := hb s' (y :: us) X' (by rw [List.append_nil]; exact hl)
  rw [List.append_nil] at b
  exact b
/-- how a call by names alone binds behind self: g arranges the values -/
structure KwB (K : PySem.W.Frag) (fd : FuncData) (ps ks : List Str) (gU : List Value → List Value) (gV : List V → List V) : Prop where
  to : ∀ (s : Shared) (y : Value) (zs : List Value), K.In s.heap → zs.length = ks.length → BindsTo s fd ⟨[y], ks.zip zs⟩ (ps.zip (y :: gU zs))
  rel : ∀ {vs : List V} {zs : List Value}, Vals vs zs → vs.length = ks.length → Vals (gV vs) (gU zs)
def tKw (n : Nat) (gV : List V → List V) (t : TA) : TA := fun σ H Q => t σ H fun vs H1 => vs.length = n ∧ Q (gV vs) H1
theorem pe_mkxK {ks : List Str} {gU : List Value → List Value} {gV : List V → List V} (FB : ExcBaseFacts B newId initId tl) (T : ExCls X.K C newId tl) (iC : PySem.W.findIn X.K (.ref C) "__init__" = some (some (.ref fI))) (tI : PySem.W.typeIn X.K (.ref fI) = some (.type "function"))
    (F : FnOk X.prog X.w X.K X.mg X.base CX k fI fd ps sp) (hr : Room (k + 1) X.A) (hb : KwB X.K fd ps ks gU gV) (hx : Passes CX X (fun _ _ _ => False)) (hg : Gl X x) (hm : X.mg x = some (.ref C)) (ha : PK X kws t)
    (hall : (backToKw pos (keywordEach kws X.env)).all (·.1.isSome) = true := by rfl) (hks : (backToKw pos (keywordEach kws X.env)).filterMap (·.1) = ks := by rfl) (hdb : (x == ("__debug__" : Str)) = false := by decide)
    (hpl : ((backTo pos (starEach [] X.env)).any (·.1) || (backToKw pos (keywordEach kws X.env)).any (·.1.isNone)) = false := by rfl) :
    PE X (.Call (.Name x p) [] kws pos) (tMkx C sp (tKw ks.length gV t)) := by
  refine ⟨fun pins s σ H Q I h => wpAny_Call_Name_kw (ld_glob I hg hm ?_ hdb)⟩
  refine PySem.W.callWith_KW0 (h₀ := X.base) I.ok.mod.kin T.kC hall (thn (ha.run pos pins s σ H _ I h) fun zs s1 hv => ?_) hpl
  obtain ⟨vs, H1, I1, r1, hl, hz, q1⟩ := hv
  refine ⟨I1.kIn, ?_⟩
  rw [hks]
  exact run_mkx (us := []) FB T iC tI F hr (fun s' y X' => hb.to s' y zs X' (by rw [← r1.length]; exact hl)) hx I1 (hb.rel r1 hl) (Nat.zero_le _) q1
end
end XV
namespace XV
open PySem PySem.Spec PyProof.Rows L2
/-- the facts of K that isinstance asks of every own class -/
structure IsK (K : PySem.W.Frag) : Prop where
  sp : PySem.W.specialIn K (.builtin "object.__class__") "__get__" = some (some (.builtin "getset_descriptor.__get__"))
  tk : PySem.W.takesIn K (.builtin "object.__class__") = some true
section
variable {prog : Program} {w : World} {A : Around} {E : Value → Shared → Prop} {s : Shared} {K : PySem.W.Frag} {x C : Addr} {ox od : Obj} {newId : String} {tl : List Value}
theorem clsOb (h : PySem.W.hasDictIn K C = true) : ∃ oc dc cd sl, K.lookup C = some ⟨oc, dc, .cls cd, sl⟩ := by
  obtain ⟨cd, e, _⟩ := PySem.W.any_some h
  unfold PySem.W.clsIn at e
  split at e
  · exact ⟨_, _, _, _, by assumption⟩
  · cases e
theorem clsAsk {Q : Option Value → Shared → Prop} (T : ExCls K C newId tl) (F : IsK K) (X : K.In s.heap) (I : PySem.W.InstAt s.heap x ox C (some od)) (h : Q (some (.ref C)) { s with toks := s.toks + 1 }) : wpAny (model prog w) A (getAttr? (.ref x) "__class__") Q E s := by
  have fo : PySem.W.findObj K C (some od) "__class__" = some (.bind (.builtin "getset_descriptor.__get__") (.builtin "object.__class__")) := by
    obtain ⟨cd, e, _⟩ := PySem.W.any_some T.dic
    unfold PySem.W.findObj
    rw [e, Option.bind_some, T.cl, Option.bind_some]
    simp [F.sp, F.tk]
  obtain ⟨hp, g, d, t, os⟩ := s
  have a0 := I.type (M := model prog w)
  have a1 := PySem.W.looks_findIn (M := model prog w) X T.ga
  have a2 := PySem.W.looks_findIn (M := model prog w) X T.gg
  have a3 := PySem.W.looks_find (M := model prog w) X I fo
  have isB : PySem.W.Looks (model prog w) hp (isInstance (.ref x) (.type "BaseException")) true := a0.andThen (PySem.W.looks_subIn X T.exC)
  have ne0 : (Value.builtin "BaseException.__getattribute__" == Value.builtin "object.__getattribute__") = false := by decide +kernel
  have ne1 : (onTheHeap (Value.ref C) && Value.builtin "BaseException.__getattribute__" == Value.builtin "object.__getattribute__") = false := by
    rw [ne0]
    rfl
  unfold getAttr? getAttrBy? getAttrBy
  refine wpAny_bind (wpAny_mkText (wpAny_bind (wpAny_attempt (wpAny_holding (wpAny_bind (a0.at (wpAny_bind (a1.at ?_))))))))
  show wpAny _ _ (if (onTheHeap (Value.ref C) && Value.builtin "BaseException.__getattribute__" == Value.builtin "object.__getattribute__") = true then _ else _) _ _ _
  rw [ne1, if_neg Bool.false_ne_true]
  unfold getAttrByItsOwn hookBefore
  refine wpAny_bind ?_
  rw [if_pos (show onTheHeap (Value.ref C) = true from rfl)]
  refine a2.at (wpAny_bind (wpAny_attempt (wpAny_holding ?_)))
  unfold callGetattribute
  rw [if_neg (show ¬ ((false && onTheHeap (Value.builtin "BaseException.__getattribute__")) = true) from Bool.false_ne_true)]
  unfold boundAndCalled
  rw [PySem.F.excAttr_ValueError.ga.bind (.ref x)]
  refine wpAny_bind (wpAny_pure ?_)
  show wpAny _ _ (call (.builtin "BaseException.__getattribute__") [.ref x, .str "__class__" t]) _ _ _
  refine wpAny_call (codeAny_call_builtin PySem.F.excAttr_ValueError.ga.plain PySem.F.entry_bexc_ga ?_)
  refine @PySem.W.check_slot (model prog w) _ _ ⟨hp, g, d, t + 1, os⟩ "BaseException.__getattribute__" "BaseException" "__getattribute__" (.ref x) [.str "__class__" t] [] _ (by decide +kernel) (by decide +kernel) isB (PySem.F.args_bexc_ga (.ref x) (.str "__class__" t)) ?_
  unfold Builtin.«object.__getattribute__»
  refine wpAny_bind (wpAny_of_eq (a := ((Value.ref x : Value), [Value.str "__class__" t])) (by first | rfl | (simp only [slotArgs]; rfl)) ?_)
  refine wpAny_bind (wpAny_pure (wpAny_bind (a0.at (wpAny_bind (a3.at ?_)))))
  show wpAny _ _ (holding [Value.builtin "object.__class__"] (call (.builtin "getset_descriptor.__get__") [.builtin "object.__class__", .ref x, .ref C]) >>= ret) _ _ _
  refine wpAny_bind (wpAny_holding (wpAny_call (PySem.W.class_get (s := ⟨hp, g, d, t + 1, os⟩) X I T.mro (wpAny_pure ?_))))
  show wpAny _ _ (handedOut (.ref C)) _ _ _
  rw [PySem.W.handedOut_of (v := .ref C) rfl]
  first
  | exact wpAny_pure (wpAny_pure h)
  | exact wpAny_pure h
  | exact wpAny_pure (wpAny_bind (wpAny_pure (wpAny_pure h)))
theorem kitx_x (T : ExCls K C newId tl) (F : IsK K) : PySem.W.KitX K (.ref x) (.ref C) (fun h => PySem.W.InstAt h x ox C (some od)) where
  ty := fun _ _ _ I => I.type
  it := fun _ _ X _ => by
    obtain ⟨_, _, _, _, ho⟩ := clsOb T.dic
    intro A' Q' E' s' k q
    exact wpAny_bind (wpAny_loadPart (k _ _ (X _ _ ho)) (wpAny_pure q))
  ne := fun h tp dd its n sl X htp => by
    obtain ⟨_, _, _, _, ho⟩ := clsOb T.dic
    refine Bool.eq_false_iff.mpr fun q => ?_
    have e : C = tp := Value.ref.inj (beq_iff_eq.mp q)
    rw [← e, X _ _ ho] at htp
    cases htp
  ca := fun X I k => clsAsk T F X I k
end
/-- isinstance(e, c), e an own exception that stands at a -/
def rIsX (K : PySem.W.Frag) : List V → Hp → VK → Prop := fun xs H Q => ∃ (a C : Addr) (fs : List (Str × V)) (newId : String) (tl : List Value) (c : V) (cv : Value) (b : Bool), xs = [.ref a, c] ∧ ClsV c cv ∧ ExAt H a C fs ∧ ExCls K C newId tl ∧ IsK K ∧ PySem.W.kitOne K (.ref C) cv = some b ∧ Q (.bl b) H
/-- e.f of such a one -/
def tXa (K : PySem.W.Frag) (f : Str) (te : TE) : TE := fun σ H Q => te σ H fun x H1 => ∃ (a C : Addr) (fs : List (Str × V)) (newId : String) (tl : List Value) (v : V), x = .ref a ∧ ExCls K C newId tl ∧ PySem.W.findIn K (.ref C) f = some none ∧ ExAt H1 a C fs ∧ fs.lookup f = some v ∧ Q v H1
section
variable {X : Cx}
theorem exAt_in {pins : List (Addr × Obj)} {σ : L2.St} {H : Hp} {s : Shared} {a C : Addr} {fs : List (Str × V)} (I : Inv X pins σ H s) (x : ExAt H a C fs) : ∃ (oe od : Obj) (mA : Str → Option Value), PySem.W.InstAt s.heap a oe C (some od) ∧ (∀ name, PySem.W.lookIn name od = some (mA name)) ∧ ∀ f, RelO (fs.lookup f) (mA f) := by
  obtain ⟨oe, d, vs, h1, h2, h3, h4, _, h5⟩ := x.ex
  have g1 := pinO_at I.hok h1
  obtain ⟨mA, hn, hr⟩ : ∃ mA, s.heap.Ns1 d mA ∧ ∀ f, RelO (fs.lookup f) (mA f) := I.hok d _ h5
  obtain ⟨od, ho, hl⟩ := lookIn_ns hn
  refine ⟨oe, od, mA, ⟨g1, h2, ?_, ?_⟩, hl, hr⟩
  · unfold PySem.W.notCls
    rw [h4]
  · rw [h3]
    exact ho
theorem call_isX : CallR X (.builtin "isinstance") (rIsX X.K) := by
  intro pins s σ H xs us Q I r h
  obtain ⟨a, C, fs, newId, tl, c, cv, b, rfl, k, x, T, F, e, q⟩ := h
  obtain ⟨u1, u2, rfl, r1, r2⟩ := vals2 r
  cases r1
  have e2 := k.eq r2
  subst e2
  obtain ⟨oe, od, mA, J, _, _⟩ := exAt_in I x
  exact PySem.W.kia_one (kitx_x T F) I.kIn J e (fun z => nomatch z) fun tk => ⟨.bl b, H, I.tok tk, rfl, q⟩
theorem pe_xa {e : Expr} {te : TE} {f : Str} {pos : Pos} (he : PE X e te) (hb : attributeBase e f X.env (eval e X.env) = eval e X.env := by rfl) : PE X (.Attribute e f pos) (tXa X.K f te) := by
  refine ⟨fun pins s σ H Q I h => attr_of hb (thn (he.run pins s σ H _ I h) fun u s1 hh => ?_)⟩
  obtain ⟨x, H1, I1, rx, a, C, fs, newId, tl, v, rfl, T, hno, ex, l, q⟩ := hh
  cases rx
  obtain ⟨oe, od, mA, J, hl, hr⟩ := exAt_in I1 ex
  obtain ⟨u, hu, ru⟩ := RelO.some_of (v := v) (o := mA f) (by rw [← l]; exact hr f)
  exact HandSPX.exc_get I1.kIn J T.ga T.gg T.exC (PySem.W.findObj_own T.dic hno rfl (by rw [hl, hu])) (handed_of ru) ⟨v, H1, I1.tok _, ru, q⟩
end
end XV
namespace XV
open PySem PySem.Spec PyProof.Rows L2
/-! a made exception, raised -/
def tRaiseV (K : PySem.W.Frag) (H0 : Hp) (te : TE) : L2.St → Hp → XK → Prop := fun σ H Q => te σ H fun x H1 => ∃ (a C d t0 : Addr), x = .ref a ∧ H1 a = some (pinO a (newX C d t0)) ∧ Fr0 H0 a ∧ PySem.W.subIn K (.ref C) (.type "BaseException") = some true ∧ PySem.W.typeIn K (.ref C) = some (.type "type") ∧ Q (.ref C) (some d) (delH H1 a)
theorem pmk_val {X : Cx} {e : Expr} {te : TE} {K : PySem.W.Frag} {H0 : Hp} (eK : X.K = K) (eH : X.H_0 = H0) (hx : X.ex = []) (he : PE X e te) : PMk X e (tRaiseV K H0 te) := by
  subst eK eH
  intro pins s σ H Q I h
  refine wpAny_mono (he.run pins s σ H _ I h) (fun u s1 hu => ?_) fun _ _ x => x
  obtain ⟨v, H1, I1, r1, a, C, d, t0, rfl, ha, h0, hr1, hr2, q⟩ := hu
  cases r1
  have ho := pinO_at I1.hok ha
  obtain ⟨G, gs, ga, J⟩ := I1.untrack ha h0 hx
  exact ⟨a, _, _, { s1 with heap := G }, delH H1 a, .ref C, some d, rfl, J, gs, ga, ho, ⟨rfl, rfl⟩, rfl, rfl, delH_same, rfl, I1.bare, raises_own hr1 hr2, q⟩
/-! defs that may be called while an exception is handled -/
structure FnW (P : Program) (w : World) (K : PySem.W.Frag) (mg : Str → Option Value) (base : Heap) (k : Nat) (f : Addr) (fd : FuncData) (ps : List Str) (sp : Sp) : Prop where
  len : ∀ vs H Q E, sp vs H Q E → vs.length = ps.length
  run : ∀ (A : Around) (outer : List Env) (s : Shared) (H : Hp) (args : Args) (us : List Value) (vs : List V) (Q : VK), L2H.RoomH k A → Env0 P w K mg base A outer s H → BindsTo s fd args (ps.zip us) → Vals vs us → sp vs H Q E0 →
    codeAny (model P w) A (.call (.ref f) args) (CR CX0 outer P w H s Q E0) s
theorem FnW.ok {P : Program} {w : World} {K : PySem.W.Frag} {mg : Str → Option Value} {base : Heap} {k : Nat} {f : Addr} {fd : FuncData} {ps : List Str} {sp : Sp} (F : FnW P w K mg base k f fd ps sp) (hE : ∀ vs H Q E, sp vs H Q E → sp vs H Q E0) : FnOk P w K mg base CX0 k f fd ps sp :=
  ⟨F.len, fun A outer s H args us vs Q E hr e0 hb r h => codeAny_mono (F.run A outer s H args us vs Q (L2H.roomH_of hr) e0 hb r (hE _ _ _ _ h)) fun _ _ z => z⟩
theorem okW {P : Program} {w : World} {K : PySem.W.Frag} {mg : Str → Option Value} {base : Heap} {x qual : Str} {st : Stmt} {f : Addr} {fd : FuncData} {N ps : List Str} {k : Nat} {sp : Sp} (F : Fun K x qual st f fd) (S : FnScope N ps (defScope st)) (len : ∀ vs H Q E, sp vs H Q E → vs.length = ps.length)
    (hbody : ∀ (cdv : Value) (A : Around) (outer : List Env) (s : Shared) (H : Hp) (vs : List V) (Q : VK) (p : Addr × Obj), L2H.RoomH k (A.deeper (envOfC qual (defScope st) s.heap.objs.size f cdv)) → sp vs H Q E0 →
      ∃ t, PSs (L2H.cxH CX0 P w K mg base N qual (defScope st) f cdv A outer s H E0 p) (defBody st) t ∧ t { nx := fun _ H' => Q .non H', rt := Q } (start N vs) H) : FnW P w K mg base (k + 1) f fd ps sp := by
  obtain ⟨oc, od, kV, doc, pm, an, cdv, ct, osl, rfl, lk, hcd⟩ := F.ex
  refine ⟨len, fun A outer s H args us vs Q hr e0 hb r hsp => ?_⟩
  have hf := e0.bs f _ (e0.mod.kin _ _ lk)
  have KX : K.In s.heap := e0.mod.kin.keeps fun b o e => (e0.bs b o e).1
  have lim : s.heap.NoLimit := e0.mod.nolimit.keeps fun b o e => (e0.bs b o e).1
  have hk : ∀ y ∈ ps.zip us, (defScope st).names.lookup y.1 = some .local ∨ ((defScope st).names.lookup y.1 = some .cell ∧ ((cellsFrom (s.heap.objs.size + 1) (defScope st).names []).lookup y.1).isSome = true) := fun ⟨n, v⟩ hy => by
    rcases S.par n (List.of_mem_zip hy).1 with q | q
    · exact .inl q
    · exact .inr ⟨q, PySem.W.cellsFrom_some _ _ _ (.inl q)⟩
  refine codeAny_call_function hr.depth (KX _ _ lk) rfl S.co S.gen rfl (PySem.W.codeRec_of KX hcd) (hb _ _ _ _ (wpAny_newFunctionEnv_cells S.kind hk fun env he s1 x => ?_))
  subst he
  refine ⟨lim.keeps x.toInCall.keep, codeAny_func ?_⟩
  obtain ⟨t, ht, hq⟩ := hbody cdv A outer s H vs Q (f, _) (hr.deeper _) hsp
  have I := L2H.inv_startH (CX := CX0) (E := E0) (cd := cdv) S (p := (f, _)) ⟨hf.1, hf.2, fun z => (by have y := (e0.funs.mem z).1; rw [e0.mod.kin _ _ lk] at y; cases y), fun v z => nomatch z⟩ e0 (len _ _ _ _ hsp) r x
  refine wpAny_mono (ht.run [] s1 _ H _ I hq) (fun fl s' hs => ?_) fun e s' hs => hs
  cases fl with
  | ret u =>
    obtain ⟨v, σ', H', J, rv, q⟩ := hs
    exact ⟨v, H', J.os, J.bare, J.base, J.hok, rv, q⟩
  | next =>
    obtain ⟨σ', H', J, q⟩ := hs
    exact ⟨.non, H', J.os, J.bare, J.base, J.hok, rfl, q⟩
  | brk =>
    obtain ⟨_, _, _, q⟩ := hs
    exact False.elim q
  | cont =>
    obtain ⟨_, _, _, q⟩ := hs
    exact False.elim q
/-! the exception of an except suite, told to a def -/
/-- f(..) in the suite of the exception at a; its own dict at d -/
def tWx (a : Addr) (oe : Obj) (sp : Sp) (t : TA) : TE := fun σ H Q => t σ H fun vs H1 => sp vs (upd H1 a (pinO a oe)) (fun v H2 => H2 a = some (pinO a oe) ∧ Q v (del H2 a)) E0
theorem hok_pin {P : Program} {w : World} {H : Hp} {h : Heap} {a : Addr} {oe : Obj} (ok : HOk P w H h) (na : H a = none) (e : h.get? a = some oe) : HOk P w (upd H a (pinO a oe)) h := fun b o q => by
  by_cases hb : b = a
  · subst hb
    rw [upd_same] at q
    cases q
    exact pinO_ok e
  · rw [upd_ne hb] at q
    exact (ok b o q).stay (fun _ _ _ z => z) (fun c z => by rw [upd_ne (ne_of_none z na)]; exact z) fun c xs z => by rw [upd_ne (ne_of_none z na)]; exact z
theorem hok_unpin {P : Program} {w : World} {H : Hp} {h : Heap} {a : Addr} {oe : Obj} (ok : HOk P w H h) (ea : H a = some (pinO a oe)) : HOk P w (del H a) h := fun b o q => by
  have hb : b ≠ a := fun z => by
    rw [z, del_same] at q
    cases q
  rw [del_ne hb] at q
  exact (ok b o q).stay (fun _ _ _ z => z) (fun c z => by rw [del_ne (at_ne ea z ext_own)]; exact z) fun c xs z => by rw [del_ne (at_ne ea z ext_tup)]; exact z
theorem pe_wx {X : Cx} {a f : Addr} {oe : Obj} {pn : List (Addr × Obj)} {k : Nat} {fd : FuncData} {ps : List Str} {sp : Sp} {x : Str} {q pos : Pos} {e : Expr} {es : List Expr} {t : TA} (hba : X.base.get? a = none) (F : FnW X.prog X.w X.K X.mg X.base k f fd ps sp) (hr : L2H.RoomH k (X.A.mark (some (.ref a))))
    (hg : Gl (X.suite a ((a, oe) :: pn)) x) (hm : X.mg x = some (.ref f)) (hk : PySem.W.keepIn X.K (.ref f) = true) (hb : Binds X.K fd ps []) (ha : PA (X.suite a ((a, oe) :: pn)) (e :: es) t) (hdb : (x == ("__debug__" : Str)) = false := by decide)
    (he : starEach (e :: es) X.env = (false, eval e X.env) :: starEach es X.env := by rfl) (hpl : (backTo pos (starEach es X.env)).any (·.1) = false := by rfl) :
    PE (X.suite a ((a, oe) :: pn)) (.Call (.Name x q) (e :: es) [] pos) (tWx a oe sp t) := by
  refine ⟨fun pins s σ H Q I h => wpAny_Call_Name_kw (ld_glob I hg hm ?_ hdb)⟩
  refine PySem.W.callWith_K (h₀ := X.base) I.ok.mod.kin hk (thn (ha.run pos pins s σ H _ I h) fun us s1 hv => ?_) he hpl
  obtain ⟨vs, H1, I1, r, q1⟩ := hv
  refine ⟨I1.kIn, ?_⟩
  show wpAny _ _ (call (.ref f) us) _ _ _
  obtain ⟨pa, na, nL, nF, nc⟩ := I1.pin (a, oe) (List.mem_append_left _ List.mem_cons_self)
  have neb : ∀ {b o}, X.base.get? b = some o → b ≠ a := fun z y => by rw [y, hba] at z; cases z
  have nfr : ∀ b ∈ frs X.stack, b ≠ a := fun b hb z => (List.mem_cons.mp (I1.stkSub b hb)).elim (fun y => nL (z ▸ y)) (fun y => nF (z ▸ y))
  have e0 := I1.env0
  have e1 : Env0 X.prog X.w X.K X.mg X.base (X.A.mark (some (.ref a))) X.stack s1 (upd H1 a (pinO a oe)) :=
    ⟨e0.frames, e0.mod, fun b o z => ⟨(e0.bs b o z).1, by rw [upd_ne (neb z)]; exact (e0.bs b o z).2⟩, e0.bsz, e0.funs, fun b hb => by rw [upd_ne (nfr b hb)]; exact e0.frf b hb, hok_pin e0.hok na pa, e0.bare⟩
  have hl : us.length = ps.length := by
    rw [← r.length]
    exact F.len _ _ _ _ q1
  have b := hb s1 us I1.kIn (by rw [List.append_nil]; exact hl)
  rw [List.append_nil] at b
  refine wpAny_call (codeAny_mono (F.run _ X.stack s1 _ ⟨us, []⟩ us vs _ hr e1 b r q1) fun r s' hq => ?_)
  cases r with
  | error er => exact hq.elim
  | ok fl =>
    cases fl with
    | ret u =>
      obtain ⟨v, H2, os, bare, un, hok, rv, ea, q2⟩ := hq
      have keepA := pinO_at hok ea
      have un2 : Un (frs X.stack) [] H1 (del H2 a) s1.heap s'.heap := {
        keep := fun b o z n hf hx => by
          by_cases y : b = a
          · subst y
            rw [pa] at z
            cases z
            exact keepA
          · exact un.keep b o z (by rw [upd_ne y]; exact n) hf hx
        slot := fun b o z n hf hx => un.slot b o z (by rw [upd_ne (nfr b hf)]; exact n) hf hx
        free := fun b o z n hx => by
          by_cases y : b = a
          · rw [y, del_same]
          · rw [del_ne y]
            exact un.free b o z (by rw [upd_ne y]; exact n) hx
        there := un.there
        tups := fun b xs z => by
          have y := un.tups b xs (by rw [upd_ne (ne_of_none z na)]; exact z)
          rw [del_ne (ne_of_none z na)]
          exact y
        frzs := fun b o v z => by
          have y := un.frzs b o v (by rw [upd_ne (ne_of_none z na)]; exact z)
          rw [del_ne (ne_of_none z na)]
          exact y
        tbls := fun b ps z => by
          have y := un.tbls b ps (by rw [upd_ne (ne_of_none z na)]; exact z)
          rw [del_ne (ne_of_none z na)]
          exact y }
      exact ⟨v, del H2 a, I1.call' (ch := []) os un2 (hok_unpin hok ea) bare (fun b z => absurd z (by simp)), rv, q2⟩
    | next => exact hq.elim
    | brk => exact hq.elim
    | cont => exact hq.elim
end XV
namespace XV
open PySem PySem.Spec PyProof.Rows L2
abbrev Sui := Addr → Obj → Value → Option Addr → TS
/-- the ends of a suite whose name at slot i goes with it -/
abbrev goneE (D : Ends) (i : Nat) : Ends := { nx := fun σ H => D.nx (σ.set i none) H, rt := D.rt, bk := fun σ H => D.bk (σ.set i none) H, ct := fun σ H => D.ct (σ.set i none) H }
/-- what clauses «except c as n» (n in slot i) wish of an exception of the body -/
def wAll (K : PySem.W.Frag) (Wo : WX) (D : Ends) : List (Value × Nat × Sui) → WX
  | [] => Wo
  | (c, i, ts) :: r => fun cls d σ H => ∃ b, PySem.W.exmOne K cls c = some b ∧
      (b = true → ∀ (a : Addr) (oe : Obj), H a = none → Zc cls d oe → (∃ vs, oe.data = .fields vs) → ts a oe cls d (goneE D i) (σ.set i (some (.ref a))) H) ∧ (b = false → wAll K Wo D r cls d σ H)
inductive Clauses (X : Cx) : List ExceptHandler → List (Value × Nat × Sui) → Prop
  | nil : Clauses X [] []
  | cons {x n : Str} {c : Value} {i : Nat} {ts : Sui} {b₀ : Stmt} {suite : List Stmt} {np pos' : Pos} {hds : List ExceptHandler} {l : List (Value × Nat × Sui)} (hc : Names X x c) (hi : X.N[i]? = some n) (hn : X.env.kindOf n = some .local)
      (su : ∀ (a : Addr) (oe : Obj) (cls : Value) (d : Option Addr) (pn : List (Addr × Obj)), Zc cls d oe → (∃ vs, oe.data = .fields vs) → X.base.get? a = none → PSs (X.suite a ((a, oe) :: pn)) (b₀ :: suite) (ts a oe cls d)) (r : Clauses X hds l) :
      Clauses X (.ExceptHandler (some (.Name x np)) (some n) (b₀ :: suite) pos' :: hds) ((c, i, ts) :: l)
section
variable {X : Cx} {body : List Stmt} {h₀ : ExceptHandler} {hds : List ExceptHandler} {l : List (Value × Nat × Sui)} {pos : Pos} {tb : WX → TS} {Wo : WX}
theorem ps_try_all (hs : X.stack = X.env :: X.outer) (hf : X.env.frame = some X.env.locals) (hN : X.N.Nodup) (tk : Takes X Wo)
    (hb : ∀ (W : WX) (pn : List (Addr × Obj)) (xe : Value → Shared → Prop), Takes (X.tr pn xe) W → PassesOwn (model X.prog X.w) X.A X.env xe → PSs (X.tr pn xe) body (tb W))
    (hh : Clauses X (h₀ :: hds) l) : PS X (.Try body (h₀ :: hds) [] [] pos) (fun D σ H => tb (wAll X.K Wo D l) D σ H) := by
  refine ⟨fun pins s σ H D I h => wpAny_Try_except (wpAny_mono ((hb (wAll X.K Wo D l) (X.pn ++ pins) _ (fun u s' xx => ?_) PassesOwn.looking).run [] s σ H D (I.toTry _) h) (fun f s1 q => ?_) (fun e s1 he => he))⟩
  · have ok := I.ok
    have frs' : X.A.frames = some (X.env :: X.outer) := by rw [ok.frames, hs]
    obtain ⟨a, B, sI, pins', σ', H', cls, d, rfl, J', nb, up, sky, na, os, ag, w⟩ := xx
    have J : Inv X pins σ' H' sI := J'.ofTry ok
    have sky2 : Sky B (X.env :: X.outer) a (Zc cls d) X.env.locals s'.heap := by rw [← hs]; exact sky
    show wpAny (model X.prog X.w) X.A (noteFrame (.ref a) X.env) _ _ _
    refine Sky.land Zc.steady frs' hf sky2 fun h3 fl3 up3 => ?_
    have J3 : Inv X pins σ' H' { s' with heap := h3 } := J.landed nb fl3.1 (up.trans up3) os ag
    obtain ⟨oe3, vs3, he3, hz3, hd3⟩ := fl3.there
    have nfr : a ∉ frs (X.env :: X.outer) := fun hm => by
      obtain ⟨_, o', e', hnf⟩ := fl3.2.2.1.mem hm
      rw [he3] at e'
      cases e'
      exact hnf _ hd3
    have nL : a ≠ X.env.locals := fun z => nfr (List.mem_filterMap.mpr ⟨X.env, List.mem_cons_self, by rw [hf, z]⟩)
    have nF : a ∉ X.fs := fun hm => by
      obtain ⟨e, he, q⟩ := List.mem_filterMap.mp hm
      exact nfr (List.mem_filterMap.mpr ⟨e, List.mem_cons_of_mem _ he, q⟩)
    have nba : X.base.get? a = none := by
      cases z : X.base.get? a with
      | none => rfl
      | some o =>
        have y := nb a o (J.bk a o z) (by rw [hs]; exact nfr)
        rw [fl3.2.1] at y
        cases y
    have S3 := J3.suite he3 hd3 na nL nF
    have go : ∀ {hds' : List ExceptHandler} {l' : List (Value × Nat × Sui)}, Clauses X hds' l' → wAll X.K Wo D l' cls d σ' H' → wpAny (model X.prog X.w) X.A (handleBy (.ref a) X.env hds') (SP X pins D) X.xe { s' with heap := h3 } := by
      intro hds' l' hk
      induction hk with
      | nil =>
        intro w
        obtain ⟨_, _, _, oe, vs, T, oT, ts', he, hz, hd, h1, hr⟩ := id fl3
        refine wpAny_handleBy_nil ?_
        unfold PySem.passOn
        refine wpAny_bind (wpAny_field he hd h1 ?_)
        rw [if_neg (show ¬ ((Value.ref T == Value.none) = true) from by simp)]
        have fin : wpAny (model X.prog X.w) X.A (setFlight (.ref a) X.env.frame) (fun _ s4 => wpAny (model X.prog X.w) X.A (throw (.ref a) : Sem Flow) (SP X pins D) X.xe s4) X.xe { s' with heap := h3 } := by
          rw [hf]
          exact HandSPX.setFlight_upZ fl3 fun h4 hh4 up4 => wpAny_throw (tk _ _ ⟨a, B, sI, pins, σ', H', cls, d, rfl, J, nb, (up.trans up3).trans up4, .inr (.inr (by rw [hs]; exact hh4)), na, os, ag, w⟩)
        first
        | exact wpAny_bind (wpAny_pure (wpAny_bind fin))
        | exact wpAny_bind fin
      | @cons x n c i ts b₀ suite np pos' hds2 l2 hc hi hn su r ih =>
        intro w
        obtain ⟨b, hb1, yes, no⟩ := w
        have loc : Loc X.env.scope n := .inl hn
        refine wpAny_handleBy_cons (codeAny_handlers_test ?_) (by intro q; cases q)
        have LT : PySem.W.Looks (model X.prog X.w) h3 (typeOf (.ref a)) cls := fun A Q E s k q => wpAny_typeOf_ref (k _ _ he3) (by rw [hz3.1]; exact q)
        have LM := PySem.W.exm_one (M := model X.prog X.w) J3.kIn LT hb1
        have ask : ∀ {Q : Value → Shared → Prop} {E : Value → Shared → Prop}, Q c { s' with heap := h3 } → wpAny (model X.prog X.w) (X.A.mark (some (.ref a))) (eval (.Name x np) X.env) Q E { s' with heap := h3 } := fun {Q E} q => by
          obtain ⟨hg, hdb, hm | ⟨hm, hv, hnn⟩⟩ := hc
          · exact ld_glob (X := X.suite a ((a, oe3) :: (X.pn ++ pins))) S3 hg hm q hdb
          · exact ld_blt (X := X.suite a ((a, oe3) :: (X.pn ++ pins))) S3 hg hm hv q hnn hdb
        refine ask (LM.here ?_)
        cases b with
        | false =>
          show wpAny _ X.A (handleBy (.ref a) X.env hds2) _ _ _
          exact ih (no rfl)
        | true =>
          refine codeAny_handlers_suite_as (HandSPX.lands_againZ fl3 fun h4 fl4 up4 => ?_)
          have J4 : Inv X pins σ' H' { s' with heap := h4 } := J.landed nb fl4.1 ((up.trans up3).trans up4) os ag
          obtain ⟨oe4, vs4, he4, hz4, hd4⟩ := fl4.there
          refine store_ok (X := X.suite a ((a, oe4) :: (X.pn ++ pins))) (v := .ref a) (J4.suite he4 hd4 na nL nF) hN hi loc rfl (fun s5 S5 => ?_) (.inr hn)
          refine wpAny_mono ((su a oe4 cls d (X.pn ++ pins) hz4 ⟨_, hd4⟩ nba).run [] s5 _ H' _ S5 (yes rfl a oe4 na hz4 ⟨_, hd4⟩)) (fun f s6 q => ?_) (fun _ _ z => False.elim z)
          have over : ∀ {σ6 : L2.St} {H6 : Hp} {Q : Shared → Prop}, Inv (X.suite a ((a, oe4) :: (X.pn ++ pins))) [] σ6 H6 s6 → (∀ s7, Inv X pins (σ6.set i none) H6 s7 → Q s7) → wpAny (model X.prog X.w) X.A (do bindName X.env n .none; unbindBehindTheSuite X.env n pos') (fun _ s7 => Q s7) X.xe s6 :=
            fun S6 hq => gone_ok (S6.unsuite ok) hN hi hn hq
          cases f with
          | ret u =>
            obtain ⟨v6, σ6, H6, S6, r6, q6⟩ := q
            exact over S6 fun s7 J7 => ⟨_, _, _, J7, r6, q6⟩
          | next =>
            obtain ⟨σ6, H6, S6, q6⟩ := q
            exact over S6 fun s7 J7 => ⟨_, _, J7, q6⟩
          | brk =>
            obtain ⟨σ6, H6, S6, q6⟩ := q
            exact over S6 fun s7 J7 => ⟨_, _, J7, q6⟩
          | cont =>
            obtain ⟨σ6, H6, S6, q6⟩ := q
            exact over S6 fun s7 J7 => ⟨_, _, J7, q6⟩
    exact go hh w
  · cases f with
    | ret u =>
      obtain ⟨v, σ', H', J', r, q⟩ := q
      exact ⟨v, σ', H', J'.ofTry I.ok, r, q⟩
    | next =>
      obtain ⟨σ', H', J', q⟩ := q
      exact wpAny_execs_nil ⟨σ', H', J'.ofTry I.ok, q⟩
    | brk =>
      obtain ⟨σ', H', J', q⟩ := q
      exact ⟨σ', H', J'.ofTry I.ok, q⟩
    | cont =>
      obtain ⟨σ', H', J', q⟩ := q
      exact ⟨σ', H', J'.ofTry I.ok, q⟩
end
end XV
namespace Lw
open PySem PySem.Spec PyProof.Rows L2 XV
def top (i : Nat) : Stmt := PySem.Challenge.pw_bothleast_k67_lives_there_and_back.main.body.getD i (.Pass ⟨0, 0, 0, 0⟩)
def topOf (n : Str) : Stmt := (PySem.Challenge.pw_bothleast_k67_lives_there_and_back.main.body.find? fun s => match s with | .FunctionDef m .. => m == n | .ClassDef (name := m) .. => m == n | _ => false).getD (.Pass ⟨0, 0, 0, 0⟩)
/-- the built-in names that stand free -/
structure Bt (mg : Str → Option Value) : Prop where
  int : mg "int" = none
  len : mg "len" = none
  list : mg "list" = none
  tuple : mg "tuple" = none
  isinstance : mg "isinstance" = none
  all : mg "all" = none
  any : mg "any" = none
  range : mg "range" = none
  str : mg "str" = none
  repr : mg "repr" = none
  sorted : mg "sorted" = none
  enumerate : mg "enumerate" = none
  zip : mg "zip" = none
  min : mg "min" = none
  max : mg "max" = none
/-- a def of the text where it stands -/
structure Df (K : PySem.W.Frag) (mg : Str → Option Value) (nm : Str) (st : Stmt) (ps : List Str) (f : Addr) (fd : FuncData) : Prop where
  fn : Fun K nm nm st f fd
  bd : Binds K fd ps []
  g : mg nm = some (.ref f)
section
variable {X : Cx}
theorem cal {nm : Str} {st : Stmt} {ps : List Str} {f : Addr} {fd : FuncData} {k : Nat} {sp : Sp} {p pos : Pos} {e : Expr} {es : List Expr} {t : TA} (D : Df X.K X.mg nm st ps f fd) (G : FnOk X.prog X.w X.K X.mg X.base CX0 k f fd ps sp) (hr : Room k X.A) (ha : PA X (e :: es) t) (hg : Gl X nm := by rfl)
    (hdb : (nm == ("__debug__" : Str)) = false := by decide) (he : starEach (e :: es) X.env = (false, eval e X.env) :: starEach es X.env := by rfl) (hpl : (backTo pos (starEach es X.env)).any (·.1) = false := by rfl) : PE X (.Call (.Name nm p) (e :: es) [] pos) (tCall sp [] E0 t) :=
  pe_call G hr hg D.g D.fn.kp D.bd .nil pass0 ha hdb he hpl
theorem call_intI : CallR X (.type "int") (fun xs H Q => ∃ i, xs = [.int i] ∧ Q (.int i) H) := fun pins s σ H xs us Q I r ⟨i, e, q⟩ => call_int1 pins s σ H xs us Q I r (.inl ⟨i, e, q⟩)
theorem call_lenL : CallR X (.builtin "len") (fun xs H Q => ∃ p ys, xs = [.ref p] ∧ SqL X.K H p ys ∧ Q (.int ys.length) H) := fun pins s σ H xs us Q I r ⟨p, ys, e, h, q⟩ => call_len_seq pins s σ H xs us Q I r ⟨p, ys, e, .inl h, q⟩
theorem call_listL : CallR X (.type "list") (fun xs H Q => ∃ p ys, xs = [.ref p] ∧ SqL X.K H p ys ∧ ∀ l, H l = none → Q (.ref l) (upd H l (.lst ys))) := fun pins s σ H xs us Q I r ⟨p, ys, e, h, q⟩ => call_list_of pins s σ H xs us Q I r ⟨p, ys, e, .inl h, q⟩
end
/-- a statement, a word behind it, then the rest from this word alone -/
def tMid (t u : TS) : TS := fun D σ H => ∃ M : L2.St → Hp → Prop, t { D with nx := M } σ H ∧ ∀ σ' H', M σ' H' → u D σ' H'
theorem pss_mid {X : Cx} {st : Stmt} {rest : List Stmt} {t u : TS} (h1 : PS X st t) (h2 : PSs X rest u) : PSs X (st :: rest) (tMid t u) := by
  refine ⟨fun pins s σ H D I h => ?_⟩
  obtain ⟨M, a, b⟩ := h
  refine wpAny_execs_cons (thn (h1.run pins s σ H _ I a) fun f s1 q => ?_)
  cases f with
  | next =>
    obtain ⟨σ', H', I', q⟩ := q
    exact h2.run pins s1 σ' H' D I' (b σ' H' q)
  | ret v => exact q
  | brk => exact q
  | cont => exact q
section
variable {X : Cx}
/-- a call of a def that may raise -/
theorem calS {nm : Str} {st : Stmt} {ps : List Str} {f : Addr} {fd : FuncData} {k : Nat} {sp : Sp} {p pos : Pos} {e : Expr} {es : List Expr} {t : TA} {CX : CXT} {E : L2.St → XK} (D : Df X.K X.mg nm st ps f fd) (G : FnOk X.prog X.w X.K X.mg X.base CX k f fd ps sp) (hr : Room k X.A) (hx : ∀ σ, PassesAt CX X σ (E σ)) (ha : PA X (e :: es) t) (hg : Gl X nm := by rfl)
    (hdb : (nm == ("__debug__" : Str)) = false := by decide) (he : starEach (e :: es) X.env = (false, eval e X.env) :: starEach es X.env := by rfl) (hpl : (backTo pos (starEach es X.env)).any (·.1) = false := by rfl) : PE X (.Call (.Name nm p) (e :: es) [] pos) (tCallS sp E t) :=
  pe_callS G hr hg D.g D.fn.kp D.bd hx ha hdb he hpl
end
theorem same_new {H : Hp} {p : Addr} {o : HO} (hp : H p = none) : Same H (L2.upd H p o) := fun a u h => by rw [upd_ne (ne_of_none h hp)]; exact h
/-- the attributes of a made exception, the last one first -/
def flds (ns : List Str) (code : Str) (xs : List V) : List (Str × V) := ("code", .str code) :: (ns.zip xs).reverse
/-- what the __init__ of the class at C leaves -/
def spIni (C : Addr) (ns : List Str) (code : Str) : Sp := fun vs H Q _ => ∃ (a : Addr) (xs : List V), vs = .ref a :: xs ∧ xs.length = ns.length ∧ H a = some (exo a C none) ∧
  ∀ (dx : Addr) (H' : Hp), H dx = none → dx ≠ a → H' a = some (exo a C (some dx)) → H' dx = some (exd dx (flds ns code xs)) → (∀ b o, b ≠ a → H b = some o → H' b = some o) → Q .non H'
/-- an own exception class where it stands -/
structure XC (K : PySem.W.Frag) (mg : Str → Option Value) (nm qn : Str) (newId : String) (tl : List Value) (st : Stmt) (ns : List Str) (C f : Addr) (fd : FuncData) : Prop where
  T : ExCls K C newId tl
  iC : PySem.W.findIn K (.ref C) "__init__" = some (some (.ref f))
  tI : PySem.W.typeIn K (.ref f) = some (.type "function")
  F : Fun K "__init__" qn st f fd
  bd : Binds K fd ("self" :: ns) []
  g : mg nm = some (.ref C)
  nf : ∀ x ∈ ("code" : Str) :: ns, PySem.W.findIn K (.ref C) x = some none
theorem XC.no {K : PySem.W.Frag} {mg : Str → Option Value} {nm qn : Str} {newId : String} {tl : List Value} {st : Stmt} {ns : List Str} {C f : Addr} {fd : FuncData} (D : XC K mg nm qn newId tl st ns C f fd) {x : Str} (h : x ∈ ("code" : Str) :: ns := by simp) : PySem.W.findIn K (.ref C) x = some none := D.nf x h
theorem exat {H2 : Hp} {a C d t0 : Addr} {fs : List (Str × V)} (hda : d ≠ a) (e1 : H2 a = some (pinO a (newX C d t0))) (e2 : H2 d = some (.xd fs)) : ExAt H2 a C fs := ⟨_, _, _, e1, rfl, rfl, rfl, hda, e2⟩
theorem sN {H H1 : Hp} (s : Same H H1) {a : Addr} (h : H1 a = Option.none) : H a = Option.none := by
  cases e : H a with
  | none => rfl
  | some o => rw [s a o e] at h; cases h
/-- the facts behind a creation -/
structure MadeF (C : Addr) (fs : List (Str × V)) (H1 H3 : Hp) (a d t0 : Addr) : Prop where
  na : H1 a = none
  nd : H1 d = none
  da : d ≠ a
  pa : H3 a = some (pinO a (newX C d t0))
  pd : H3 d = some (.xd fs)
  sm : Same H1 H3
theorem mk_ini {C : Addr} {ns : List Str} {code : Str} {vs : List V} {H1 : Hp} {a : Addr} {Qi : VK} {E : XK} (hl : vs.length = ns.length) (ha : H1 a = none)
    (k : ∀ (d : Addr) (H2 : Hp), H2 a = some (exo a C (some d)) → H2 d = some (exd d (flds ns code vs)) → d ≠ a → (∀ t0, MadeF C (flds ns code vs) H1 (upd (upd H2 a (pinO a (newX C d t0))) d (.xd (flds ns code vs))) a d t0) → Qi .non H2) :
    spIni C ns code (.ref a :: vs) (upd H1 a (exo a C none)) Qi E := by
  refine ⟨a, vs, rfl, hl, upd_same, fun d H2 hd hda e1 e2 sm => k d H2 e1 e2 hda fun t0 => ?_⟩
  have hd0 : H1 d = none := by
    rw [upd_ne hda] at hd
    exact hd
  refine ⟨ha, hd0, hda, by rw [upd_ne hda.symm, upd_same], upd_same, fun b o h => ?_⟩
  have nb : b ≠ a := ne_of_none h ha
  rw [upd_ne (ne_of_none h hd0), upd_ne nb]
  exact sm b o nb (by rw [upd_ne nb]; exact h)
theorem lk_hit {f : Str} {v : V} {r : List (Str × V)} : List.lookup f ((f, v) :: r) = some v := by
  rw [List.lookup_cons]
  simp
theorem lk_miss {f g : Str} {v : V} {r : List (Str × V)} (h : (f == g) = false) : List.lookup f ((g, v) :: r) = List.lookup f r := by
  rw [List.lookup_cons, h]
/-- what H1 has beyond H0 -/
def dif (H0 H1 : Hp) : Hp := fun a => if H0 a = none then H1 a else none
theorem dif_of {H0 H1 : Hp} {a : Addr} {o : HO} (h : H0 a = none) (e : H1 a = some o) : dif H0 H1 a = some o := by rw [dif, if_pos h, e]
theorem of_dif {H0 H1 : Hp} {a : Addr} {o : HO} (h : dif H0 H1 a = some o) : H0 a = none ∧ H1 a = some o := by
  by_cases e : H0 a = none
  · rw [dif, if_pos e] at h
    exact ⟨e, h⟩
  · rw [dif, if_neg e] at h
    cases h
theorem dif_in {Kz H : Hp} : Same (dif Kz H) H := fun a u h => (of_dif h).2
/-- what was there is there still -/
def Up (H0 H1 : Hp) : Prop := ∀ a, H1 a = none → H0 a = none
theorem Up.refl (H : Hp) : Up H H := fun _ h => h
theorem Up.trans {H0 H1 H2 : Hp} (x : Up H0 H1) (y : Up H1 H2) : Up H0 H2 := fun a h => x a (y a h)
theorem Up.upd {K0 H : Hp} {p : Addr} {o : HO} (x : Up K0 H) : Up K0 (L2.upd H p o) := fun a h => by
  by_cases e : a = p
  · subst e
    rw [upd_same] at h
    cases h
  · rw [upd_ne e] at h
    exact x a h
end Lw
namespace Lw
open PySem PySem.Spec PyProof.Rows L2 XV TL
abbrev zDig : Str := "0123456789"
/-- what stands behind a sign -/
def dgL : List Nat → List Nat
  | 45 :: r => r
  | l => l
def isDg (c : Nat) : Bool := decide (c ∈ zDig.cps.toList)
def numOk (l : List Nat) : Bool := l == [48] || (decide (1 ≤ (dgL l).length) && (decide ((dgL l).length ≤ 9) && (((dgL l).head? != some 48) && (dgL l).all isDg)))
def valL : List Nat → Int
  | 45 :: r => -((NumText.digitsVal r : Nat) : Int)
  | l => ((NumText.digitsVal l : Nat) : Int)
def nv (l : List Nat) : V := if numOk l = true then .int (valL l) else .non
theorem dig_mem {c : Nat} (h : isDg c = true) : 48 ≤ c ∧ c ≤ 57 := by
  have h := of_decide_eq_true h
  have e : zDig.cps.toList = [48, 49, 50, 51, 52, 53, 54, 55, 56, 57] := by decide +kernel
  rw [e] at h
  simp only [List.mem_cons, List.not_mem_nil, or_false] at h
  omega
theorem numOk_len {l : List Nat} (h : numOk l = true) : l.length ≤ 10 := by
  unfold numOk at h
  rcases Bool.or_eq_true_iff.mp h with h | h
  · rw [eq_of_beq h]
    decide
  · simp only [Bool.and_eq_true, decide_eq_true_eq] at h
    unfold dgL at h
    split at h
    · rw [List.length_cons]
      omega
    · omega
theorem num_int {w : Str} (h : numOk (tl w) = true) : intText? w = some (valL (tl w)) ∧ w.length ≤ 640 := by
  have hl := numOk_len h
  have hw := len_tl w
  refine ⟨?_, by omega⟩
  have key : ∀ l : List Nat, l.all isDg = true → NumText.AllDigits l := fun l h c hc => dig_mem (List.all_eq_true.mp h c hc)
  unfold numOk at h
  rcases Bool.or_eq_true_iff.mp h with h | h
  · have e : tl w = [48] := eq_of_beq h
    rw [e]
    have := PySem.intText_digits (x := w) (by rw [show w.cps.toList = [48] from e]; intro c hc; rw [List.mem_singleton.mp hc]; decide) (by rw [show w.cps.toList = [48] from e]; decide) (by omega)
    rw [this]
    rw [show w.cps.toList = [48] from e]
    rfl
  · simp only [Bool.and_eq_true, decide_eq_true_eq] at h
    obtain ⟨h1, h2, h3, h4⟩ := h
    generalize hL : tl w = L at *
    unfold dgL at h1 h4
    split at h1
    · rename_i r
      have h4 : r.all isDg = true := h4
      have := PySem.intText_neg (x := w) (cs := r) hL (key r h4) (by intro e; rw [e] at h1; exact absurd h1 (by decide)) (by omega)
      rw [this]
      rfl
    · rename_i hne
      have h4 : L.all isDg = true := by
        split at h4
        · exact absurd rfl (hne _)
        · exact h4
      have := PySem.intText_digits (x := w) (by rw [show w.cps.toList = L from hL]; exact key L h4) (by rw [show w.cps.toList = L from hL]; intro e; rw [e] at h1; exact absurd h1 (by decide)) (by omega)
      rw [this, show w.cps.toList = L from hL]
      unfold valL
      split
      · exact absurd rfl (hne _)
      · rfl
theorem tl_cut1 (z : Str) : tl (cutS z (some 1) none) = (tl z).drop 1 := by
  have e : HT.sIx z.length 0 (some ((1 : Nat) : Int)) = min 1 z.length := HT.sIx_nat _ _ 1
  show ((z.cps.toList.drop (HT.sIx z.length 0 (some ((1 : Nat) : Int)))).take (z.length - HT.sIx z.length 0 (some ((1 : Nat) : Int)))) = _
  rw [e]
  have hz := len_tl z
  have h2 : z.cps.toList.drop (min 1 z.length) = (tl z).drop 1 := by
    by_cases h : 1 ≤ z.length
    · rw [Nat.min_eq_left h]
    · have h0 : (tl z).length = 0 := by omega
      have : tl z = [] := List.eq_nil_of_length_eq_zero h0
      rw [show z.cps.toList = [] from this, this]
      simp
  rw [h2, List.take_of_length_le (by rw [List.length_drop]; omega)]
theorem tl_cut01 (z : Str) : tl (cutS z none (some 1)) = (tl z).take 1 := by
  have e : HT.sIx z.length z.length (some ((1 : Nat) : Int)) = min 1 z.length := HT.sIx_nat _ _ 1
  show ((z.cps.toList.drop 0).take (HT.sIx z.length z.length (some ((1 : Nat) : Int)) - 0)) = _
  rw [e, Nat.sub_zero, List.drop_zero]
  have hz := len_tl z
  by_cases h : 1 ≤ z.length
  · rw [Nat.min_eq_left h]
  · have h0 : (tl z).length = 0 := by omega
    have : tl z = [] := List.eq_nil_of_length_eq_zero h0
    rw [show z.cps.toList = [] from this, this]
    simp
theorem starts_minus (z : Str) : Txt.startswith z "-" = ((tl z).take 1 == [45]) := by
  have hy : tl ("-" : Str) ≠ [] := by decide +kernel
  have e : tl ("-" : Str) = [45] := by decide +kernel
  have h : (Txt.startswith z "-" = true) ↔ pre (tl ("-" : Str)) ((tl z).drop 0) = true := by
    rw [← at_iff hy 0]
    show (decide _ && PySem.Builtin.Str.subAt z "-" 0) = true ↔ _
    rw [Bool.and_eq_true, decide_eq_true_eq]
    exact Iff.rfl
  rw [e, List.drop_zero] at h
  exact Bool.eq_iff_iff.mpr h
theorem cut_minus (z : Str) : decide (V.str (cutS z none (some 1)) = V.str "-") = ((tl z).take 1 == [45]) := by
  have e : tl ("-" : Str) = [45] := by decide +kernel
  rw [Bool.eq_iff_iff, decide_eq_true_eq, beq_iff_eq, ← tl_cut01, ← e]
  constructor
  · intro h
    injection h with h
    rw [h]
  · intro h
    rw [ext_tl h]
/-- the word without its sign -/
def dgS (z : Str) : Str := if ((tl z).take 1 == [45]) = true then cutS z (some 1) none else z
theorem tl_dgS (z : Str) : tl (dgS z) = dgL (tl z) := by
  unfold dgS
  cases h : tl z with
  | nil =>
    rw [if_neg (by decide)]
    exact h
  | cons c r =>
    by_cases hc : c = 45
    · subst hc
      rw [if_pos (by rfl), tl_cut1, h]
      rfl
    · rw [if_neg (by simp [hc]), h]
      unfold dgL
      split
      · rename_i r' e
        injection e with e1 e2
        exact absurd e1 hc
      · rfl
theorem dgS_len (z : Str) : (dgS z).length ≤ z.length := by
  unfold dgS
  split
  · exact cutS_length _ _ _
  · exact Nat.le_refl _
theorem eq_zero_str (w : Str) : decide (V.str w = V.str "0") = (tl w == [48]) := by
  have e : tl ("0" : Str) = [48] := by decide +kernel
  rw [Bool.eq_iff_iff, decide_eq_true_eq, beq_iff_eq, ← e]
  constructor
  · intro h
    injection h with h
    rw [h]
  · intro h
    rw [ext_tl h]
theorem eq_zero_sign (c : Nat) : decide (V.str ⟨#[c]⟩ = V.str "0") = decide (c = 48) := by
  rw [eq_zero_str]
  show ([c] == [48]) = _
  rw [Bool.eq_iff_iff, beq_iff_eq, decide_eq_true_eq]
  simp
theorem ite_b {c : Bool} {A B : Prop} (h1 : c = true → A) (h2 : c = false → B) : if c = true then A else B := by
  cases c with
  | true => exact h1 rfl
  | false =>
    rw [if_neg Bool.false_ne_true]
    exact h2 rfl
abbrev sNumIn : Stmt := topOf "number_in"
abbrev NnumIn : List Str := ["word", "digits", "sign"]
theorem scNumIn : FnScope NnumIn ["word"] (defScope sNumIn) := ⟨rfl, rfl, rfl, by decide +kernel, rfl, by decide +kernel, by decide +kernel⟩
def spNum : Sp := fun vs H Q _ => ∃ w : Str, vs = [.str w] ∧ w.length ≤ 100000 ∧ ∀ H', Same H H' → Q (nv (tl w)) H'
abbrev sIsNum : Stmt := topOf "_law_is_number"
abbrev NisNum : List Str := ["word", "digits", "x"]
theorem scIsNum : FnScope NisNum ["word"] (defScope sIsNum) := ⟨rfl, rfl, rfl, by decide +kernel, rfl, by decide +kernel, by decide +kernel⟩
def spIsNum : Sp := fun vs H Q _ => ∃ w : Str, vs = [.str w] ∧ w.length ≤ 100000 ∧ ∀ H', Same H H' → Q (.bl (numOk (tl w))) H'
section
variable {P : Program} {w : World} {K : PySem.W.Frag} {mg : Str → Option Value} {base : Heap}
theorem ok_numIn {f : Addr} {fd : FuncData} (F : Fun K "number_in" "number_in" sNumIn f fd) (T : Bt mg) : FnOk P w K mg base CX0 1 f fd ["word"] spNum := by
  refine F.ok scNumIn (fun vs H Q E h => ?_) (fun cdv A outer s H vs Q E hr h => ?_)
  · obtain ⟨z, rfl, _⟩ := h
    rfl
  · obtain ⟨z, rfl, hz, k⟩ := h
    refine ⟨_, pss_cons (ps_if (pt_cmpR op_eq (pv 0) (pe_str) (nomark _))
 (pss_one (ps_ret (pe_int)))
 (pss_nil))
 (pss_mid (ps_set (i := 1) scNumIn.nd rfl (by first | exact Or.inl rfl | exact Or.inr rfl) (pe_ifExp (pt_val (pe_m1 PySem.F.slot_str_startswith PySem.F.type_str_startswith mt_startswith (pv 0) pe_str)) (pe_slice sl_str (pv 0) (po_some (pe_int)) (po_none)) (pv 0)))
 (pss_cons (ps_if (PW.pt (pw_or (pt_not (pt_chain op_le op_le (pe_int) (pe_callB call_len (by rfl) T.len (by decide +kernel) (pa_cons (pv 1) pa_nil)) (pe_int))) (pw_or1 (pt_cmpR op_eq (pe_ix ix_str (pv 1) (pe_int) (fun _ _ => rfl)) (pe_str) (nomark _)))))
 (pss_one (ps_ret (pe_non)))
 (pss_nil))
 (pss_cons (ps_if (pt_not (pt_val (pe_callB (cr_all rfl) (by rfl) T.all (by decide +kernel) (pa_cons (pe_lc (own := [("sign", 2)]) (g := gName 2) (tt := tYes) rfl scNumIn.nd (pi_str (pv 1)) (blkOk_by (N := NnumIn) (sc := defScope sNumIn) (by decide +kernel)) (fun _ _ _ _ _ => pg_name (i := 2) scNumIn.nd rfl (Or.inl rfl)) (fun _ _ _ _ _ => pts_nil) (fun _ _ _ _ _ => pe_cmpR op_in_sign (pv 2) (pe_str) (by rfl))) pa_nil))))
 (pss_one (ps_ret (pe_non)))
 (pss_nil))
 (pss_one (ps_ret (pe_callTy call_int_str (by rfl) T.int (by decide +kernel) (pa_cons (pv 0) pa_nil))))))), ?_⟩
    refine ⟨_, rfl, rfl, _, rfl, ite_b (fun c0 => ?_) (fun c0 => ?_)⟩
    · rw [eq_zero_str] at c0
      have e : V.int 0 = nv (tl z) := by
        rw [eq_of_beq c0]
        rfl
      rw [e]
      exact k H (Same.refl H)
    rw [eq_zero_str] at c0
    refine ⟨fun σ' H' => σ' = [some (.str z), some (.str (dgS z)), none] ∧ H' = H, ?_, ?_⟩
    · refine ⟨_, rfl, ⟨_, rfl⟩, z, "-", rfl, rfl, _, rfl, ?_⟩
      rw [starts_minus]
      refine ite_b (fun c => ?_) (fun c => ?_)
      · refine ⟨_, rfl, _, rfl, z, rfl, by rw [sizeLine_eq]; omega, ?_, rfl⟩
        rw [dgS, if_pos c]
        rfl
      · refine ⟨_, rfl, ?_, rfl⟩
        rw [dgS, if_neg (by rw [c]; decide)]
        rfl
    · rintro σ1 H1 ⟨rfl, rfl⟩
      have hd := dgS_len z
      have hl := len_tl (dgS z)
      have tS := tl_dgS z
      have en : nv (tl z) = if (decide (1 ≤ (dgL (tl z)).length) && (decide ((dgL (tl z)).length ≤ 9) && (((dgL (tl z)).head? != some 48) && (dgL (tl z)).all isDg))) = true then .int (valL (tl z)) else .non := by
        rw [nv, numOk, c0, Bool.false_or]
      refine ⟨_, rfl, _, (dgS z).length, rfl, ⟨by rw [sizeLine_eq]; omega, rfl⟩, _, _, rfl, rfl, _, rfl, ?_⟩
      have lenD : (dgL (tl z)).length = (dgS z).length := by rw [← tS]; exact hl.symm
      have noC : (decide (1 ≤ (dgL (tl z)).length) && decide ((dgL (tl z)).length ≤ 9)) = false → V.non = nv (tl z) := fun h => by
        rw [en, ← Bool.and_assoc, h]
        rfl
      refine ite_b (fun c1 => ?_) (fun c1 => ?_)
      · have c1 := of_decide_eq_true c1
        refine ⟨_, _, rfl, rfl, _, rfl, ?_⟩
        refine ite_b (fun c2 => ?_) (fun c2 => ?_)
        · rw [noC ?_]
          · exact k H1 (Same.refl H1)
          · cases hx : decide ((dgS z).length ≤ 9) with
            | false => rw [lenD, hx]; exact Bool.and_false _
            | true =>
              have := of_decide_eq_true hx
              rw [decide_eq_true (p := (((dgS z).length : Nat) : Int) ≤ 9) (by omega)] at c2
              cases c2
        · have c3 : (dgS z).length ≤ 9 := by
            cases hx : decide ((((dgS z).length : Nat) : Int) ≤ 9) with
            | false => rw [hx] at c2; cases c2
            | true => have := of_decide_eq_true hx; omega
          obtain ⟨d0, dr, hd0⟩ : ∃ d0 dr, tl (dgS z) = d0 :: dr := by
            cases e : tl (dgS z) with
            | nil => rw [e] at hl; exact absurd hl (by show ¬ (dgS z).length = 0; omega)
            | cons d0 dr => exact ⟨d0, dr, rfl⟩
          have en2 : nv (tl z) = if ((decide (d0 ≠ 48)) && (tl (dgS z)).all isDg) = true then .int (valL (tl z)) else .non := by
            rw [en, lenD, decide_eq_true (p := 1 ≤ (dgS z).length) (by omega), decide_eq_true c3, ← tS, Bool.true_and, Bool.true_and, hd0]
            have : ((d0 :: dr).head? != some 48) = decide (d0 ≠ 48) := by
              rw [Bool.eq_iff_iff, bne_iff_ne, decide_eq_true_eq]
              simp
            rw [this]
          refine ⟨_, rfl, dgS z, _, d0, rfl, rfl, by rw [sizeLine_eq]; omega, (atI_nat (j := 0) (by show (tl (dgS z))[0]? = _; rw [hd0]; rfl) : atI _ ((0 : Nat) : Int) = _), rfl, _, rfl, ite_b (fun c4 => ?_) (fun c4 => ?_)⟩
          · rw [eq_zero_sign] at c4
            rw [show V.non = nv (tl z) from by rw [en2, decide_eq_false (fun h => h (of_decide_eq_true c4))]; rfl]
            exact k H1 (Same.refl H1)
          · rw [eq_zero_sign] at c4
            rw [decide_eq_true (p := d0 ≠ 48) (of_decide_eq_false c4), Bool.true_and] at en2
            refine ⟨_, rfl, dgS z, rfl, fun D hD => lc_it walk_str (fun i H3 => Same H1 H3 ∧ H3 D = some (.lst ((((tl (dgS z)).take i).map isDg).map V.bl))) ⟨same_new hD, upd_same⟩ (fun _ _ _ _ => True.intro) ?_ ?_⟩
            · rintro i x H3 H4 hi ⟨s3, e3⟩ ⟨hh, d, hdd, hx⟩
              cases hh
              cases hx
              have hd' : (tl (dgS z))[i]? = some d := by rw [Array.getElem?_toList]; exact hdd
              refine ⟨rfl, _, rfl, d, zDig, rfl, rfl, _, e3, ?_, fun a o h => ?_, ?_⟩
              · rw [List.length_map, List.length_map, sizeLine_eq]
                have := List.length_take_le' i (tl (dgS z))
                omega
              · rw [upd_ne (ne_of_none h hD)]
                exact s3 a o h
              · rw [upd_same, List.take_add_one, hd', List.map_append, List.map_append]
                rfl
            · rintro H3 ⟨s3, e3⟩
              refine ⟨D, _, rfl, SqL.of e3, _, rfl, ?_⟩
              have ea : (((tl (dgS z)).take (dgS z).cps.size).map isDg).all id = (tl (dgS z)).all isDg := by
                rw [List.all_map, ← Array.length_toList, List.take_length]
                rfl
              rw [ea]
              cases ha : (tl (dgS z)).all isDg with
              | false =>
                refine iteT ?_
                rw [show V.non = nv (tl z) from by rw [en2, ha]; rfl]
                exact k H3 s3
              | true =>
                refine iteF ?_
                have ok : numOk (tl z) = true := by
                  cases hn : numOk (tl z) with
                  | true => rfl
                  | false =>
                    rw [ha, nv, hn] at en2
                    cases en2
                obtain ⟨n1, n2⟩ := num_int ok
                refine ⟨_, rfl, z, valL (tl z), rfl, n1, n2, ?_⟩
                rw [show V.int (valL (tl z)) = nv (tl z) from by rw [nv, if_pos ok]]
                exact k H3 s3
      · refine ⟨_, rfl, ?_⟩
        rw [show V.non = nv (tl z) from noC (by
          rw [lenD, decide_eq_false (p := 1 ≤ (dgS z).length) (by
            have := of_decide_eq_false c1
            omega)]
          rfl)]
        exact k H1 (Same.refl H1)
end
end Lw
namespace Lw
open PySem PySem.Spec PyProof.Rows L2 XV TL
theorem eq_empty (w : Str) : decide (V.str w = V.str "") = decide (w.length = 0) := by
  have e : tl ("" : Str) = [] := by decide +kernel
  rw [Bool.eq_iff_iff, decide_eq_true_eq, decide_eq_true_eq, len_tl w, List.length_eq_zero_iff, ← e]
  constructor
  · intro h
    injection h with h
    rw [h]
  · intro h
    rw [ext_tl h]
theorem all_not {l : List Nat} : (l.map fun c => !isDg c).any id = !(l.all isDg) := by
  rw [List.any_map, List.not_all_eq_any_not]
  rfl
section
variable {P : Program} {w : World} {K : PySem.W.Frag} {mg : Str → Option Value} {base : Heap}
theorem ok_isNum {f : Addr} {fd : FuncData} (F : Fun K "_law_is_number" "_law_is_number" sIsNum f fd) (T : Bt mg) : FnOk P w K mg base CX0 1 f fd ["word"] spIsNum := by
  refine F.ok scIsNum (fun vs H Q E h => ?_) (fun cdv A outer s H vs Q E hr h => ?_)
  · obtain ⟨z, rfl, _⟩ := h
    rfl
  · obtain ⟨z, rfl, hz, k⟩ := h
    refine ⟨_, pss_cons (ps_set (i := 1) scIsNum.nd rfl (by first | exact Or.inl rfl | exact Or.inr rfl) (pv 0))
 (pss_mid (ps_if (pt_cmpR op_eq (pe_slice sl_str (pv 0) (po_none) (po_some (pe_int))) (pe_str) (nomark _))
 (pss_one (ps_set (i := 1) scIsNum.nd rfl (by first | exact Or.inl rfl | exact Or.inr rfl) (pe_slice sl_str (pv 0) (po_some (pe_int)) (po_none))))
 (pss_nil))
 (pss_cons (ps_if (PW.pt (pw_or (pt_cmpR op_eq (pv 1) (pe_str) (nomark _)) (pw_or (pt_cmpR op_gt (pe_callB call_len (by rfl) T.len (by decide +kernel) (pa_cons (pv 1) pa_nil)) (pe_int) (nomark _)) (pw_or1 (pt_val (pe_callB (cr_any rfl) (by rfl) T.any (by decide +kernel) (pa_cons (pe_lc (own := [("x", 2)]) (g := gName 2) (tt := tYes) rfl scIsNum.nd (pi_str (pv 1)) (blkOk_by (N := NisNum) (sc := defScope sIsNum) (by decide +kernel)) (fun _ _ _ _ _ => pg_name (i := 2) scIsNum.nd rfl (Or.inl rfl)) (fun _ _ _ _ _ => pts_nil) (fun _ _ _ _ _ => pe_cmpR op_notIn_sign (pv 2) (pe_str) (by rfl))) pa_nil)))))))
 (pss_one (ps_ret (pe_bl)))
 (pss_nil))
 (pss_one (ps_ret (pe_or (pe_cmpR op_eq (pv 0) (pe_str) (nomark _)) (pe_one (pe_cmpR op_ne (pe_ix ix_str (pv 1) (pe_int) (fun _ _ => rfl)) (pe_str) (nomark _)))))))), ?_⟩
    refine ⟨_, rfl, fun σ' H' => σ' = [some (.str z), some (.str (dgS z)), none] ∧ H' = H, ?_, ?_⟩
    · refine ⟨_, rfl, _, rfl, z, rfl, by rw [sizeLine_eq]; omega, rfl, _, rfl, ?_⟩
      rw [cut_minus]
      refine ite_b (fun c => ?_) (fun c => ?_)
      · refine ⟨_, rfl, _, rfl, z, rfl, by rw [sizeLine_eq]; omega, ?_, rfl⟩
        rw [dgS, if_pos c]
        rfl
      · refine ⟨?_, rfl⟩
        rw [dgS, if_neg (by rw [c]; decide)]
        rfl
    · rintro σ1 H1 ⟨rfl, rfl⟩
      have hd := dgS_len z
      have hl := len_tl (dgS z)
      have tS := tl_dgS z
      have lenD : (dgL (tl z)).length = (dgS z).length := by rw [← tS]; exact hl.symm
      refine ⟨_, rfl, rfl, _, rfl, ?_⟩
      rw [eq_empty]
      refine ite_b (fun c1 => iteT ?_) (fun c1 => ?_)
      · have c1 := of_decide_eq_true c1
        have en : false = numOk (tl z) := by
          have e0 : (tl z == [48]) = false := by
            cases h : tl z == [48] with
            | false => rfl
            | true =>
              rw [eq_of_beq h] at lenD
              exact absurd lenD (by rw [c1]; decide)
          rw [numOk, e0, lenD, c1]
          rfl
        rw [en]
        exact k H1 (Same.refl H1)
      have c1 := of_decide_eq_false c1
      refine ⟨_, rfl, _, (dgS z).length, rfl, ⟨by rw [sizeLine_eq]; omega, rfl⟩, _, _, rfl, rfl, _, rfl, ite_b (fun c2 => iteT ?_) (fun c2 => ?_)⟩
      · have c2 := of_decide_eq_true c2
        have en : false = numOk (tl z) := by
          have e0 : (tl z == [48]) = false := by
            cases h : tl z == [48] with
            | false => rfl
            | true =>
              rw [eq_of_beq h] at lenD
              have : (dgL [48]).length = 1 := rfl
              omega
          rw [numOk, e0, lenD, decide_eq_false (p := (dgS z).length ≤ 9) (by omega)]
          cases decide (1 ≤ (dgS z).length) <;> rfl
        rw [en]
        exact k H1 (Same.refl H1)
      have c2 : (dgS z).length ≤ 9 := by
        have := of_decide_eq_false c2
        omega
      have en : numOk (tl z) = (tl z == [48] || ((tl (dgS z)).head? != some 48 && (tl (dgS z)).all isDg)) := by
        rw [numOk, lenD, decide_eq_true c2, decide_eq_true (p := 1 ≤ (dgS z).length) (by omega), Bool.true_and, Bool.true_and, tS]
      refine ⟨_, rfl, dgS z, rfl, fun D hD => lc_it walk_str (fun i H3 => Same H1 H3 ∧ H3 D = some (.lst ((((tl (dgS z)).take i).map fun c => !isDg c).map V.bl))) ⟨same_new hD, upd_same⟩ (fun _ _ _ _ => True.intro) ?_ ?_⟩
      · rintro i x H3 H4 hi ⟨s3, e3⟩ ⟨hh, d, hdd, hx⟩
        cases hh
        cases hx
        have hd' : (tl (dgS z))[i]? = some d := by rw [Array.getElem?_toList]; exact hdd
        refine ⟨rfl, _, rfl, d, zDig, rfl, rfl, _, e3, ?_, fun a o h => ?_, ?_⟩
        · rw [List.length_map, List.length_map, sizeLine_eq]
          have := List.length_take_le' i (tl (dgS z))
          omega
        · rw [upd_ne (ne_of_none h hD)]
          exact s3 a o h
        · rw [upd_same, List.take_add_one, hd', List.map_append, List.map_append]
          rfl
      · rintro H3 ⟨s3, e3⟩
        refine ⟨D, _, rfl, SqL.of e3, _, rfl, ?_⟩
        have ea : (((tl (dgS z)).take (dgS z).cps.size).map fun c => !isDg c).any id = !((tl (dgS z)).all isDg) := by
          rw [← Array.length_toList, List.take_length]
          exact all_not
        rw [ea]
        cases ha : (tl (dgS z)).all isDg with
        | false =>
          refine iteT ?_
          have en2 : false = numOk (tl z) := by
            rw [en, ha, Bool.and_false, Bool.or_false]
            cases h : tl z == [48] with
            | false => rfl
            | true =>
              have hz := eq_of_beq h
              rw [tS, hz] at ha
              exact absurd ha (by decide +kernel)
          rw [en2]
          exact k H3 s3
        | true =>
          refine iteF ?_
          rw [ha, Bool.and_true] at en
          obtain ⟨d0, dr, hd0⟩ : ∃ d0 dr, tl (dgS z) = d0 :: dr := by
            cases e : tl (dgS z) with
            | nil => rw [e] at hl; exact absurd hl c1
            | cons d0 dr => exact ⟨d0, dr, rfl⟩
          have en3 : numOk (tl z) = (tl z == [48] || decide (d0 ≠ 48)) := by
            rw [en, hd0]
            congr 1
            rw [Bool.eq_iff_iff, bne_iff_ne, decide_eq_true_eq]
            simp
          refine ⟨_, rfl, rfl, _, rfl, ?_⟩
          rw [eq_zero_str]
          refine ite_b (fun c => ?_) (fun c => ?_)
          · rw [show true = numOk (tl z) from by rw [en3, c]; rfl]
            exact k H3 s3
          · refine ⟨_, rfl, dgS z, _, d0, rfl, rfl, by rw [sizeLine_eq]; omega, (atI_nat (j := 0) (by show (tl (dgS z))[0]? = _; rw [hd0]; rfl) : atI _ ((0 : Nat) : Int) = _), rfl, ?_⟩
            rw [eq_zero_sign, show (!decide (d0 = 48)) = numOk (tl z) from by rw [en3, c, Bool.false_or, ← decide_not]]
            exact k H3 s3
end
end Lw
namespace Lw
open PySem PySem.Spec PyProof.Rows L2 XV TL
theorem spl_part_len (S : List Nat) : ∀ (l acc : List Nat) (k : Nat), ∀ p ∈ spl S k acc l, p.length ≤ acc.length + l.length
  | [], acc, k, p, h => by
    rw [spl_nil] at h
    rw [List.mem_singleton.mp h]
    exact Nat.le_add_right _ _
  | c :: r, acc, k + 1, p, h => by
    have := spl_part_len S r acc k p h
    rw [List.length_cons]
    omega
  | c :: r, acc, 0, p, h => by
    cases hp : pre S (c :: r) with
    | true =>
      rw [spl_hit hp] at h
      rcases List.mem_cons.mp h with h | h
      · rw [h]
        exact Nat.le_add_right _ _
      · have := spl_part_len S r [] _ p h
        simp only [List.length_nil, List.length_cons] at *
        omega
    | false =>
      rw [spl_miss hp] at h
      have := spl_part_len S r _ 0 p h
      simp only [List.length_append, List.length_cons, List.length_nil] at *
      omega
theorem spl_len (S : List Nat) : ∀ (l acc : List Nat) (k : Nat), (spl S k acc l).length ≤ l.length + 1
  | [], acc, k => by
    rw [spl_nil]
    exact Nat.le_refl _
  | c :: r, acc, k + 1 => by
    have := spl_len S r acc k
    rw [List.length_cons]
    exact Nat.le_succ_of_le this
  | c :: r, acc, 0 => by
    cases hp : pre S (c :: r) with
    | true =>
      rw [spl_hit hp]
      have := spl_len S r [] (S.length - 1)
      simp only [List.length_cons] at *
      omega
    | false =>
      rw [spl_miss hp]
      have := spl_len S r (acc ++ [c]) 0
      simp only [List.length_cons] at *
      omega
/-- what stands in a word of two numbers -/
def spanV (l : List Nat) : Option (Int × Int) :=
  match spl [46, 46] 0 [] l with
  | [p, q] => if (numOk p && numOk q) = true then some (valL p, valL q) else none
  | _ => none
theorem split_dots (z : Str) : (Txt.split z "..").map tl = spl [46, 46] 0 [] (tl z) := by
  have e : tl (".." : Str) = [46, 46] := by decide +kernel
  rw [split_spl z ".." (by rw [e]; decide) (kind_ok (by decide +kernel)), e]
theorem split_mem {z y p : Str} {S : List Nat} (e : (Txt.split z y).map tl = spl S 0 [] (tl z)) (h : p ∈ Txt.split z y) : p.length ≤ z.length := by
  have := spl_part_len S (tl z) [] 0 (tl p) (by rw [← e]; exact List.mem_map_of_mem h)
  rw [len_tl p, len_tl z]
  simpa using this
theorem split_len {z y : Str} {S : List Nat} (e : (Txt.split z y).map tl = spl S 0 [] (tl z)) : (Txt.split z y).length ≤ z.length + 1 := by
  have := spl_len S (tl z) [] 0
  rw [← e, List.length_map] at this
  rw [len_tl z]
  exact this
theorem nv_non {l : List Nat} : decide (nv l = V.non) = !numOk l := by
  unfold nv
  cases numOk l with
  | true => rfl
  | false => rfl
abbrev sSpan : Stmt := topOf "span_in"
abbrev Nspan : List Str := ["word", "ends", "low", "high"]
theorem scSpan : FnScope Nspan ["word"] (defScope sSpan) := ⟨rfl, rfl, rfl, by decide +kernel, rfl, by decide +kernel, by decide +kernel⟩
/-- a word's two numbers, or None -/
def SpanIs (H : Hp) (v : V) : Option (Int × Int) → Prop
  | none => v = .non
  | some (a, b) => ∃ p, v = .ref p ∧ H p = some (.tup [.int a, .int b])
def spSpan : Sp := fun vs H Q _ => ∃ w : Str, vs = [.str w] ∧ w.length ≤ 100000 ∧ ∀ (v : V) (H' : Hp), Same H H' → SpanIs (dif H H') v (spanV (tl w)) → Q v H'
section
variable {P : Program} {w : World} {K : PySem.W.Frag} {mg : Str → Option Value} {base : Heap}
theorem ok_span {f fN : Addr} {fd fdN : FuncData} (F : Fun K "span_in" "span_in" sSpan f fd) (T : Bt mg) (D_num : Df K mg "number_in" sNumIn ["word"] fN fdN) : FnOk P w K mg base CX0 2 f fd ["word"] spSpan := by
  have G_num : FnOk P w K mg base CX0 1 fN fdN ["word"] spNum := ok_numIn D_num.fn T
  refine F.ok scSpan (fun vs H Q E h => ?_) (fun cdv A outer s H vs Q E hr h => ?_)
  · obtain ⟨z, rfl, _⟩ := h
    rfl
  · obtain ⟨z, rfl, hz, k⟩ := h
    refine ⟨_, pss_cons (ps_set (i := 1) scSpan.nd rfl (Or.inl rfl) (pe_split (pv 0) (pe_str)))
 (pss_cons (ps_if (pt_cmpR op_ne (pe_callB call_len (by rfl) T.len (by decide +kernel) (pa_cons (pv 1) pa_nil)) (pe_int) (nomark _))
 (pss_one (ps_ret (pe_non)))
 (pss_nil))
 (pss_cons (ps_set (i := 2) scSpan.nd rfl (Or.inl rfl) (cal D_num G_num (hr.mono (by decide)) (pa_cons (pe_ix ix_list (pv 1) (pe_int) (fun _ _ => rfl)) pa_nil)))
 (pss_cons (ps_set (i := 3) scSpan.nd rfl (Or.inl rfl) (cal D_num G_num (hr.mono (by decide)) (pa_cons (pe_ix ix_list (pv 1) (pe_int) (fun _ _ => rfl)) pa_nil)))
 (pss_cons (ps_if (PW.pt (pw_or (pt_cmpR op_isN (pv 2) (pe_non) (nomark _)) (pw_or1 (pt_cmpR op_isN (pv 3) (pe_non) (nomark _)))))
 (pss_one (ps_ret (pe_non)))
 (pss_nil))
 (pss_one (ps_ret (pe_tup (pa_cons (pv 2) (pa_cons (pv 3) pa_nil))))))))), ?_⟩
    have es := split_dots z
    have el := split_len es
    refine ⟨_, rfl, ⟨_, rfl⟩, z, "..", rfl, rfl, by decide +kernel, by rw [sizeLine_eq]; omega, fun p hp => ?_⟩
    have s1 := same_new (o := .lst ((Txt.split z "..").map V.str)) hp
    have e1 : upd H p (.lst ((Txt.split z "..").map V.str)) p = some (.lst ((Txt.split z "..").map V.str)) := upd_same
    generalize upd H p (.lst ((Txt.split z "..").map V.str)) = H1 at s1 e1 ⊢
    refine ⟨_, rfl, _, ((Txt.split z "..").map V.str).length, rfl, .inl ⟨_, SqL.of e1, rfl⟩, rfl, _, rfl, ?_⟩
    refine ite_b (fun c => ?_) (fun c => ?_)
    · have hn : spanV (tl z) = none := by
        unfold spanV
        rw [← es]
        split
        · rename_i a b hab
          have : ((Txt.split z "..").map tl).length = 2 := by rw [hab]; rfl
          rw [List.length_map] at this
          rw [List.length_map, this] at c
          exact absurd c (by decide)
        · rfl
      exact k _ H1 s1 (by rw [hn]; rfl)
    · have c2 : (Txt.split z "..").length = 2 := by
        rw [List.length_map] at c
        have c := of_decide_eq_true (by simpa using c : decide _ = true)
        injection c with c
      obtain ⟨a, b, hab⟩ : ∃ a b, Txt.split z ".." = [a, b] := by
        match Txt.split z "..", c2 with
        | [a, b], _ => exact ⟨a, b, rfl⟩
      have la : a.length ≤ z.length := split_mem es (by rw [hab]; simp)
      have lb : b.length ≤ z.length := split_mem es (by rw [hab]; simp)
      rw [hab] at e1 es
      refine ⟨_, rfl, p, _, 0, _, rfl, rfl, SqL.of e1, rfl, a, rfl, by omega, fun H2 s2 => ?_⟩
      refine ⟨_, rfl, p, _, 1, _, rfl, rfl, SqL.of (s2 _ _ e1), rfl, b, rfl, by omega, fun H3 s3 => ?_⟩
      have sv : spanV (tl z) = if (numOk (tl a) && numOk (tl b)) = true then some (valL (tl a), valL (tl b)) else none := by
        unfold spanV
        rw [← es]
        rfl
      have s13 := Same.trans s1 (Same.trans s2 s3)
      have n1 : ∀ l : List Nat, decide (nv l = V.non) = !numOk l := fun l => nv_non
      refine ⟨_, rfl, rfl, _, rfl, ?_⟩
      rw [n1]
      cases ha : numOk (tl a) with
      | false =>
        refine iteT ?_
        refine iteT ?_
        exact k _ H3 s13 (by rw [sv, ha]; rfl)
      | true =>
        refine iteF ?_
        refine ⟨_, rfl, rfl, _, rfl, ?_⟩
        rw [n1]
        cases hb : numOk (tl b) with
        | false =>
          refine iteT ?_
          exact k _ H3 s13 (by rw [sv, ha, hb]; rfl)
        | true =>
          refine iteF ?_
          refine ⟨_, rfl, _, rfl, (by show 2 ≤ sizeLine; decide), fun q hq => k _ _ (Same.trans s13 (same_new hq)) ?_⟩
          rw [sv, ha, hb]
          refine ⟨q, rfl, dif_of (sN s13 hq) ?_⟩
          rw [upd_same, nv, nv, if_pos ha, if_pos hb]
end
end Lw
namespace Lw
open PySem PySem.Spec PyProof.Rows L2 XV TL
abbrev sBadText : Stmt := inClass (topOf "BadText") 0
theorem scBadText : FnScope ["self", "what", "line", "why"] ["self", "what", "line", "why"] (defScope sBadText) := ⟨rfl, rfl, rfl, by decide +kernel, rfl, by decide +kernel, by decide +kernel⟩
theorem iniBadText {P : Program} {w : World} {K : PySem.W.Frag} {mg : Str → Option Value} {base : Heap} {B newId : String} {tl : List Value} {C f : Addr} {fd : FuncData} (SF : StoreFacts B tl "object.__setattr__" "object") (D : XC K mg "BadText" "BadText.__init__" newId tl sBadText ["what", "line", "why"] C f fd) : FnOk P w K mg base CX0 1 f fd ["self", "what", "line", "why"] (spIni C ["what", "line", "why"] "BadText") := by
  refine D.F.ok scBadText (fun vs H Q E h => ?_) (fun cdv A outer s H vs Q E hr h => ?_)
  · obtain ⟨a, xs, rfl, hl, _⟩ := h
    show xs.length + 1 = _
    rw [hl]
    rfl
  · obtain ⟨a, xs, rfl, hl, ha, k⟩ := h
    obtain ⟨x, y, z, rfl⟩ : ∃ x y z, xs = [x, y, z] := by
      match xs, hl with
      | [x, y, z], _ => exact ⟨x, y, z, rfl⟩
    refine ⟨_, pss_cons (ps_stx (C := C) SF D.T D.no (pv 0) (pv 1)) (pss_cons (ps_stx (C := C) SF D.T D.no (pv 0) (pv 2)) (pss_cons (ps_stx (C := C) SF D.T D.no (pv 0) (pv 3)) (pss_one (ps_stx (C := C) SF D.T D.no (pv 0) pe_str)))), ?_⟩
    refine ⟨_, rfl, _, rfl, a, rfl, .inl ⟨ha, fun dx h1 h2 => ?_⟩⟩
    refine ⟨_, rfl, _, rfl, a, rfl, .inr ⟨dx, _, upd_same, by rw [upd_ne h2]; exact upd_same, by simp, ?_⟩⟩
    refine ⟨_, rfl, _, rfl, a, rfl, .inr ⟨dx, _, by rw [upd_ne h2.symm]; exact upd_same, upd_same, by simp, ?_⟩⟩
    refine ⟨_, rfl, a, rfl, .inr ⟨dx, _, by rw [upd_ne h2.symm]; rw [upd_ne h2.symm]; exact upd_same, upd_same, by simp, ?_⟩⟩
    refine k dx _ h1 h2 (by rw [upd_ne h2.symm]; rw [upd_ne h2.symm]; rw [upd_ne h2.symm]; exact upd_same) upd_same fun b o nb h => ?_
    have nd : b ≠ dx := ne_of_none h h1
    rw [upd_ne nd, upd_ne nd, upd_ne nd, upd_ne nb, upd_ne nd]
    exact h
abbrev sBadValue : Stmt := inClass (topOf "BadValue") 0
theorem scBadValue : FnScope ["self", "what"] ["self", "what"] (defScope sBadValue) := ⟨rfl, rfl, rfl, by decide +kernel, rfl, by decide +kernel, by decide +kernel⟩
theorem iniBadValue {P : Program} {w : World} {K : PySem.W.Frag} {mg : Str → Option Value} {base : Heap} {B newId : String} {tl : List Value} {C f : Addr} {fd : FuncData} (SF : StoreFacts B tl "object.__setattr__" "object") (D : XC K mg "BadValue" "BadValue.__init__" newId tl sBadValue ["what"] C f fd) : FnOk P w K mg base CX0 1 f fd ["self", "what"] (spIni C ["what"] "BadValue") := by
  refine D.F.ok scBadValue (fun vs H Q E h => ?_) (fun cdv A outer s H vs Q E hr h => ?_)
  · obtain ⟨a, xs, rfl, hl, _⟩ := h
    show xs.length + 1 = _
    rw [hl]
    rfl
  · obtain ⟨a, xs, rfl, hl, ha, k⟩ := h
    obtain ⟨x, rfl⟩ : ∃ x, xs = [x] := by
      match xs, hl with
      | [x], _ => exact ⟨x, rfl⟩
    refine ⟨_, pss_cons (ps_stx (C := C) SF D.T D.no (pv 0) (pv 1)) (pss_one (ps_stx (C := C) SF D.T D.no (pv 0) pe_str)), ?_⟩
    refine ⟨_, rfl, _, rfl, a, rfl, .inl ⟨ha, fun dx h1 h2 => ?_⟩⟩
    refine ⟨_, rfl, a, rfl, .inr ⟨dx, _, upd_same, by rw [upd_ne h2]; exact upd_same, by simp, ?_⟩⟩
    refine k dx _ h1 h2 (by rw [upd_ne h2.symm]; exact upd_same) upd_same fun b o nb h => ?_
    have nd : b ≠ dx := ne_of_none h h1
    rw [upd_ne nd, upd_ne nb, upd_ne nd]
    exact h
abbrev sTooMany : Stmt := inClass (topOf "TooMany") 0
theorem scTooMany : FnScope ["self", "what", "count"] ["self", "what", "count"] (defScope sTooMany) := ⟨rfl, rfl, rfl, by decide +kernel, rfl, by decide +kernel, by decide +kernel⟩
theorem iniTooMany {P : Program} {w : World} {K : PySem.W.Frag} {mg : Str → Option Value} {base : Heap} {B newId : String} {tl : List Value} {C f : Addr} {fd : FuncData} (SF : StoreFacts B tl "object.__setattr__" "object") (D : XC K mg "TooMany" "TooMany.__init__" newId tl sTooMany ["what", "count"] C f fd) : FnOk P w K mg base CX0 1 f fd ["self", "what", "count"] (spIni C ["what", "count"] "TooMany") := by
  refine D.F.ok scTooMany (fun vs H Q E h => ?_) (fun cdv A outer s H vs Q E hr h => ?_)
  · obtain ⟨a, xs, rfl, hl, _⟩ := h
    show xs.length + 1 = _
    rw [hl]
    rfl
  · obtain ⟨a, xs, rfl, hl, ha, k⟩ := h
    obtain ⟨x, y, rfl⟩ : ∃ x y, xs = [x, y] := by
      match xs, hl with
      | [x, y], _ => exact ⟨x, y, rfl⟩
    refine ⟨_, pss_cons (ps_stx (C := C) SF D.T D.no (pv 0) (pv 1)) (pss_cons (ps_stx (C := C) SF D.T D.no (pv 0) (pv 2)) (pss_one (ps_stx (C := C) SF D.T D.no (pv 0) pe_str))), ?_⟩
    refine ⟨_, rfl, _, rfl, a, rfl, .inl ⟨ha, fun dx h1 h2 => ?_⟩⟩
    refine ⟨_, rfl, _, rfl, a, rfl, .inr ⟨dx, _, upd_same, by rw [upd_ne h2]; exact upd_same, by simp, ?_⟩⟩
    refine ⟨_, rfl, a, rfl, .inr ⟨dx, _, by rw [upd_ne h2.symm]; exact upd_same, upd_same, by simp, ?_⟩⟩
    refine k dx _ h1 h2 (by rw [upd_ne h2.symm]; rw [upd_ne h2.symm]; exact upd_same) upd_same fun b o nb h => ?_
    have nd : b ≠ dx := ne_of_none h h1
    rw [upd_ne nd, upd_ne nd, upd_ne nb, upd_ne nd]
    exact h
abbrev tlV : List Value := [.type "ValueError", .type "Exception", .type "BaseException", .type "object"]
/-- where the own exception classes stand -/
structure CA where
  B : Addr
  V : Addr
  M : Addr
  fB : Addr
  fV : Addr
  fM : Addr
  dB : FuncData
  dV : FuncData
  dM : FuncData
structure Xs (K : PySem.W.Frag) (mg : Str → Option Value) (c : CA) : Prop where
  b : XC K mg "BadText" "BadText.__init__" "ValueError.__new__" tlV sBadText ["what", "line", "why"] c.B c.fB c.dB
  v : XC K mg "BadValue" "BadValue.__init__" "ValueError.__new__" tlV sBadValue ["what"] c.V c.fV c.dV
  m : XC K mg "TooMany" "TooMany.__init__" "ValueError.__new__" tlV sTooMany ["what", "count"] c.M c.fM c.dM
/-- a BadText comes out, with line n and reason y -/
def BadE (c : CA) (H : Hp) (E : XK) (n : Int) (y : Str) : Prop := ∀ (d : Addr) (H' : Hp), H d = none → Same H H' → H' d = some (.xd (flds ["what", "line", "why"] "BadText" [.str "lives", .int n, .str y])) → E (.ref c.B) (some d) H'
/-- the fault behind the last line -/
def closeF (ls : List (List Nat)) : Option (Int × Str) :=
  if ls.getLast? ≠ some [] then some (ls.length, "form") else if ls.length ≤ 7 then some (ls.length, "missing") else none
def EndsAs (c : CA) (H : Hp) (Q : VK) (E : XK) : Option (Int × Str) → Prop
  | none => ∀ H', Same H H' → Q .non H'
  | some (n, y) => BadE c H E n y
def spClose (c : CA) : Sp := fun vs H Q E => ∃ (p : Addr) (ys : List Str), vs = [.str "lives", .ref p, .int 7] ∧ H p = some (.lst (ys.map V.str)) ∧ ys ≠ [] ∧ EndsAs c H Q E (closeF (ys.map tl))
abbrev sClose : Stmt := topOf "close_text"
abbrev Nclose : List Str := ["what", "pieces", "due"]
theorem scClose : FnScope Nclose ["what", "pieces", "due"] (defScope sClose) := ⟨rfl, rfl, rfl, by decide +kernel, rfl, by decide +kernel, by decide +kernel⟩
section
variable {P : Program} {w : World} {K : PySem.W.Frag} {mg : Str → Option Value} {base : Heap}
/-- the end of a raise: what the exception in the making has left -/
theorem bad_do {c : CA} {H H1 H2 : Hp} {E : XK} {n : Int} {y : Str} {a d t0 : Addr} (k : BadE c H E n y) (s : Same H H1) (m : MadeF c.B (flds ["what", "line", "why"] "BadText" [.str "lives", .int n, .str y]) H1 H2 a d t0) : E (.ref c.B) (some d) (delH H2 a) := by
  refine k d _ (sN s m.nd) (fun b o h => ?_) (by rw [delH_ne m.da]; exact m.pd)
  have h1 := s _ _ h
  rw [delH_ne (ne_of_none h1 m.na)]
  exact m.sm _ _ h1
/-- raise BadText(..) -/
theorem ps_bad {X : Cx} {c : CA} {W : WX} {e : Expr} {es : List Expr} {t : TA} {p pos pos' : Pos} (hc : X.calm = true) (hx : X.ex = []) (D : Xs X.K X.mg c) (hr : Room 2 X.A) (tk : Takes X W) (ha : PA X (e :: es) t) (hg : Gl X "BadText" := by rfl)
    (he : starEach (e :: es) X.env = (false, eval e X.env) :: starEach es X.env := by rfl) (hpl : (backTo pos (starEach es X.env)).any (·.1) = false := by rfl) :
    PS X (.Raise (some (.Call (.Name "BadText" p) (e :: es) [] pos)) none pos') (fun _ σ H => tRaiseV X.K X.H_0 (tMkx c.B (spIni c.B ["what", "line", "why"] "BadText") t) σ H fun cls d H' => W cls d σ H') :=
  ps_raise hc tk (pmk_val rfl rfl hx (pe_mkx PySem.F.excBase_ValueError D.b.T D.b.iC D.b.tI (iniBadText (base := X.base) PySem.F.store_ValueError D.b) hr D.b.bd pass0 hg D.b.g ha (by decide) he hpl))
theorem ps_many {X : Cx} {c : CA} {W : WX} {e : Expr} {es : List Expr} {t : TA} {p pos pos' : Pos} (hc : X.calm = true) (hx : X.ex = []) (D : Xs X.K X.mg c) (hr : Room 2 X.A) (tk : Takes X W) (ha : PA X (e :: es) t) (hg : Gl X "TooMany" := by rfl)
    (he : starEach (e :: es) X.env = (false, eval e X.env) :: starEach es X.env := by rfl) (hpl : (backTo pos (starEach es X.env)).any (·.1) = false := by rfl) :
    PS X (.Raise (some (.Call (.Name "TooMany" p) (e :: es) [] pos)) none pos') (fun _ σ H => tRaiseV X.K X.H_0 (tMkx c.M (spIni c.M ["what", "count"] "TooMany") t) σ H fun cls d H' => W cls d σ H') :=
  ps_raise hc tk (pmk_val rfl rfl hx (pe_mkx PySem.F.excBase_ValueError D.m.T D.m.iC D.m.tI (iniTooMany (base := X.base) PySem.F.store_ValueError D.m) hr D.m.bd pass0 hg D.m.g ha (by decide) he hpl))
theorem ps_badV {X : Cx} {c : CA} {W : WX} {e : Expr} {es : List Expr} {t : TA} {p pos pos' : Pos} (hc : X.calm = true) (hx : X.ex = []) (D : Xs X.K X.mg c) (hr : Room 2 X.A) (tk : Takes X W) (ha : PA X (e :: es) t) (hg : Gl X "BadValue" := by rfl)
    (he : starEach (e :: es) X.env = (false, eval e X.env) :: starEach es X.env := by rfl) (hpl : (backTo pos (starEach es X.env)).any (·.1) = false := by rfl) :
    PS X (.Raise (some (.Call (.Name "BadValue" p) (e :: es) [] pos)) none pos') (fun _ σ H => tRaiseV X.K X.H_0 (tMkx c.V (spIni c.V ["what"] "BadValue") t) σ H fun cls d H' => W cls d σ H') :=
  ps_raise hc tk (pmk_val rfl rfl hx (pe_mkx PySem.F.excBase_ValueError D.v.T D.v.iC D.v.tI (iniBadValue (base := X.base) PySem.F.store_ValueError D.v) hr D.v.bd pass0 hg D.v.g ha (by decide) he hpl))
theorem ok_close {f : Addr} {fd : FuncData} {c : CA} (F : Fun K "close_text" "close_text" sClose f fd) (T : Bt mg) (D : Xs K mg c) : FnOk P w K mg base (L2.CX P w) 3 f fd ["what", "pieces", "due"] (spClose c) := by
  refine F.okX scClose (fun vs H Q E h => ?_) (fun cdv A outer s H vs Q E hr h => ?_)
  · obtain ⟨p, ys, rfl, _⟩ := h
    rfl
  · obtain ⟨p, ys, rfl, hp, hne, k⟩ := h
    refine ⟨_, pss_cons (ps_if (pt_cmpR op_ne (pe_ix ix_list (pv 1) (pe_un un_neg (pe_int)) (fun _ _ => rfl)) (pe_str) (nomark _))
 (pss_one (ps_bad rfl rfl D (hr.mono (by decide)) (takes_of rfl rfl rfl rfl) (by exact (pa_cons (pv 0) (pa_cons (pe_callB call_len (by rfl) T.len (by decide +kernel) (pa_cons (pv 1) pa_nil)) (pa_cons (pe_str) pa_nil))))))
 (pss_nil))
 (pss_one (ps_if (pt_cmpR op_le (pe_callB call_len (by rfl) T.len (by decide +kernel) (pa_cons (pv 1) pa_nil)) (pv 2) (nomark _))
 (pss_one (ps_bad rfl rfl D (hr.mono (by decide)) (takes_of rfl rfl rfl rfl) (by exact (pa_cons (pv 0) (pa_cons (pe_callB call_len (by rfl) T.len (by decide +kernel) (pa_cons (pv 1) pa_nil)) (pa_cons (pe_str) pa_nil))))))
 (pss_nil))), ?_⟩
    obtain ⟨zs, z, rfl⟩ : ∃ zs z, ys = zs ++ [z] := ⟨ys.dropLast, ys.getLast hne, (List.dropLast_concat_getLast hne).symm⟩
    have hat : atI ((zs ++ [z]).map V.str) (-1) = some (.str z) := by
      rw [List.map_append]
      exact atI_last _ _
    have hm : ((zs ++ [z]).map tl).getLast? = some (tl z) := by rw [List.getLast?_map, List.getLast?_concat]; rfl
    have hn : ((zs ++ [z]).map V.str).length = zs.length + 1 := by rw [List.length_map, List.length_append]; rfl
    have hn2 : ((zs ++ [z]).map tl).length = zs.length + 1 := by rw [List.length_map, List.length_append]; rfl
    have hz0 : (tl z = []) ↔ z.length = 0 := by rw [len_tl, List.length_eq_zero_iff]
    have fin : ∀ (y : Str), closeF ((zs ++ [z]).map tl) = some (((zs.length + 1 : Nat) : Int), y) → BadE c H E ((zs.length + 1 : Nat) : Int) y := fun y hy => by
      rw [hy] at k
      exact k
    refine ⟨_, rfl, _, rfl, p, _, _, _, rfl, rfl, SqL.of hp, hat, rfl, _, rfl, ?_⟩
    rw [eq_empty]
    refine ite_b (fun c1 => ?_) (fun c1 => ?_)
    · have c1 : ¬ z.length = 0 := of_decide_eq_false (by simpa using c1)
      have hf := fin "form" (by rw [closeF, if_pos (by rw [hm]; intro e; exact c1 (hz0.mp (Option.some.inj e))), hn2])
      refine ⟨_, rfl, _, rfl, _, _, rfl, .inl ⟨_, SqL.of hp, rfl⟩, (by show 3 ≤ 1000; decide), fun a1 ha1 => mk_ini (C := c.B) (ns := ["what", "line", "why"]) (code := "BadText") (vs := [.str "lives", .int (((zs ++ [z]).map V.str).length : Nat), .str "form"]) rfl ha1 fun d1 h1 e1 g1 hda1 mf1 => ⟨rfl, d1, _, e1, g1, hda1, fun u1 => ?_⟩⟩
      have m1 := mf1 u1
      refine ⟨a1, c.B, d1, u1, rfl, m1.pa, fr0_none ha1, D.b.T.exC, D.b.T.tyC, ?_⟩
      rw [hn] at m1
      rw [hn]
      exact bad_do hf (Same.refl H) m1
    · have c1 : z.length = 0 := of_decide_eq_true (by simpa using c1)
      refine ⟨_, rfl, _, _, rfl, .inl ⟨_, SqL.of hp, rfl⟩, _, rfl, _, _, rfl, rfl, _, rfl, ?_⟩
      rw [hn]
      refine ite_b (fun c2 => ?_) (fun c2 => ?_)
      · have c2 := of_decide_eq_true c2
        have hf := fin "missing" (by rw [closeF, if_neg (by rw [hm, hz0.mpr c1]; simp), if_pos (by rw [hn2]; omega), hn2])
        refine ⟨_, rfl, _, rfl, _, _, rfl, .inl ⟨_, SqL.of hp, rfl⟩, (by show 3 ≤ 1000; decide), fun a1 ha1 => mk_ini (C := c.B) (ns := ["what", "line", "why"]) (code := "BadText") (vs := [.str "lives", .int (((zs ++ [z]).map V.str).length : Nat), .str "missing"]) rfl ha1 fun d1 h1 e1 g1 hda1 mf1 => ⟨rfl, d1, _, e1, g1, hda1, fun u1 => ?_⟩⟩
        have m1 := mf1 u1
        refine ⟨a1, c.B, d1, u1, rfl, m1.pa, fr0_none ha1, D.b.T.exC, D.b.T.tyC, ?_⟩
        rw [hn] at m1
        rw [hn]
        exact bad_do hf (Same.refl H) m1
      · have c2 := of_decide_eq_false c2
        rw [closeF, if_neg (by rw [hm, hz0.mpr c1]; simp), if_neg (by rw [hn2]; omega)] at k
        exact k H (Same.refl H)
end
end Lw
namespace Lw
open PySem PySem.Spec PyProof.Rows L2 XV TL
theorem split_nl (z : Str) : (Txt.split z "\n").map tl = spl [10] 0 [] (tl z) := by
  have e : tl ("\n" : Str) = [10] := by decide +kernel
  rw [split_spl z "\n" (by rw [e]; decide) (kind_ok (by decide +kernel)), e]
theorem split_sp (z : Str) : (Txt.split z " ").map tl = spl [32] 0 [] (tl z) := by
  have e : tl (" " : Str) = [32] := by decide +kernel
  rw [split_spl z " " (by rw [e]; decide) (kind_ok (by decide +kernel)), e]
/-- the names of the text that are told as they stand -/
structure Cs (K : PySem.W.Frag) (mg : Str → Option Value) : Prop where
  lg : ∃ u, mg "LONGEST" = some u ∧ RelV (.int 60000) u
  wd : ∃ a, mg "WORDS" = some (.ref a) ∧ ∀ H, SqT K H a [.str "hollows", .str "summits", .str "loose", .str "lowest", .str "highest"]
abbrev sPieces : Stmt := topOf "text_pieces"
abbrev Npieces : List Str := ["what", "text"]
theorem scPieces : FnScope Npieces ["what", "text"] (defScope sPieces) := ⟨rfl, rfl, rfl, by decide +kernel, rfl, by decide +kernel, by decide +kernel⟩
/-- no text -/
def NoStr (K : PySem.W.Frag) (H : Hp) (v : V) : Prop := ∃ t, TyX K H v (.type t) ∧ kitB t "str" = some false
def spPieces (K : PySem.W.Frag) (c : CA) : Sp := fun vs H Q E => ∃ v, vs = [.str "lives", v] ∧
  ((∃ z : Str, v = .str z ∧ z.length ≤ 60000 ∧ ∀ (p : Addr) (H' : Hp), H p = none → Same H H' → H' p = some (.lst ((Txt.split z "\n").map V.str)) → Q (.ref p) H') ∨ (NoStr K H v ∧ BadE c H E 0 "form"))
section
variable {P : Program} {w : World} {K : PySem.W.Frag} {mg : Str → Option Value} {base : Heap}
theorem ok_pieces {f : Addr} {fd : FuncData} {c : CA} (F : Fun K "text_pieces" "text_pieces" sPieces f fd) (T : Bt mg) (C : Cs K mg) (D : Xs K mg c) : FnOk P w K mg base (L2.CX P w) 3 f fd ["what", "text"] (spPieces K c) := by
  refine F.okX scPieces (fun vs H Q E h => ?_) (fun cdv A outer s H vs Q E hr h => ?_)
  · obtain ⟨v, rfl, _⟩ := h
    rfl
  · obtain ⟨v, rfl, k⟩ := h
    obtain ⟨uL, gL, rL⟩ := C.lg
    refine ⟨_, pss_cons (ps_if (pt_not (pt_val (pe_callB call_isi (by rfl) T.isinstance (by decide +kernel) (pa_cons (pv 1) (pa_cons (pe_bltn (v := .ty "str") (by rfl) T.str (by decide +kernel) rfl) pa_nil)))))
 (pss_one (ps_bad rfl rfl D (hr.mono (by decide)) (takes_of rfl rfl rfl rfl) (by exact (pa_cons (pv 0) (pa_cons (pe_int) (pa_cons (pe_str) pa_nil))))))
 (pss_nil))
 (pss_cons (ps_if (pt_cmpR op_gt (pe_callB call_len (by rfl) T.len (by decide +kernel) (pa_cons (pv 1) pa_nil)) (pe_glob rfl gL rL) (nomark _))
 (pss_one (ps_many rfl rfl D (hr.mono (by decide)) (takes_of rfl rfl rfl rfl) (by exact (pa_cons (pe_str) (pa_cons (pe_callB call_len (by rfl) T.len (by decide +kernel) (pa_cons (pv 1) pa_nil)) pa_nil)))))
 (pss_nil))
 (pss_one (ps_ret (pe_split (pv 1) (pe_str))))), ?_⟩
    rcases k with ⟨z, rfl, hz, k⟩ | ⟨⟨t, ty, tk⟩, k⟩
    · have t1 : TyX K H (.str z) (.type "str") := .base (.str z)
      refine ⟨_, rfl, _, _, _, _, _, rfl, .ty _, t1, kit_ty (by decide +kernel : kitB "str" "str" = some true), _, rfl, ?_⟩
      refine iteF ?_
      refine ⟨_, rfl, _, z.length, rfl, ⟨by rw [sizeLine_eq]; omega, rfl⟩, _, _, rfl, rfl, _, rfl, ite_b (fun c2 => ?_) (fun c2 => ?_)⟩
      · have := of_decide_eq_true c2
        omega
      · exact ⟨_, rfl, ⟨_, rfl⟩, z, "\n", rfl, rfl, by decide +kernel, by rw [sizeLine_eq]; omega, fun p hp => k p _ hp (same_new hp) upd_same⟩
    · refine ⟨_, rfl, _, _, _, _, _, rfl, .ty _, ty, kit_ty tk, _, rfl, ?_⟩
      refine iteT ?_
      refine ⟨_, rfl, (by show 3 ≤ 1000; decide), fun a1 ha1 => mk_ini (C := c.B) (ns := ["what", "line", "why"]) (code := "BadText") (vs := [.str "lives", .int 0, .str "form"]) rfl ha1 fun d1 h1 e1 g1 hda1 mf1 => ⟨rfl, d1, _, e1, g1, hda1, fun u1 => ?_⟩⟩
      exact ⟨a1, c.B, d1, u1, rfl, (mf1 u1).pa, fr0_none ha1, D.b.T.exC, D.b.T.tyC, bad_do k (Same.refl H) (mf1 u1)⟩
end
end Lw
namespace Lw
open PySem PySem.Spec PyProof.Rows L2 XV TL
theorem eqS (z s : Str) : decide (V.str z = V.str s) = decide (tl z = tl s) := by
  rw [Bool.eq_iff_iff, decide_eq_true_eq, decide_eq_true_eq]
  constructor
  · intro h
    injection h with h
    rw [h]
  · intro h
    rw [ext_tl h]
def wdN : Nat → Str
  | 1 => "hollows"
  | 2 => "summits"
  | 3 => "loose"
  | 4 => "lowest"
  | _ => "highest"
def spanD (x : List Nat) : PyData := match spanV x with
  | some (a, b) => .tuple [.int a, .int b]
  | none => .none
def numD (x : List Nat) : PyData := if numOk x = true then .int (valL x) else .none
def badP (x : List Nat) : Bool := match spanV x with
  | some (a, b) => decide (b ≤ a)
  | none => false
/-- the words of a line behind the first one -/
def wtail (l : List Nat) : List (List Nat) := (spl [32] 0 [] l).drop 1
def whead (l : List Nat) : List Nat := ((spl [32] 0 [] l).head?).getD []
def valD (k : Nat) (l : List Nat) : List PyData := if k = 0 ∨ 6 ≤ k then [] else if k ≤ 2 then (wtail l).map spanD else (wtail l).map numD
def lineF (k : Nat) (l : List Nat) : Option Str :=
  if k = 0 ∨ 6 ≤ k then (if l ≠ tl (if k = 0 then "lives" else "done") ∨ 6 < k then some "form" else none)
  else if whead l ≠ tl (wdN k) then some "form"
  else if k ≤ 2 then (if (wtail l).any (fun x => (spanV x).isNone) = true then some "form" else if (wtail l).any badP = true then some "pair" else none)
  else if (wtail l).any (fun x => !numOk x) = true ∨ (4 ≤ k ∧ (wtail l).length ≠ 1) then some "form" else none
theorem spl_cons (S l : List Nat) : ∃ h t, spl S 0 [] l = h :: t := by
  have : ∀ (l acc : List Nat) (k : Nat), spl S k acc l ≠ [] := by
    intro l
    induction l with
    | nil => intro acc k; rw [spl_nil]; simp
    | cons c r ih =>
      intro acc k
      cases k with
      | succ k => exact ih acc k
      | zero =>
        cases hp : pre S (c :: r) with
        | true => rw [spl_hit hp]; simp
        | false => rw [spl_miss hp]; exact ih _ _
  cases e : spl S 0 [] l with
  | nil => exact absurd e (this l [] 0)
  | cons h t => exact ⟨h, t, rfl⟩
mutual
theorem Dp.mono {K : PySem.W.Frag} {M M' : Hp} (s : Same M M') : ∀ {d : PyData} {v : V}, Dp K M v d → Dp K M' v d
  | _, _, .non => .non
  | _, _, .bl b => .bl b
  | _, _, .int i => .int i
  | _, _, .str x => .str x
  | _, _, .lst h hs => .lst (s.seq h) (DpAll.mono s hs)
  | _, _, .tup (a := a) (xs := xs) h hs => .tup (by
      rcases h with h | h
      · rcases h with h | ⟨o, h⟩
        · exact .inl (.inl (s _ _ h))
        · exact .inl (.inr ⟨o, s _ _ h⟩)
      · exact .inr h) (DpAll.mono s hs)
theorem DpAll.mono {K : PySem.W.Frag} {M M' : Hp} (s : Same M M') : ∀ {ds : List PyData} {vs : List V}, DpAll K M vs ds → DpAll K M' vs ds
  | _, _, .nil => .nil
  | _, _, .cons h hs => .cons (Dp.mono s h) (DpAll.mono s hs)
end
theorem DpAll.snoc {K : PySem.W.Frag} {M : Hp} {v : V} {d : PyData} : ∀ {vs : List V} {ds : List PyData}, DpAll K M vs ds → Dp K M v d → DpAll K M (vs ++ [v]) (ds ++ [d])
  | _, _, .nil, h => .cons h .nil
  | _, _, .cons a as, h => .cons a (DpAll.snoc as h)
theorem DpAll.len {K : PySem.W.Frag} {M : Hp} : ∀ {vs : List V} {ds : List PyData}, DpAll K M vs ds → vs.length = ds.length
  | _, _, .nil => rfl
  | _, _, .cons _ as => by rw [List.length_cons, List.length_cons, DpAll.len as]
theorem span_dp {K : PySem.W.Frag} {M : Hp} {v : V} {x : List Nat} (h : SpanIs M v (spanV x)) : Dp K M v (spanD x) := by
  unfold spanD
  cases e : spanV x with
  | none =>
    rw [e] at h
    cases h
    exact .non
  | some ab =>
    obtain ⟨a, b⟩ := ab
    rw [e] at h
    obtain ⟨p, rfl, hp⟩ := h
    exact .tup (.inl (.inl hp)) (.cons (.int _) (.cons (.int _) .nil))
theorem num_dp {K : PySem.W.Frag} {M : Hp} {x : List Nat} : Dp K M (nv x) (numD x) := by
  unfold nv numD
  split
  · exact .int _
  · exact .non
theorem dif_sub {H0 H1 H2 : Hp} (s : Same H1 H2) : Same (dif H0 H1) (dif H0 H2) := fun a o h => by
  obtain ⟨h1, h2⟩ := of_dif h
  exact dif_of h1 (s _ _ h2)
theorem dif_up {H0 H1 H2 : Hp} (u : Up H0 H1) : Same (dif H1 H2) (dif H0 H2) := fun a o h => by
  obtain ⟨h1, h2⟩ := of_dif h
  exact dif_of (u a h1) h2
theorem same_up {H H1 : Hp} (s : Same H H1) : Up H H1 := fun a h => sN s h
end Lw
namespace Lw
open PySem PySem.Spec PyProof.Rows L2 XV TL
theorem lay_all {n : Nat} : ∀ {ds : List PyData}, (∀ d ∈ ds, d.canLay0 = true ∧ d.depth ≤ n) → PyData.canLayAll0 ds = true ∧ PyData.depthAll ds ≤ n
  | [], _ => ⟨rfl, Nat.zero_le _⟩
  | d :: ds, h => by
    have h1 := h d (List.mem_cons_self ..)
    have h2 := lay_all (n := n) (ds := ds) fun e he => h e (List.mem_cons_of_mem _ he)
    refine ⟨?_, ?_⟩
    · show (d.canLay0 && PyData.canLayAll0 ds) = true
      rw [h1.1, h2.1]
      rfl
    · show max d.depth (PyData.depthAll ds) ≤ n
      exact Nat.max_le.mpr ⟨h1.2, h2.2⟩
theorem shaped_list {n : Nat} {ds : List PyData} (hn : n ≤ 60) (h : ∀ d ∈ ds, d.canLay0 = true ∧ d.depth ≤ n) : SeqAt.shaped (.list ds) = true := by
  obtain ⟨a, b⟩ := lay_all h
  show (PyData.canLayAll0 ds && decide (PyData.depthAll ds + 1 ≤ 64)) = true
  rw [a, decide_eq_true (by omega)]
  rfl
theorem span_lay (x : List Nat) : (spanD x).canLay0 = true ∧ (spanD x).depth ≤ 1 := by
  unfold spanD
  split
  · exact ⟨rfl, Nat.le_of_eq rfl⟩
  · exact ⟨rfl, by decide⟩
theorem num_lay (x : List Nat) : (numD x).canLay0 = true ∧ (numD x).depth ≤ 1 := by
  unfold numD
  split
  · exact ⟨rfl, Nat.zero_le _⟩
  · exact ⟨rfl, by decide⟩
theorem span_eqv (x : List Nat) : PyData.eqv (spanD x) .none = (spanV x).isNone := by
  unfold spanD
  cases spanV x with
  | none => rfl
  | some ab => rfl
theorem num_eqv (x : List Nat) : PyData.eqv (numD x) .none = !numOk x := by
  unfold numD
  cases numOk x with
  | true => rfl
  | false => rfl
theorem cutV1 (xs : List V) : cutV xs (some 1) none = xs.drop 1 := by
  have e : HT.sIx xs.length 0 (some ((1 : Nat) : Int)) = min 1 xs.length := HT.sIx_nat _ _ 1
  show (xs.drop (HT.sIx xs.length 0 (some ((1 : Nat) : Int)))).take (xs.length - HT.sIx xs.length 0 (some ((1 : Nat) : Int))) = _
  rw [e]
  have h2 : xs.drop (min 1 xs.length) = xs.drop 1 := by
    cases xs with
    | nil => rfl
    | cons a r => rw [show min 1 (a :: r).length = 1 from by rw [List.length_cons]; omega]
  rw [h2, List.take_of_length_le (by rw [List.length_drop]; omega)]
theorem un65 {k : Nat} {A : Around} (hr : Room k A) : A.units + 65 < cLine := by
  have := hr.un
  omega
theorem SpanIs.mono {M M' : Hp} (s : Same M M') {v : V} {o : Option (Int × Int)} (h : SpanIs M v o) : SpanIs M' v o := by
  cases o with
  | none => exact h
  | some ab =>
    obtain ⟨p, e, hp⟩ := h
    exact ⟨p, e, s _ _ hp⟩
/-- beside the list at D that grows -/
theorem grow {H2 H3 H4 : Hp} {D : Addr} {o : HO} (s4 : Same H3 H4) : Same (dif H2 (delH H3 D)) (dif H2 (delH (upd H4 D o) D)) := fun a u h => by
  obtain ⟨h1, h2⟩ := of_dif h
  by_cases e : a = D
  · rw [e, delH_same] at h2
    cases h2
  · rw [delH_ne e] at h2
    exact dif_of h1 (by rw [delH_ne e, upd_ne e]; exact s4 _ _ h2)
theorem grow_new {H2 H3 H4 : Hp} {D : Addr} {o x : HO} (u : Up H2 H3) (e3 : H3 D = some x) : Same (dif H3 H4) (dif H2 (delH (upd H4 D o) D)) := fun a v h => by
  obtain ⟨h1, h2⟩ := of_dif h
  have e : a ≠ D := fun z => by rw [z, e3] at h1; cases h1
  exact dif_of (u a h1) (by rw [delH_ne e, upd_ne e]; exact h2)
theorem grown {H H2 H3 : Hp} {D : Addr} (u : Up H H2) : Same (dif H2 (delH H3 D)) (dif H H3) := fun a v h => by
  obtain ⟨h1, h2⟩ := of_dif h
  by_cases e : a = D
  · rw [e, delH_same] at h2
    cases h2
  · rw [delH_ne e] at h2
    exact dif_of (u a h1) h2
theorem str_at {ys : List Str} {i : Nat} {y : V} (h : (ys.map V.str)[i]? = some y) : ∃ q, y = .str q ∧ ys[i]? = some q := by
  rw [List.getElem?_map] at h
  cases e : ys[i]? with
  | none => rw [e] at h; cases h
  | some q => rw [e] at h; exact ⟨q, (Option.some.inj h).symm, rfl⟩
abbrev wdL : List V := [.str "hollows", .str "summits", .str "loose", .str "lowest", .str "highest"]
theorem at_wd {k : Nat} (h0 : ¬ k = 0) (h6 : k < 6) : atI wdL ((k : Int) - 1) = some (.str (wdN k)) := by
  obtain rfl | rfl | rfl | rfl | rfl : k = 1 ∨ k = 2 ∨ k = 3 ∨ k = 4 ∨ k = 5 := by omega
  all_goals rfl
theorem any_dp {K : PySem.W.Frag} {M : Hp} : ∀ {xs : List V} {ls : List (List Nat)}, DpAll K M xs (ls.map spanD) → (∀ l ∈ ls, (spanV l).isNone = false) → ∀ (i : Nat) (x : V), xs[i]? = some x → ∃ (l : List Nat) (a b : Int) (p : Addr), ls[i]? = some l ∧ spanV l = some (a, b) ∧ x = .ref p ∧ SqT K M p [.int a, .int b]
  | [], [], _, _, i, x, h => by cases h
  | v :: vs, l :: ls, .cons h hs, hn, i, x, hi => by
    cases i with
    | succ i => exact any_dp hs (fun l hl => hn l (List.mem_cons_of_mem _ hl)) i x hi
    | zero =>
      cases hi
      have h0 := hn l (List.mem_cons_self ..)
      unfold spanD at h
      cases e : spanV l with
      | none => rw [e] at h0; cases h0
      | some ab =>
        obtain ⟨a, b⟩ := ab
        rw [e] at h
        cases h with
        | tup hq hs =>
          rename_i p xs
          cases hs with
          | cons h1 hs =>
            cases hs with
            | cons h2 hs =>
              cases hs
              cases h1
              cases h2
              exact ⟨l, a, b, p, rfl, e, rfl, hq⟩
theorem wtail_len (l : List Nat) : (wtail l).length ≤ l.length + 1 := by
  have := spl_len [32] l [] 0
  rw [wtail, List.length_drop]
  omega
abbrev sLine : Stmt := topOf "read_line"
abbrev Nline : List Str := ["place", "line", "words", "values", "word", "low", "high"]
theorem scLine : FnScope Nline ["place", "line"] (defScope sLine) := ⟨rfl, rfl, rfl, by decide +kernel, rfl, by decide +kernel, by decide +kernel⟩
def LineEnds (K : PySem.W.Frag) (c : CA) (H : Hp) (Q : VK) (E : XK) (k : Nat) (l : List Nat) : Option Str → Prop
  | some y => BadE c H E (k + 1 : Nat) y
  | none => ∀ (p : Addr) (xs : List V) (H' : Hp), Same H H' → dif H H' p = some (.lst xs) → DpAll K (dif H H') xs (valD k l) → Q (.ref p) H'
def spLine (K : PySem.W.Frag) (c : CA) : Sp := fun vs H Q E => ∃ (k : Nat) (z : Str), vs = [.int k, .str z] ∧ z.length ≤ 70000 ∧ LineEnds K c H Q E k (tl z) (lineF k (tl z))
section
variable {P : Program} {w : World} {K : PySem.W.Frag} {mg : Str → Option Value} {base : Heap}
theorem ok_line {f fS fN : Addr} {fd fdS fdN : FuncData} {c : CA} (F : Fun K "read_line" "read_line" sLine f fd) (T : Bt mg) (C : Cs K mg) (D : Xs K mg c) (D_span : Df K mg "span_in" sSpan ["word"] fS fdS) (D_num : Df K mg "number_in" sNumIn ["word"] fN fdN) : FnOk P w K mg base (L2.CX P w) 3 f fd ["place", "line"] (spLine K c) := by
  have G_num : FnOk P w K mg base CX0 1 fN fdN ["word"] spNum := ok_numIn D_num.fn T
  have G_span : FnOk P w K mg base CX0 2 fS fdS ["word"] spSpan := ok_span D_span.fn T D_num
  refine F.okX scLine (fun vs H Q E h => ?_) (fun cdv A outer s H vs Q E hr h => ?_)
  · obtain ⟨k, z, rfl, _⟩ := h
    rfl
  · obtain ⟨k, z, rfl, hz, k0⟩ := h
    obtain ⟨aW, gW, tW⟩ := C.wd
    refine ⟨_, pss_cons (ps_if (PW.pt (pw_or (pt_cmpR op_eq (pv 0) (pe_int) (nomark _)) (pw_or1 (pt_cmpR op_ge (pv 0) (pe_int) (nomark _)))))
 (pss_cons (ps_if (PW.pt (pw_or (pt_cmpR op_ne (pv 1) (pe_ifExp (pt_cmpR op_eq (pv 0) (pe_int) (nomark _)) (pe_str) (pe_str)) (nomark _)) (pw_or1 (pt_cmpR op_gt (pv 0) (pe_int) (nomark _)))))
 (pss_one (ps_bad rfl rfl D (hr.mono (by decide)) (takes_of rfl rfl rfl rfl) (by exact (pa_cons (pe_str) (pa_cons (pe_op op_add (pv 0) (pe_int)) (pa_cons (pe_str) pa_nil))))))
 (pss_nil))
 (pss_one (ps_ret (pe_lst (pa_nil)))))
 (pss_nil))
 (pss_cons (ps_set (i := 2) scLine.nd rfl (Or.inl rfl) (pe_split (pv 1) (pe_str)))
 (pss_mid (ps_if (pt_cmpR op_le (pv 0) (pe_int) (nomark _))
 (pss_one (ps_setLc (i := 3) (own := [("word", 4)]) (g := gName 4) (tt := tYes) rfl scLine.nd rfl rfl (sw_true rfl rfl rfl (by decide +kernel)) (pi_list (pe_slice sl_list (pv 2) (po_some (pe_int)) (po_none))) (blkOk_by (N := Nline) (sc := defScope sLine) (by decide +kernel)) (fun _ _ _ _ _ => pg_name (i := 4) scLine.nd rfl (Or.inl rfl)) (fun _ _ _ _ _ => pts_nil) (fun _ _ _ _ _ => cal D_span G_span (hr.mono (by decide)) (pa_cons (pv 4) pa_nil))))
 (pss_one (ps_setLc (i := 3) (own := [("word", 4)]) (g := gName 4) (tt := tYes) rfl scLine.nd rfl rfl (sw_true rfl rfl rfl (by decide +kernel)) (pi_list (pe_slice sl_list (pv 2) (po_some (pe_int)) (po_none))) (blkOk_by (N := Nline) (sc := defScope sLine) (by decide +kernel)) (fun _ _ _ _ _ => pg_name (i := 4) scLine.nd rfl (Or.inl rfl)) (fun _ _ _ _ _ => pts_nil) (fun _ _ _ _ _ => cal D_num G_num (hr.mono (by decide)) (pa_cons (pv 4) pa_nil)))))
 (pss_cons (ps_if (PW.pt (pw_or (pt_cmpR op_ne (pe_ix ix_list (pv 2) (pe_int) (fun _ _ => rfl)) (pe_ix ix_seq (pe_glob (v := .ref aW) rfl gW rfl) (pe_op op_sub (pv 0) (pe_int)) (fun _ _ => rfl)) (nomark _)) (pw_or (pt_cmpR (op_inD (un65 hr)) (pe_non) (pv 3) (by rfl)) (pw_or1 (PW.pt (pw_and (pt_cmpR op_ge (pv 0) (pe_int) (nomark _)) (pw_and1 (pt_cmpR op_ne (pe_callB call_len (by rfl) T.len (by decide +kernel) (pa_cons (pv 3) pa_nil)) (pe_int) (nomark _)))))))))
 (pss_one (ps_bad rfl rfl D (hr.mono (by decide)) (takes_of rfl rfl rfl rfl) (by exact (pa_cons (pe_str) (pa_cons (pe_op op_add (pv 0) (pe_int)) (pa_cons (pe_str) pa_nil))))))
 (pss_nil))
 (pss_cons (ps_if (PW.pt (pw_and (pt_cmpR op_le (pv 0) (pe_int) (nomark _)) (pw_and1 (pt_val (pe_callB (cr_any rfl) (by rfl) T.any (by decide +kernel) (pa_cons (pe_lc (own := [("low", 5), ("high", 6)]) (g := gTup K 2 (gCons (gName 5) (gCons (gName 6) gNil))) (tt := tYes) rfl scLine.nd (pi_list (pv 3)) (blkOk_by (N := Nline) (sc := defScope sLine) (by decide +kernel)) (fun _ _ _ _ _ => pg_tup rfl (pgs_cons (pg_name (i := 5) scLine.nd rfl (Or.inl rfl)) (pgs_cons (pg_name (i := 6) scLine.nd rfl (Or.inl rfl)) (pgs_nil)))) (fun _ _ _ _ _ => pts_nil) (fun _ _ _ _ _ => pe_cmpR op_ge (pv 5) (pv 6) (nomark _))) pa_nil))))))
 (pss_one (ps_bad rfl rfl D (hr.mono (by decide)) (takes_of rfl rfl rfl rfl) (by exact (pa_cons (pe_str) (pa_cons (pe_op op_add (pv 0) (pe_int)) (pa_cons (pe_str) pa_nil))))))
 (pss_nil))
 (pss_one (ps_ret (pv 3))))))), ?_⟩
    have raise : ∀ {σ : L2.St} {H1 : Hp} {y : Str}, Same H H1 → lineF k (tl z) = some y → σ[0]? = some (some (.int k)) → tRaiseV K H (tMkx c.B (spIni c.B ["what", "line", "why"] "BadText") (tCons (tC (.str "lives")) (tCons (tOp (rI0 fun i j => .int (i + j)) (tVar 0) (tC (.int 1))) (tCons (tC (.str y)) tNil)))) σ H1 fun cls d H' => E cls d H' := fun {σ H1 y} s1 hf hσ => by
      rw [hf] at k0
      refine ⟨.int k, ?_, _, _, rfl, rfl, (by show 3 ≤ 1000; decide), fun a1 ha1 => mk_ini (C := c.B) (ns := ["what", "line", "why"]) (code := "BadText") (vs := [.str "lives", .int ((k : Int) + 1), .str y]) rfl ha1 fun d1 h1 e1 g1 hda1 mf1 => ⟨rfl, d1, _, e1, g1, hda1, fun u1 => ?_⟩⟩
      · exact hσ
      · exact ⟨a1, c.B, d1, u1, rfl, (mf1 u1).pa, fr0_none (sN s1 ha1), D.b.T.exC, D.b.T.tyC, bad_do k0 s1 (mf1 u1)⟩
    have noneD : ∀ H', valD k (tl z) = [] → lineF k (tl z) = none → ∀ p, H' p = none → Same H H' → Q (.ref p) (upd H' p (.lst [])) := fun H' hv hf p hp s => by
      rw [hf] at k0
      exact k0 p [] _ (Same.trans s (same_new hp)) (dif_of (sN s hp) upd_same) (by rw [hv]; exact .nil)
    refine ⟨_, rfl, rfl, _, rfl, ite_b (fun c1 => iteT ?_) (fun c1 => ?_)⟩
    · have hk : k = 0 := by
        injection of_decide_eq_true c1
        omega
      subst hk
      have hF : lineF 0 (tl z) = if tl z ≠ tl "lives" then some ("form" : Str) else none := by
        rw [lineF, if_pos (Or.inl rfl), if_pos (rfl : (0 : Nat) = 0)]
        by_cases h : tl z ≠ tl "lives"
        · rw [if_pos h, if_pos (Or.inl h)]
        · rw [if_neg h, if_neg (by intro e; rcases e with e | e; exact h e; omega)]
      refine ⟨_, rfl, _, rfl, rfl, _, rfl, ite_b (fun _ => ?_) (fun c => absurd (c.symm.trans c1) (by decide))⟩
      refine ⟨rfl, _, rfl, ?_⟩
      rw [eqS]
      refine ite_b (fun c2 => iteT ?_) (fun c2 => ?_)
      · have h : tl z ≠ tl "lives" := of_decide_eq_false (by simpa using c2)
        exact raise (Same.refl H) (by rw [hF, if_pos h]) rfl
      · have h : tl z = tl "lives" := of_decide_eq_true (by simpa using c2)
        refine ⟨_, rfl, _, _, rfl, rfl, _, rfl, ite_b (fun c3 => absurd (of_decide_eq_true c3) (by decide)) (fun _ => ?_)⟩
        exact ⟨Nat.zero_le _, fun p hp => noneD H rfl (by rw [hF, if_neg (by intro e; exact e h)]) p hp (Same.refl H)⟩
    have hk0 : k ≠ 0 := fun e => by
      rw [e] at c1
      exact absurd c1 (by decide)
    refine ⟨_, rfl, _, _, rfl, rfl, _, rfl, ite_b (fun c2 => ?_) (fun c2 => ?_)⟩
    · have hk6 : 6 ≤ k := by
        have := of_decide_eq_true c2
        omega
      have hF : lineF k (tl z) = if tl z ≠ tl "done" ∨ 6 < k then some ("form" : Str) else none := by
        rw [lineF, if_pos (Or.inr hk6), if_neg hk0]
      refine ⟨_, rfl, _, rfl, rfl, _, rfl, ite_b (fun c => absurd (c.symm.trans c1) (by decide)) (fun _ => ?_)⟩
      refine ⟨rfl, _, rfl, ?_⟩
      rw [eqS]
      refine ite_b (fun c3 => iteT ?_) (fun c3 => ?_)
      · have h : tl z ≠ tl "done" := of_decide_eq_false (by simpa using c3)
        exact raise (Same.refl H) (by rw [hF, if_pos (Or.inl h)]) rfl
      · have h : tl z = tl "done" := of_decide_eq_true (by simpa using c3)
        refine ⟨_, rfl, _, _, rfl, rfl, _, rfl, ite_b (fun c4 => ?_) (fun c4 => ?_)⟩
        · have := of_decide_eq_true c4
          exact raise (Same.refl H) (by rw [hF, if_pos (Or.inr (by omega))]) rfl
        · have := of_decide_eq_false c4
          exact ⟨Nat.zero_le _, fun p hp => noneD H (by rw [valD, if_pos (Or.inr hk6)]) (by rw [hF, if_neg (by intro e; rcases e with e | e; exact e h; omega)]) p hp (Same.refl H)⟩
    have hk6 : k < 6 := by
      have := of_decide_eq_false c2
      omega
    have hk : ¬ (k = 0 ∨ 6 ≤ k) := by omega
    have es := split_sp z
    have el := split_len es
    refine ⟨_, rfl, ⟨_, rfl⟩, z, " ", rfl, rfl, by decide +kernel, by rw [sizeLine_eq]; omega, fun ws hws => ?_⟩
    have s1 := same_new (o := .lst ((Txt.split z " ").map V.str)) hws
    have e1 : upd H ws (.lst ((Txt.split z " ").map V.str)) ws = some (.lst ((Txt.split z " ").map V.str)) := upd_same
    generalize upd H ws (.lst ((Txt.split z " ").map V.str)) = H1 at s1 e1 ⊢
    -- the values
    have htl : ((Txt.split z " ").drop 1).map tl = wtail (tl z) := by rw [wtail, ← es, List.map_drop]
    have hlt : ∀ y ∈ (Txt.split z " ").drop 1, y.length ≤ z.length := fun y hy => split_mem es (List.mem_of_mem_drop hy)
    have hcv : cutV ((Txt.split z " ").map V.str) (some 1) none = ((Txt.split z " ").drop 1).map V.str := by rw [cutV1, List.map_drop]
    have hdl : ((Txt.split z " ").drop 1).length ≤ z.length + 1 := by
      rw [List.length_drop]
      omega
    refine ⟨fun σ' H' => ∃ (vl : Addr) (xs : List V), σ' = [some (.int k), some (.str z), some (.ref ws), some (.ref vl), none, none, none] ∧ Same H1 H' ∧ dif H H' vl = some (.lst xs) ∧ DpAll K (dif H H') xs (valD k (tl z)), ?_, ?_⟩
    · refine ⟨_, rfl, _, _, rfl, rfl, _, rfl, ite_b (fun c3 => ?_) (fun c3 => ?_)⟩
      · have hk2 : k ≤ 2 := by
          have := of_decide_eq_true c3
          omega
        have hv : valD k (tl z) = ((Txt.split z " ").drop 1).map fun y => spanD (tl y) := by
          rw [valD, if_neg hk, if_pos hk2, ← htl, List.map_map]
          rfl
        refine ⟨_, rfl, _, rfl, ws, _, rfl, SqL.of e1, fun p2 hp2 => ?_⟩
        rw [hcv]
        have e2 : upd H1 p2 (.lst (((Txt.split z " ").drop 1).map V.str)) p2 = some (.lst (((Txt.split z " ").drop 1).map V.str)) := upd_same
        have s2 := same_new (o := .lst (((Txt.split z " ").drop 1).map V.str)) hp2
        generalize upd H1 p2 (.lst (((Txt.split z " ").drop 1).map V.str)) = H2 at e2 s2 ⊢
        have s12 := Same.trans s1 s2
        refine ⟨p2, rfl, ⟨_, SqL.of e2⟩, fun Da hDa => lc_list (K := K) (a := p2) (xs := ((Txt.split z " ").drop 1).map V.str) (fun i H3 => Same H2 H3 ∧ ∃ xs, H3 Da = some (.lst xs) ∧ xs.length = i ∧ DpAll K (dif H2 (delH H3 Da)) xs ((((Txt.split z " ").drop 1).take i).map fun y => spanD (tl y))) ⟨same_new hDa, [], upd_same, rfl, .nil⟩ (fun i H3 _ h => ?_) ?_ ?_⟩
        · exact SqL.of (h.1 _ _ e2)
        · rintro i y H3 hi ⟨s3, xs, e3, l3, o3⟩
          obtain ⟨q, rfl, hq⟩ := str_at hi
          refine ⟨rfl, _, rfl, q, rfl, by have := hlt q (List.mem_of_getElem? hq); omega, fun v H4 s4 hv => ?_⟩
          have hil := (List.getElem?_eq_some_iff.mp hq).1
          refine ⟨xs, s4 _ _ e3, by rw [sizeLine_eq]; omega, fun a o h => ?_, xs ++ [v], upd_same, by rw [List.length_append, l3]; rfl, ?_⟩
          · rw [upd_ne (ne_of_none h hDa)]
            exact s4 _ _ (s3 _ _ h)
          · rw [List.take_add_one, hq, List.map_append]
            exact DpAll.snoc (Lw.DpAll.mono (grow s4) o3) (span_dp (hv.mono (grow_new (same_up s3) e3)))
        · rintro H3 ⟨s3, xs, e3, l3, o3⟩
          rw [List.length_map, List.take_length] at o3
          refine ⟨Da, xs, rfl, Same.trans s2 s3, dif_of (sN s12 hDa) e3, ?_⟩
          rw [hv]
          exact Lw.DpAll.mono (grown (same_up s12)) o3
      · have hk2 : ¬ k ≤ 2 := by
          have := of_decide_eq_false c3
          omega
        have hv : valD k (tl z) = ((Txt.split z " ").drop 1).map fun y => numD (tl y) := by
          rw [valD, if_neg hk, if_neg hk2, ← htl, List.map_map]
          rfl
        refine ⟨_, rfl, _, rfl, ws, _, rfl, SqL.of e1, fun p2 hp2 => ?_⟩
        rw [hcv]
        have e2 : upd H1 p2 (.lst (((Txt.split z " ").drop 1).map V.str)) p2 = some (.lst (((Txt.split z " ").drop 1).map V.str)) := upd_same
        have s2 := same_new (o := .lst (((Txt.split z " ").drop 1).map V.str)) hp2
        generalize upd H1 p2 (.lst (((Txt.split z " ").drop 1).map V.str)) = H2 at e2 s2 ⊢
        have s12 := Same.trans s1 s2
        refine ⟨p2, rfl, ⟨_, SqL.of e2⟩, fun Da hDa => lc_list (K := K) (a := p2) (xs := ((Txt.split z " ").drop 1).map V.str) (fun i H3 => Same H2 H3 ∧ ∃ xs, H3 Da = some (.lst xs) ∧ xs.length = i ∧ DpAll K (dif H2 (delH H3 Da)) xs ((((Txt.split z " ").drop 1).take i).map fun y => numD (tl y))) ⟨same_new hDa, [], upd_same, rfl, .nil⟩ (fun i H3 _ h => ?_) ?_ ?_⟩
        · exact SqL.of (h.1 _ _ e2)
        · rintro i y H3 hi ⟨s3, xs, e3, l3, o3⟩
          obtain ⟨q, rfl, hq⟩ := str_at hi
          refine ⟨rfl, _, rfl, q, rfl, by have := hlt q (List.mem_of_getElem? hq); omega, fun H4 s4 => ?_⟩
          have hil := (List.getElem?_eq_some_iff.mp hq).1
          refine ⟨xs, s4 _ _ e3, by rw [sizeLine_eq]; omega, fun a o h => ?_, xs ++ [nv (tl q)], upd_same, by rw [List.length_append, l3]; rfl, ?_⟩
          · rw [upd_ne (ne_of_none h hDa)]
            exact s4 _ _ (s3 _ _ h)
          · rw [List.take_add_one, hq, List.map_append]
            exact DpAll.snoc (Lw.DpAll.mono (grow s4) o3) num_dp
        · rintro H3 ⟨s3, xs, e3, l3, o3⟩
          rw [List.length_map, List.take_length] at o3
          refine ⟨Da, xs, rfl, Same.trans s2 s3, dif_of (sN s12 hDa) e3, ?_⟩
          rw [hv]
          exact Lw.DpAll.mono (grown (same_up s12)) o3
    · rintro σ1 H2 ⟨vl, xs, rfl, s2, e2, o2⟩
      obtain ⟨y0, yr, hy⟩ : ∃ y0 yr, Txt.split z " " = y0 :: yr := by
        obtain ⟨h, t, e⟩ := spl_cons [32] (tl z)
        cases e3 : Txt.split z " " with
        | nil => rw [e3] at es; rw [e] at es; cases es
        | cons y0 yr => exact ⟨y0, yr, rfl⟩
      have hw0 : whead (tl z) = tl y0 := by rw [whead, ← es, hy]; rfl
      have w2 : H2 ws = some (.lst (.str y0 :: yr.map V.str)) := by rw [s2 _ _ e1, hy]; rfl
      have s02 := Same.trans s1 s2
      have dv : Dp K H2 (.ref vl) (.list (valD k (tl z))) := .lst (.inl (.inl (dif_in _ _ e2))) (Lw.DpAll.mono dif_in o2)
      have hlen : xs.length = (wtail (tl z)).length := by
        rw [Lw.DpAll.len o2, valD, if_neg hk]
        split <;> rw [List.length_map]
      have hF : lineF k (tl z) = if whead (tl z) ≠ tl (wdN k) then some ("form" : Str) else if k ≤ 2 then (if (wtail (tl z)).any (fun x => (spanV x).isNone) = true then some ("form" : Str) else if (wtail (tl z)).any badP = true then some ("pair" : Str) else none)
          else if (wtail (tl z)).any (fun x => !numOk x) = true ∨ (4 ≤ k ∧ (wtail (tl z)).length ≠ 1) then some ("form" : Str) else none := by
        rw [lineF, if_neg hk]
      refine ⟨_, rfl, ws, _, 0, .str y0, rfl, rfl, SqL.of w2, (atI_nat (j := 0) rfl : atI _ ((0 : Nat) : Int) = _), _, rfl, _, _, rfl, rfl, .inr (.inl ⟨aW, _, (k : Int) - 1, .str (wdN k), rfl, rfl, tW H2, at_wd hk0 hk6, rfl, _, rfl, ?_⟩)⟩
      rw [eqS, ← hw0]
      refine ite_b (fun c3 => iteT ?_) (fun c3 => ?_)
      · have h : whead (tl z) ≠ tl (wdN k) := of_decide_eq_false (by simpa using c3)
        exact raise s02 (by rw [hF, if_pos h]) rfl
      have h3 : whead (tl z) = tl (wdN k) := of_decide_eq_true (by simpa using c3)
      rw [if_neg (by intro e; exact e h3)] at hF
      have hsh : SeqAt.shaped (.list (valD k (tl z))) = true := shaped_list (n := 1) (by decide) fun d hd => by
        rw [valD, if_neg hk] at hd
        split at hd
        · obtain ⟨x, _, rfl⟩ := List.mem_map.mp hd
          exact span_lay x
        · obtain ⟨x, _, rfl⟩ := List.mem_map.mp hd
          exact num_lay x
      refine ⟨_, rfl, .none, _, .non, dv, by decide, hsh, _, rfl, ?_⟩
      by_cases hk2 : k ≤ 2
      · rw [if_pos hk2] at hF
        have ea : ((valD k (tl z)).any fun z => PyData.eqv z .none) = (wtail (tl z)).any fun x => (spanV x).isNone := by
          rw [valD, if_neg hk, if_pos hk2, List.any_map]
          exact congrArg (fun f => (wtail (tl z)).any f) (funext span_eqv)
        rw [ea]
        refine ite_b (fun c4 => iteT ?_) (fun c4 => ?_)
        · exact raise s02 (by rw [hF, if_pos c4]) rfl
        rw [if_neg (by rw [c4]; exact Bool.false_ne_true)] at hF
        refine ⟨_, rfl, _, _, rfl, rfl, _, rfl, ite_b (fun c5 => absurd (of_decide_eq_true c5) (by omega)) (fun _ => ?_)⟩
        refine ⟨_, rfl, _, _, rfl, rfl, _, rfl, ite_b (fun _ => ?_) (fun c5 => absurd (of_decide_eq_false c5) (by omega))⟩
        have hN : ∀ l ∈ wtail (tl z), (spanV l).isNone = false := fun l hl => by
          cases e : (spanV l).isNone with
          | false => rfl
          | true =>
            rw [List.any_eq_false] at c4
            exact absurd e (c4 l hl)
        have o3 : DpAll K (dif H H2) xs ((wtail (tl z)).map spanD) := by rw [valD, if_neg hk, if_pos hk2] at o2; exact o2
        have hx : ∀ (i : Nat) (x : V), xs[i]? = some x → ∃ (l : List Nat) (a b : Int) (p : Addr), (wtail (tl z))[i]? = some l ∧ spanV l = some (a, b) ∧ x = .ref p ∧ SqT K (dif H H2) p [.int a, .int b] := any_dp o3 hN
        have l2 := dif_in _ _ e2
        refine ⟨_, rfl, vl, rfl, ⟨_, SqL.of l2⟩, fun Da hDa => lc_list (K := K) (a := vl) (xs := xs) (fun i H3 => Same H2 H3 ∧ H3 Da = some (.lst ((((wtail (tl z)).take i).map badP).map V.bl))) ⟨same_new hDa, upd_same⟩ (fun i H3 _ h => SqL.of (h.1 _ _ l2)) ?_ ?_⟩
        · rintro i x H3 hi ⟨s3, e3⟩
          obtain ⟨l, a, b, p, hl, hs, rfl, hq⟩ := hx i x hi
          have hq3 : SqT K H3 p [.int a, .int b] := by
            rcases hq with (h | ⟨o, h⟩) | h
            · exact .inl (.inl (s3 _ _ (dif_in _ _ h)))
            · exact .inl (.inr ⟨o, s3 _ _ (dif_in _ _ h)⟩)
            · exact .inr h
          refine ⟨p, _, rfl, hq3, rfl, _, _, rfl, _, _, rfl, rfl, rfl, _, rfl, _, rfl, _, _, rfl, rfl, _, e3, ?_, fun a o h => ?_, ?_⟩
          · have := (List.getElem?_eq_some_iff.mp hl).1
            have h4 := wtail_len (tl z)
            have h5 := len_tl z
            rw [List.length_map, List.length_map, sizeLine_eq]
            have := List.length_take_le' i (wtail (tl z))
            omega
          · rw [upd_ne (ne_of_none h hDa)]
            exact s3 _ _ h
          · have hb : badP l = decide (b ≤ a) := by rw [badP, hs]
            rw [upd_same, List.take_add_one, hl, List.map_append, List.map_append]
            show _ = some (HO.lst (_ ++ [V.bl (badP l)]))
            rw [hb]
        · rintro H3 ⟨s3, e3⟩
          refine ⟨Da, _, rfl, SqL.of e3, _, rfl, ?_⟩
          have ea2 : (((wtail (tl z)).take xs.length).map badP).any id = (wtail (tl z)).any badP := by
            rw [hlen, List.take_length, List.any_map]
            rfl
          rw [ea2]
          have s03 := Same.trans s02 s3
          refine ite_b (fun c6 => ?_) (fun c6 => ?_)
          · exact raise s03 (by rw [hF, if_pos c6]) rfl
          · rw [hF, if_neg (by rw [c6]; exact Bool.false_ne_true)] at k0
            exact ⟨_, rfl, k0 vl xs H3 s03 (dif_sub s3 _ _ e2) (Lw.DpAll.mono (dif_sub s3) o2)⟩
      · rw [if_neg hk2] at hF
        have ea : ((valD k (tl z)).any fun z => PyData.eqv z .none) = (wtail (tl z)).any fun x => !numOk x := by
          rw [valD, if_neg hk, if_neg hk2, List.any_map]
          exact congrArg (fun f => (wtail (tl z)).any f) (funext num_eqv)
        rw [ea]
        have l2 := dif_in _ _ e2
        have done : lineF k (tl z) = none → Q (.ref vl) H2 := fun h => by
          rw [h] at k0
          exact k0 vl xs H2 s02 e2 o2
        refine ite_b (fun c4 => iteT ?_) (fun c4 => ?_)
        · exact raise s02 (by rw [hF, if_pos (Or.inl c4)]) rfl
        refine ⟨_, rfl, _, _, rfl, rfl, _, rfl, ite_b (fun c5 => ?_) (fun c5 => ?_)⟩
        · have c5 := of_decide_eq_true c5
          refine ⟨_, rfl, _, xs.length, rfl, .inl ⟨_, SqL.of l2, rfl⟩, rfl, _, rfl, ?_⟩
          refine ite_b (fun c6 => ?_) (fun c6 => ?_)
          · have c6 : ¬ (V.int xs.length = V.int 1) := of_decide_eq_false (by simpa using c6)
            exact raise s02 (by rw [hF, if_pos (Or.inr ⟨by omega, fun e => c6 (by rw [hlen, e]; rfl)⟩)]) rfl
          · have c6 : V.int xs.length = V.int 1 := of_decide_eq_true (by simpa using c6)
            have hl1 : xs.length = 1 := by
              injection c6
              omega
            refine ⟨_, rfl, _, _, rfl, rfl, _, rfl, ite_b (fun c7 => absurd (of_decide_eq_true c7) (by omega)) (fun _ => ?_)⟩
            exact ⟨_, rfl, done (by rw [hF, if_neg (by rw [c4]; intro e; rcases e with e | e; cases e; exact e.2 (by omega))])⟩
        · have c5 := of_decide_eq_false c5
          refine ⟨_, rfl, _, _, rfl, rfl, _, rfl, ite_b (fun c7 => absurd (of_decide_eq_true c7) (by omega)) (fun _ => ?_)⟩
          exact ⟨_, rfl, done (by rw [hF, if_neg (by rw [c4]; intro e; rcases e with e | e; cases e; omega)])⟩
end
end Lw
namespace Lw
open PySem PySem.Spec PyProof.Rows L2 XV TL
def linesF : Nat → List (List Nat) → Option (Int × Str)
  | _, [] => none
  | k, l :: r => match lineF k l with
    | some y => some (((k + 1 : Nat) : Int), y)
    | none => linesF (k + 1) r
theorem linesF_all : ∀ {ls : List (List Nat)} {k : Nat}, (∀ (i : Nat) (l : List Nat), ls[i]? = some l → lineF (k + i) l = none) → linesF k ls = none
  | [], _, _ => rfl
  | a :: r, k, h => by
    unfold linesF
    rw [show lineF k a = none from h 0 a rfl]
    exact linesF_all fun i l hl => by
      have := h (i + 1) l hl
      rw [show k + 1 + i = k + (i + 1) from by omega]
      exact this
theorem tyL {K : PySem.W.Frag} {H : Hp} {p : Addr} {xs : List V} (h : H p = some (.lst xs)) : tyV K "list" (.ref p) H := .inl ⟨rfl, _, SqL.of h⟩
def livesF (ls : List (List Nat)) : Option (Int × Str) := match linesF 0 ls.dropLast with
  | some p => some p
  | none => closeF ls
theorem linesF_none : ∀ {ls : List (List Nat)} {k : Nat}, linesF k ls = none → ∀ (i : Nat) (l : List Nat), ls[i]? = some l → lineF (k + i) l = none
  | [], _, _, i, l, h => by cases h
  | a :: r, k, hn, i, l, h => by
    unfold linesF at hn
    cases e : lineF k a with
    | some y => rw [e] at hn; cases hn
    | none =>
      rw [e] at hn
      cases i with
      | zero => cases h; exact e
      | succ i =>
        have := linesF_none hn i l h
        rw [show k + (i + 1) = k + 1 + i from by omega]
        exact this
theorem linesF_at : ∀ {ls : List (List Nat)} {k i : Nat} {l : List Nat} {y : Str}, (∀ (j : Nat) (m : List Nat), j < i → ls[j]? = some m → lineF (k + j) m = none) → ls[i]? = some l → lineF (k + i) l = some y → linesF k ls = some (((k + i + 1 : Nat) : Int), y)
  | a :: r, k, 0, l, y, _, h, hy => by
    cases h
    unfold linesF
    rw [show lineF k a = some y from hy]
  | a :: r, k, i + 1, l, y, hb, h, hy => by
    unfold linesF
    rw [show lineF k a = none from hb 0 a (by omega) rfl]
    have := linesF_at (ls := r) (k := k + 1) (i := i) (l := l) (y := y) (fun j m hj hm => by
      have := hb (j + 1) m (by omega) hm
      rw [show k + 1 + j = k + (j + 1) from by omega]
      exact this) h (by rw [show k + 1 + i = k + (i + 1) from by omega]; exact hy)
    show linesF (k + 1) r = _
    rw [this, show k + 1 + i + 1 = k + (i + 1) + 1 from by omega]
theorem lineF_over {k : Nat} {l : List Nat} (h : 6 < k) : lineF k l = some ("form" : Str) := by
  rw [lineF, if_pos (Or.inr (by omega)), if_pos (Or.inr h)]
theorem lives_len {ls : List (List Nat)} (h : livesF ls = none) : ls.length = 8 ∧ linesF 0 ls.dropLast = none := by
  unfold livesF at h
  cases e : linesF 0 ls.dropLast with
  | some p => rw [e] at h; cases h
  | none =>
    rw [e] at h
    refine ⟨?_, rfl⟩
    have h1 : ¬ ls.length ≤ 7 := fun z => by
      unfold closeF at h
      by_cases c : ls.getLast? ≠ some []
      · rw [if_pos c] at h
        cases h
      · rw [if_neg c, if_pos z] at h
        cases h
    have h2 : ls.dropLast.length ≤ 7 := by
      by_cases z : ls.dropLast.length ≤ 7
      · exact z
      · obtain ⟨l, hl⟩ : ∃ l, ls.dropLast[7]? = some l := ⟨_, List.getElem?_eq_getElem (by omega)⟩
        have := linesF_none e 7 l hl
        rw [lineF_over (by omega)] at this
        cases this
    rw [List.length_dropLast] at h2
    omega
theorem cutVm (xs : List V) : cutV xs none (some (-1)) = xs.dropLast := by
  show ((xs.drop 0).take (HT.sIx xs.length xs.length (some (-1)) - 0)) = _
  rw [List.drop_zero, Nat.sub_zero]
  have : HT.sIx xs.length xs.length (some (-1)) = xs.length - 1 := by
    show (if (-1 : Int) < 0 then ((-1 : Int) + (xs.length : Int)).toNat else min (-1 : Int).toNat xs.length) = _
    rw [if_pos (by decide)]
    omega
  rw [this, List.dropLast_eq_take]
theorem line_one {k : Nat} {l : List Nat} (h4 : k = 4 ∨ k = 5) (h : lineF k l = none) : ∃ w, wtail l = [w] ∧ numOk w = true ∧ valD k l = [.int (valL w)] := by
  have hk : ¬ (k = 0 ∨ 6 ≤ k) := by omega
  have hk2 : ¬ k ≤ 2 := by omega
  rw [lineF, if_neg hk] at h
  by_cases c1 : whead l ≠ tl (wdN k)
  · rw [if_pos c1] at h
    cases h
  rw [if_neg c1, if_neg hk2] at h
  by_cases c2 : (wtail l).any (fun x => !numOk x) = true ∨ (4 ≤ k ∧ (wtail l).length ≠ 1)
  · rw [if_pos c2] at h
    cases h
  have c3 : (wtail l).length = 1 := by
    by_cases z : (wtail l).length = 1
    · exact z
    · exact absurd (Or.inr ⟨by omega, z⟩) c2
  obtain ⟨w, hw⟩ : ∃ w, wtail l = [w] := by
    match wtail l, c3 with
    | [w], _ => exact ⟨w, rfl⟩
  have c4 : numOk w = true := by
    cases e : numOk w with
    | true => rfl
    | false => exact absurd (Or.inl (by rw [hw, List.any_cons, e]; rfl)) c2
  refine ⟨w, hw, c4, ?_⟩
  rw [valD, if_neg hk, if_neg hk2, hw]
  show [numD w] = _
  rw [numD, if_pos c4]
theorem same_del {H H4 : Hp} {D : Addr} (s : Same H (delH H4 D)) : Same H H4 := fun a o h => by
  have := s a o h
  by_cases e : a = D
  · rw [e, delH_same] at this
    cases this
  · rw [delH_ne e] at this
    exact this
abbrev sLives : Stmt := topOf "read_lives"
abbrev Nlives : List Str := ["text", "pieces", "told", "place", "line"]
theorem scLives : FnScope Nlives ["text"] (defScope sLives) := ⟨rfl, rfl, rfl, by decide +kernel, rfl, by decide +kernel, by decide +kernel⟩
def nl (z : Str) : List (List Nat) := spl [10] 0 [] (tl z)
/-- the five things that a right text tells -/
structure Five (K : PySem.W.Frag) (M : Hp) (ls : List (List Nat)) (t : Addr) : Prop where
  ex : ∃ (p1 p2 p3 : Addr) (x1 x2 x3 : List V) (l1 l2 l3 l4 l5 w4 w5 : List Nat), M t = some (.tup [.ref p1, .ref p2, .ref p3, .int (valL w4), .int (valL w5)]) ∧
    ls[1]? = some l1 ∧ ls[2]? = some l2 ∧ ls[3]? = some l3 ∧ ls[4]? = some l4 ∧ ls[5]? = some l5 ∧ wtail l4 = [w4] ∧ wtail l5 = [w5] ∧ numOk w4 = true ∧ numOk w5 = true ∧
    M p1 = some (.lst x1) ∧ M p2 = some (.lst x2) ∧ M p3 = some (.lst x3) ∧ DpAll K M x1 ((wtail l1).map spanD) ∧ DpAll K M x2 ((wtail l2).map spanD) ∧ DpAll K M x3 ((wtail l3).map numD)
def spLives (K : PySem.W.Frag) (c : CA) : Sp := fun vs H Q E => ∃ v, vs = [v] ∧
  ((∃ z : Str, v = .str z ∧ z.length ≤ 60000 ∧ (∀ n y, livesF (nl z) = some (n, y) → BadE c H E n y) ∧ (livesF (nl z) = none → ∀ (t : Addr) (H' : Hp), Same H H' → Five K (dif H H') (nl z) t → Q (.ref t) H')) ∨ (NoStr K H v ∧ BadE c H E 0 "form"))
section
variable {P : Program} {w : World} {K : PySem.W.Frag} {mg : Str → Option Value} {base : Heap}
theorem ok_lives {f fP fC fL fS fN : Addr} {fd fdP fdC fdL fdS fdN : FuncData} {c : CA} (F : Fun K "read_lives" "read_lives" sLives f fd) (T : Bt mg) (C : Cs K mg) (D : Xs K mg c) (D_pieces : Df K mg "text_pieces" sPieces ["what", "text"] fP fdP) (D_close : Df K mg "close_text" sClose ["what", "pieces", "due"] fC fdC) (D_line : Df K mg "read_line" sLine ["place", "line"] fL fdL)
    (D_span : Df K mg "span_in" sSpan ["word"] fS fdS) (D_num : Df K mg "number_in" sNumIn ["word"] fN fdN) : FnOk P w K mg base (L2.CX P w) 4 f fd ["text"] (spLives K c) := by
  have G_pieces : FnOk P w K mg base (L2.CX P w) 3 fP fdP ["what", "text"] (spPieces K c) := ok_pieces D_pieces.fn T C D
  have G_close : FnOk P w K mg base (L2.CX P w) 3 fC fdC ["what", "pieces", "due"] (spClose c) := ok_close D_close.fn T D
  have G_line : FnOk P w K mg base (L2.CX P w) 3 fL fdL ["place", "line"] (spLine K c) := ok_line D_line.fn T C D D_span D_num
  refine F.okX scLives (fun vs H Q E h => ?_) (fun cdv A outer s H vs Q E hr h => ?_)
  · obtain ⟨v, rfl, _⟩ := h
    rfl
  · obtain ⟨v, rfl, k⟩ := h
    refine ⟨_, pss_cons (ps_set (i := 1) scLives.nd rfl (Or.inl rfl) (by exact (calS D_pieces G_pieces (hr.mono (by decide)) (fun σ => passAt (takes_of rfl rfl rfl rfl) σ) (by exact (pa_cons (pe_str) (pa_cons (pv 0) pa_nil))))))
 (pss_cons (ps_set (i := 2) scLives.nd rfl (Or.inl rfl) (pe_lst (pa_nil)))
 (pss_cons (ps_for (passes_of rfl) rfl (pi_enum rfl T.enumerate (pa_cons (pe_slice sl_list (pv 1) (po_none) (po_some (pe_un un_neg (pe_int)))) pa_nil)) (pg_tup rfl (pgs_cons (pg_name (i := 3) scLives.nd rfl (Or.inl rfl)) (pgs_cons (pg_name (i := 4) scLives.nd rfl (Or.inl rfl)) (pgs_nil))))
 (pss_one (ps_expr (pe_bm PySem.F.plainAttrs_list PySem.F.slot_list_append PySem.F.type_list_append mt_append (pv 2) (pa_cons (by exact (calS D_line G_line (hr.mono (by decide)) (fun σ => passAt (takes_of rfl rfl rfl rfl) σ) (by exact (pa_cons (pv 3) (pa_cons (pv 4) pa_nil))))) pa_nil)))))
 (pss_cons (ps_expr (by exact (calS D_close G_close (hr.mono (by decide)) (fun σ => passAt (takes_of rfl rfl rfl rfl) σ) (by exact (pa_cons (pe_str) (pa_cons (pv 1) (pa_cons (pe_int) pa_nil)))))))
 (pss_one (ps_ret (pe_tup (pa_cons (pe_ix ix_list (pv 2) (pe_int) (fun _ _ => rfl)) (pa_cons (pe_ix ix_list (pv 2) (pe_int) (fun _ _ => rfl)) (pa_cons (pe_ix ix_list (pv 2) (pe_int) (fun _ _ => rfl)) (pa_cons (pe_ix ix_list (pe_ix ix_list (pv 2) (pe_int) (fun _ _ => rfl)) (pe_int) (fun _ _ => rfl)) (pa_cons (pe_ix ix_list (pe_ix ix_list (pv 2) (pe_int) (fun _ _ => rfl)) (pe_int) (fun _ _ => rfl)) pa_nil))))))))))), ?_⟩
    refine ⟨_, rfl, v, rfl, ?_⟩
    rcases k with ⟨z, rfl, hz, kF, kN⟩ | ⟨ns, k⟩
    rotate_left
    · exact .inr ⟨ns, fun d H' h1 h2 h3 => k d H' h1 h2 h3⟩
    refine .inl ⟨z, rfl, hz, fun p H1 hp s1 e1 => ⟨Nat.zero_le _, fun tp htp => ?_⟩⟩
    have es := split_nl z
    have el := split_len es
    have s2 := Same.trans s1 (same_new (o := .lst []) htp)
    have e2 : upd H1 tp (.lst []) p = some (.lst ((Txt.split z "\n").map V.str)) := by rw [upd_ne (ne_of_none e1 htp)]; exact e1
    have t2 : upd H1 tp (.lst []) tp = some (.lst []) := upd_same
    have npt : p ≠ tp := ne_of_none e1 htp
    generalize upd H1 tp (.lst []) = H2 at s2 e2 t2 ⊢
    refine ⟨_, rfl, _, rfl, _, rfl, p, _, rfl, SqL.of e2, fun p3 hp3 => ?_⟩
    rw [cutVm]
    have hdl : ((Txt.split z "\n").map V.str).dropLast = (Txt.split z "\n").dropLast.map V.str := List.map_dropLast.symm
    rw [hdl]
    have e3 : upd H2 p3 (.lst ((Txt.split z "\n").dropLast.map V.str)) p3 = some (.lst ((Txt.split z "\n").dropLast.map V.str)) := upd_same
    have s3 := same_new (o := .lst ((Txt.split z "\n").dropLast.map V.str)) hp3
    generalize upd H2 p3 (.lst ((Txt.split z "\n").dropLast.map V.str)) = H3 at e3 s3 ⊢
    have ntp3 : tp ≠ p3 := ne_of_none t2 hp3
    have s13 := Same.trans s2 s3
    have tk : H tp = none := sN s1 htp
    refine ⟨p3, _, rfl, SqL.of e3, for_it (walk_enum (K := K) (a := p3) (xs := (Txt.split z "\n").dropLast.map V.str)) (fun i σ H4 => ∃ (x3 x4 : Option V) (xs : List V), σ = [some (.str z), some (.ref p), some (.ref tp), x3, x4] ∧ Same H (delH H4 tp) ∧ H4 p = some (.lst ((Txt.split z "\n").map V.str)) ∧ H4 p3 = some (.lst ((Txt.split z "\n").dropLast.map V.str)) ∧ H4 tp = some (.lst xs) ∧ xs.length = i ∧
      (∀ (j : Nat) (l : List Nat), j < i → (nl z).dropLast[j]? = some l → lineF j l = none) ∧ ∀ (j : Nat) (x : V), xs[j]? = some x → ∃ (l : List Nat) (q : Addr) (ys : List V), (nl z).dropLast[j]? = some l ∧ x = .ref q ∧ dif H (delH H4 tp) q = some (.lst ys) ∧ DpAll K (dif H (delH H4 tp)) ys (valD j l))
      ⟨none, none, [], rfl, ?_, ?_, e3, ?_, rfl, fun j l h => absurd h (Nat.not_lt_zero _), fun j x h => by cases h⟩ (fun i σ H4 _ h => ?_) ?_ ?_⟩
    · intro a o h
      have na : a ≠ tp := ne_of_none h tk
      rw [delH_ne na]
      exact s13 _ _ h
    · exact s3 _ _ e2
    · exact s3 _ _ t2
    · obtain ⟨_, _, _, _, _, _, e, _⟩ := h
      exact SqL.of e
    · rintro i y σ H4 H5 hi ⟨x3, x4, xs, rfl, sH, eP, e4, eT, lx, hno, hx⟩ ⟨T0, u, v0, rfl, hT, rfl, hu1, hv1⟩
      cases hu1
      obtain ⟨q, rfl, hq⟩ := str_at hv1
      have sH4 := same_del sH
      have s45 := same_new (o := .tup [.int i, .str q]) hT
      have t5 : upd H4 T0 (.tup [.int i, .str q]) tp = some (.lst xs) := s45 _ _ eT
      have hql : (nl z).dropLast[i]? = some (tl q) := by
        rw [nl, ← es, ← List.map_dropLast, List.getElem?_map, hq]
        rfl
      have hqz : q.length ≤ z.length := split_mem es ((List.dropLast_sublist _).subset (List.mem_of_getElem? hq))
      refine ⟨T0, _, rfl, SqT.of upd_same, rfl, _, _, rfl, _, _, rfl, rfl, ?_⟩
      refine ⟨_, rfl, tyL t5, _, rfl, _, rfl, i, q, rfl, by omega, ?_⟩
      cases hf : lineF i (tl q) with
      | some y =>
        have hl : livesF (nl z) = some (((i + 1 : Nat) : Int), y) := by
          have h := linesF_at (ls := (nl z).dropLast) (k := 0) (i := i) (l := tl q) (y := y) (fun j m hj hm => by rw [Nat.zero_add]; exact hno j m hj hm) hql (by rw [Nat.zero_add]; exact hf)
          rw [Nat.zero_add] at h
          rw [livesF, h]
        exact fun d H' h1 h2 h3 => kF _ _ hl d H' (sN sH4 (sN s45 h1)) (Same.trans sH4 (Same.trans s45 h2)) h3
      | none =>
        intro pL ys H6 s6 e6 o6
        have s46 := Same.trans s45 s6
        have hil : i < (Txt.split z "\n").length + 1 := by
          have := (List.getElem?_eq_some_iff.mp hq).1
          rw [List.length_dropLast] at this
          omega
        have gr : Same (dif H (delH H4 tp)) (dif H (delH (upd H6 tp (.lst (xs ++ [.ref pL]))) tp)) := grow s46
        have gn : Same (dif (upd H4 T0 (.tup [.int i, .str q])) H6) (dif H (delH (upd H6 tp (.lst (xs ++ [.ref pL]))) tp)) := grow_new (same_up (Same.trans sH4 s45)) t5
        refine ⟨tp, xs, _, rfl, rfl, s6 _ _ t5, by rw [sizeLine_eq]; omega, ?_⟩
        refine ⟨_, _, xs ++ [.ref pL], rfl, fun a o h => ?_, ?_, ?_, upd_same, by rw [List.length_append, lx]; rfl, fun j l hj hl => ?_, fun j x hj => ?_⟩
        · have na : a ≠ tp := ne_of_none h tk
          rw [delH_ne na, upd_ne na]
          exact s46 _ _ (sH4 _ _ h)
        · rw [upd_ne npt]
          exact s46 _ _ eP
        · rw [upd_ne ntp3.symm]
          exact s46 _ _ e4
        · by_cases c : j < i
          · exact hno j l c hl
          · have : j = i := by omega
            subst this
            cases hql.symm.trans hl
            exact hf
        · by_cases c : j < xs.length
          · rw [List.getElem?_append_left c] at hj
            obtain ⟨l, q', ys', a1, a2, a3, a4⟩ := hx j x hj
            exact ⟨l, q', ys', a1, a2, gr _ _ a3, Lw.DpAll.mono gr a4⟩
          · rw [List.getElem?_append_right (by omega)] at hj
            have hj0 : j - xs.length = 0 := by
              have := (List.getElem?_eq_some_iff.mp hj).1
              simp at this
              omega
            rw [hj0] at hj
            cases hj
            have : j = i := by omega
            subst this
            exact ⟨tl q, pL, ys, hql, rfl, gn _ _ e6, Lw.DpAll.mono gn o6⟩
    · rintro σ H4 ⟨x3, x4, xs, rfl, sH, eP, e4, eT, lx, hno, hx⟩
      have sH4 := same_del sH
      have hdn : (nl z).dropLast.length = ((Txt.split z "\n").dropLast.map V.str).length := by
        rw [nl, ← es, ← List.map_dropLast, List.length_map, List.length_map]
      have hn0 : linesF 0 (nl z).dropLast = none := linesF_all fun j l hl => by
        rw [Nat.zero_add]
        exact hno j l (by rw [← hdn]; exact (List.getElem?_eq_some_iff.mp hl).1) hl
      refine ⟨_, rfl, p, Txt.split z "\n", rfl, eP, ?_, ?_⟩
      · obtain ⟨h, t, e⟩ := spl_cons [10] (tl z)
        intro h0
        rw [h0] at es
        rw [e] at es
        cases es
      have hl : livesF (nl z) = closeF ((Txt.split z "\n").map tl) := by rw [livesF, hn0, nl, ← es]
      cases hc : closeF ((Txt.split z "\n").map tl) with
      | some ny =>
        obtain ⟨n, y⟩ := ny
        rw [hc] at hl
        exact fun d H' h1 h2 h3 => kF _ _ hl d H' (sN sH4 h1) (Same.trans sH4 h2) h3
      | none =>
        rw [hc] at hl
        intro H5 s5
        obtain ⟨l8, _⟩ := lives_len hl
        have l7 : (nl z).dropLast.length = 7 := by rw [List.length_dropLast, l8]
        have lx7 : xs.length = 7 := by rw [lx, ← hdn, l7]
        have s05 : Same (dif H (delH H4 tp)) (dif H H5) := fun a o h => by
          obtain ⟨h1, h2⟩ := of_dif h
          by_cases e : a = tp
          · rw [e, delH_same] at h2
            cases h2
          · rw [delH_ne e] at h2
            exact dif_of h1 (s5 _ _ h2)
        have t5 := s5 _ _ eT
        have get : ∀ j, j < 7 → ∃ (l : List Nat) (q : Addr) (ys : List V), (nl z)[j]? = some l ∧ lineF j l = none ∧ xs[j]? = some (.ref q) ∧ dif H H5 q = some (.lst ys) ∧ DpAll K (dif H H5) ys (valD j l) := fun j hj => by
          obtain ⟨x, hjx⟩ : ∃ x, xs[j]? = some x := ⟨_, List.getElem?_eq_getElem (by omega)⟩
          obtain ⟨l, q, ys, a1, rfl, a3, a4⟩ := hx j x hjx
          refine ⟨l, q, ys, ?_, hno j l (by rw [← hdn, l7]; exact hj) a1, hjx, s05 _ _ a3, Lw.DpAll.mono s05 a4⟩
          rw [List.getElem?_dropLast] at a1
          split at a1
          · exact a1
          · cases a1
        obtain ⟨l1, q1, y1, b1, f1, c1, d1, e1'⟩ := get 1 (by decide)
        obtain ⟨l2, q2, y2, b2, f2, c2, d2, e2'⟩ := get 2 (by decide)
        obtain ⟨l3, q3, y3, b3, f3, c3, d3, e3'⟩ := get 3 (by decide)
        obtain ⟨l4, q4, y4, b4, f4, c4, d4, e4'⟩ := get 4 (by decide)
        obtain ⟨l5, q5, y5, b5, f5, c5, d5, e5'⟩ := get 5 (by decide)
        obtain ⟨w4, g4, n4, v4⟩ := line_one (Or.inl rfl) f4
        obtain ⟨w5, g5, n5, v5⟩ := line_one (Or.inr rfl) f5
        rw [v4] at e4'
        rw [v5] at e5'
        have hy4 : y4 = [.int (valL w4)] := by
          cases e4' with
          | cons h hs =>
            cases hs
            cases h
            rfl
        have hy5 : y5 = [.int (valL w5)] := by
          cases e5' with
          | cons h hs =>
            cases hs
            cases h
            rfl
        subst hy4 hy5
        refine ⟨_, rfl, tp, xs, 1, .ref q1, rfl, rfl, SqL.of t5, (atI_nat (j := 1) c1 : atI _ ((1 : Nat) : Int) = _), ?_⟩
        refine ⟨_, rfl, tp, xs, 2, .ref q2, rfl, rfl, SqL.of t5, (atI_nat (j := 2) c2 : atI _ ((2 : Nat) : Int) = _), ?_⟩
        refine ⟨_, rfl, tp, xs, 3, .ref q3, rfl, rfl, SqL.of t5, (atI_nat (j := 3) c3 : atI _ ((3 : Nat) : Int) = _), ?_⟩
        refine ⟨_, rfl, tp, xs, 4, .ref q4, rfl, rfl, SqL.of t5, (atI_nat (j := 4) c4 : atI _ ((4 : Nat) : Int) = _), q4, _, 0, _, rfl, rfl, SqL.of (dif_in _ _ d4), rfl, ?_⟩
        refine ⟨_, rfl, tp, xs, 5, .ref q5, rfl, rfl, SqL.of t5, (atI_nat (j := 5) c5 : atI _ ((5 : Nat) : Int) = _), q5, _, 0, _, rfl, rfl, SqL.of (dif_in _ _ d5), rfl, (by show 5 ≤ sizeLine; decide), fun t ht => ?_⟩
        have sf := Same.trans sH4 s5
        have s6 := same_new (o := .tup [.ref q1, .ref q2, .ref q3, .int (valL w4), .int (valL w5)]) ht
        have sd := dif_sub (H0 := H) s6
        refine kN hl t _ (Same.trans sf s6) ⟨q1, q2, q3, y1, y2, y3, l1, l2, l3, l4, l5, w4, w5, dif_of (sN sf ht) upd_same, b1, b2, b3, b4, b5, g4, g5, n4, n5, sd _ _ d1, sd _ _ d2, sd _ _ d3, ?_, ?_, ?_⟩
        · have := Lw.DpAll.mono sd e1'
          rw [valD, if_neg (by omega), if_pos (by omega)] at this
          exact this
        · have := Lw.DpAll.mono sd e2'
          rw [valD, if_neg (by omega), if_pos (by omega)] at this
          exact this
        · have := Lw.DpAll.mono sd e3'
          rw [valD, if_neg (by omega), if_neg (by omega)] at this
          exact this
end
end Lw
namespace Lw
open PySem PySem.Spec PyProof.Rows L2 XV TL
theorem span_some {y : Str} {a b : Int} (h : spanV (tl y) = some (a, b)) : ∃ u v : Str, Txt.split y ".." = [u, v] ∧ numOk (tl u) = true ∧ numOk (tl v) = true ∧ a = valL (tl u) ∧ b = valL (tl v) := by
  have es := split_dots y
  unfold spanV at h
  rw [← es] at h
  match hx : Txt.split y ".." with
  | [u, v] =>
    rw [hx] at h
    have h : (if (numOk (tl u) && numOk (tl v)) = true then some (valL (tl u), valL (tl v)) else none) = some (a, b) := h
    by_cases c : (numOk (tl u) && numOk (tl v)) = true
    · rw [if_pos c] at h
      obtain ⟨c1, c2⟩ := Bool.and_eq_true_iff.mp c
      cases h
      exact ⟨u, v, rfl, c1, c2, rfl, rfl⟩
    · rw [if_neg c] at h
      cases h
  | [] => rw [hx] at h; cases h
  | [u] => rw [hx] at h; cases h
  | u :: v :: w :: r => rw [hx] at h; cases h
theorem span_ok {y u v : Str} (h : Txt.split y ".." = [u, v]) : (spanV (tl y)).isNone = !(numOk (tl u) && numOk (tl v)) := by
  have es := split_dots y
  unfold spanV
  rw [← es, h]
  show (if (numOk (tl u) && numOk (tl v)) = true then some (valL (tl u), valL (tl v)) else none).isNone = _
  cases numOk (tl u) && numOk (tl v) with
  | true => rfl
  | false => rfl
theorem span_two {y : Str} (h : (Txt.split y "..").length ≠ 2) : (spanV (tl y)).isNone = true := by
  have es := split_dots y
  unfold spanV
  rw [← es]
  match hx : Txt.split y ".." with
  | [u, v] => rw [hx] at h; exact absurd rfl h
  | [] => rfl
  | [u] => rfl
  | u :: v :: w :: r => rfl
abbrev sLLine : Stmt := topOf "_law_line"
abbrev NLline : List Str := ["line", "k", "row", "x", "pairs", "two"]
theorem scLLine : FnScope NLline ["line", "k"] (defScope sLLine) := ⟨rfl, rfl, rfl, by decide +kernel, rfl, by decide +kernel, by decide +kernel⟩
def whyV : Option Str → V
  | some y => .str y
  | none => .non
def spLLine : Sp := fun vs H Q _ => ∃ (k : Nat) (z : Str), vs = [.str z, .int k] ∧ z.length ≤ 70000 ∧ ∀ H', Same H H' → Q (whyV (lineF k (tl z))) H'
section
variable {P : Program} {w : World} {K : PySem.W.Frag} {mg : Str → Option Value} {base : Heap}
theorem ok_lline {f fN : Addr} {fd fdN : FuncData} (F : Fun K "_law_line" "_law_line" sLLine f fd) (T : Bt mg) (D_num : Df K mg "_law_is_number" sIsNum ["word"] fN fdN) : FnOk P w K mg base CX0 2 f fd ["line", "k"] spLLine := by
  have G_num : FnOk P w K mg base CX0 1 fN fdN ["word"] spIsNum := ok_isNum D_num.fn T
  refine F.ok scLLine (fun vs H Q E h => ?_) (fun cdv A outer s H vs Q E hr h => ?_)
  · obtain ⟨k, z, rfl, _⟩ := h
    rfl
  · obtain ⟨k, z, rfl, hz, k0⟩ := h
    refine ⟨_, pss_cons (ps_if (PW.pt (pw_or (pt_cmpR op_in_seq (pv 1) (pe_lst (pa_cons (pe_int) (pa_cons (pe_int) pa_nil))) (by rfl)) (pw_or1 (pt_cmpR op_gt (pv 1) (pe_int) (nomark _)))))
 (pss_one (ps_ret (pe_ifExp (PW.pt (pw_or (PW.pt (pw_and (pt_cmpR op_eq (pv 0) (pe_str) (nomark _)) (pw_and1 (pt_cmpR op_eq (pv 1) (pe_int) (nomark _))))) (pw_or1 (PW.pt (pw_and (pt_cmpR op_eq (pv 0) (pe_str) (nomark _)) (pw_and1 (pt_cmpR op_eq (pv 1) (pe_int) (nomark _)))))))) (pe_non) (pe_str))))
 (pss_nil))
 (pss_cons (ps_set (i := 2) scLLine.nd rfl (Or.inl rfl) (pe_split (pv 0) (pe_str)))
 (pss_cons (ps_if (pt_cmpR op_ne (pe_ix ix_list (pv 2) (pe_int) (fun _ _ => rfl)) (pe_ix ix_list (pe_lst (pa_cons (pe_str) (pa_cons (pe_str) (pa_cons (pe_str) (pa_cons (pe_str) (pa_cons (pe_str) pa_nil)))))) (pe_op op_sub (pv 1) (pe_int)) (fun _ _ => rfl)) (nomark _))
 (pss_one (ps_ret (pe_str)))
 (pss_nil))
 (pss_cons (ps_if (pt_cmpR op_gt (pv 1) (pe_int) (nomark _))
 (pss_cons (ps_if (PW.pt (pw_or (pt_not (pt_val (pe_callB (cr_all rfl) (by rfl) T.all (by decide +kernel) (pa_cons (pe_lc (own := [("x", 3)]) (g := gName 3) (tt := tYes) rfl scLLine.nd (pi_list (pe_slice sl_list (pv 2) (po_some (pe_int)) (po_none))) (blkOk_by (N := NLline) (sc := defScope sLLine) (by decide +kernel)) (fun _ _ _ _ _ => pg_name (i := 3) scLLine.nd rfl (Or.inl rfl)) (fun _ _ _ _ _ => pts_nil) (fun _ _ _ _ _ => cal D_num G_num (hr.mono (by decide)) (pa_cons (pv 3) pa_nil))) pa_nil)))) (pw_or1 (PW.pt (pw_and (pt_cmpR op_gt (pv 1) (pe_int) (nomark _)) (pw_and1 (pt_cmpR op_ne (pe_callB call_len (by rfl) T.len (by decide +kernel) (pa_cons (pv 2) pa_nil)) (pe_int) (nomark _))))))))
 (pss_one (ps_ret (pe_str)))
 (pss_nil))
 (pss_one (ps_ret (pe_non))))
 (pss_nil))
 (pss_mid (ps_setLc (i := 4) (own := [("x", 3)]) (g := gName 3) (tt := tYes) rfl scLLine.nd rfl rfl (sw_true rfl rfl rfl (by decide +kernel)) (pi_list (pe_slice sl_list (pv 2) (po_some (pe_int)) (po_none))) (blkOk_by (N := NLline) (sc := defScope sLLine) (by decide +kernel)) (fun _ _ _ _ _ => pg_name (i := 3) scLLine.nd rfl (Or.inl rfl)) (fun _ _ _ _ _ => pts_nil) (fun _ _ _ _ _ => pe_split (pv 3) (pe_str)))
 (pss_cons (ps_for PassesOwn.never rfl (pi_list (pv 4)) (pg_name (i := 5) scLLine.nd rfl (Or.inl rfl))
 (pss_one (ps_if (PW.pt (pw_or (pt_cmpR op_ne (pe_callB call_len (by rfl) T.len (by decide +kernel) (pa_cons (pv 5) pa_nil)) (pe_int) (nomark _)) (pw_or (pt_not (pt_val (cal D_num G_num (hr.mono (by decide)) (pa_cons (pe_ix ix_list (pv 5) (pe_int) (fun _ _ => rfl)) pa_nil)))) (pw_or1 (pt_not (pt_val (cal D_num G_num (hr.mono (by decide)) (pa_cons (pe_ix ix_list (pv 5) (pe_int) (fun _ _ => rfl)) pa_nil))))))))
 (pss_one (ps_ret (pe_str)))
 (pss_nil))))
 (pss_cons (ps_if (pt_val (pe_callB (cr_any rfl) (by rfl) T.any (by decide +kernel) (pa_cons (pe_lc (own := [("two", 5)]) (g := gName 5) (tt := tYes) (te := tOp (rI0 fun i j => .bl (decide (i ≥ j))) (tCB (fun xs H Q => ∃ a n, xs = [.str a] ∧ PySem.intText? a = some n ∧ a.length ≤ 640 ∧ Q (.int n) H) (tCons (tOp (rIxL K) (tVar 5) (tC (.int 0))) tNil)) (tCB (fun xs H Q => ∃ a n, xs = [.str a] ∧ PySem.intText? a = some n ∧ a.length ≤ 640 ∧ Q (.int n) H) (tCons (tOp (rIxL K) (tVar 5) (tC (.int 1))) tNil))) rfl scLLine.nd (pi_list (pv 4)) (blkOk_by (N := NLline) (sc := defScope sLLine) (by decide +kernel)) (fun _ _ _ _ _ => pg_name (i := 5) scLLine.nd rfl (Or.inl rfl)) (fun _ _ _ _ _ => pts_nil) (fun _ _ _ _ _ => pe_cmpR op_ge (pe_callTy call_int_str (by rfl) T.int (by decide +kernel) (pa_cons (pe_ix ix_list (pv 5) (pe_int) (fun _ _ => rfl)) pa_nil)) (pe_callTy call_int_str (by rfl) T.int (by decide +kernel) (pa_cons (pe_ix ix_list (pv 5) (pe_int) (fun _ _ => rfl)) pa_nil)) (nomark _))) pa_nil)))
 (pss_one (ps_ret (pe_str)))
 (pss_nil))
 (pss_one (ps_ret (pe_non))))))))), ?_⟩
    have fin : ∀ {H' : Hp} {o : Option Str}, lineF k (tl z) = o → Same H H' → Q (whyV o) H' := fun h s => by
      rw [← h]
      exact k0 _ s
    have inl : ∀ i : Int, inV (V.int k) [V.int 0, V.int i] = (decide (k = 0) || decide ((k : Int) = i)) := fun i => by
      show (eqV (V.int 0) (V.int k) || (eqV (V.int i) (V.int k) || false)) = _
      rw [Bool.or_false]
      congr 1
      · rw [Bool.eq_iff_iff, decide_eq_true_eq]
        show ((0 : Int) == (k : Int)) = true ↔ _
        rw [beq_iff_eq]
        omega
      · rw [Bool.eq_iff_iff, decide_eq_true_eq]
        show (i == (k : Int)) = true ↔ _
        rw [beq_iff_eq]
        exact ⟨fun h => h.symm, fun h => h.symm⟩
    have first : (k = 0 ∨ 6 ≤ k) → ∀ H1, Same H H1 → tRet (tIf (tOr (tAnd (tTest (tOp rEq (tVar 0) (tC (.str "lives")))) (tTest (tOp rEq (tVar 1) (tC (.int 0))))) (tAnd (tTest (tOp rEq (tVar 0) (tC (.str "done")))) (tTest (tOp rEq (tVar 1) (tC (.int 6)))))) (tC .non) (tC (.str "form"))) { nx := fun _ H' => Q .non H', rt := Q } (L2.start NLline [.str z, .int k]) H1 := fun hk H1 s1 => by
      have hF : lineF k (tl z) = if tl z ≠ tl (if k = 0 then "lives" else "done") ∨ 6 < k then some ("form" : Str) else none := by rw [lineF, if_pos hk]
      have e0 : decide (V.int (k : Nat) = V.int 0) = decide (k = 0) := decide_eq_decide.mpr ⟨fun h => by injection h; omega, fun h => by rw [h]; rfl⟩
      have e6 : decide (V.int (k : Nat) = V.int 6) = decide (k = 6) := decide_eq_decide.mpr ⟨fun h => by injection h; omega, fun h => by rw [h]; rfl⟩
      have last : (k ≠ 0 ∨ tl z ≠ tl "lives") → tAnd (tTest (tOp rEq (tVar 0) (tC (.str "done")))) (tTest (tOp rEq (tVar 1) (tC (.int 6)))) (L2.start NLline [.str z, .int k]) H1 fun c H2 => if c = true then tC .non (L2.start NLline [.str z, .int k]) H2 Q else tC (.str "form") (L2.start NLline [.str z, .int k]) H2 Q := fun hn => by
        refine ⟨_, rfl, rfl, _, rfl, ?_⟩
        rw [eqS]
        refine ite_b (fun c1 => ?_) (fun c1 => ?_)
        · refine ⟨_, rfl, rfl, _, rfl, ?_⟩
          rw [e6]
          have c1 := of_decide_eq_true c1
          refine ite_b (fun c2 => ?_) (fun c2 => ?_)
          · have c2 := of_decide_eq_true c2
            exact fin (o := none) (by rw [hF, if_neg (by rw [if_neg (by omega)]; intro e; rcases e with e | e; exact e c1; omega)]) s1
          · have c2 := of_decide_eq_false c2
            refine fin (o := some "form") ?_ s1
            rw [hF]
            by_cases k00 : k = 0
            · rw [if_pos (by rw [if_pos k00]; exact .inl ((hn.resolve_left fun e => e k00)))]
            · rw [if_pos (.inr (by omega))]
        · have c1 := of_decide_eq_false c1
          refine fin (o := some "form") ?_ s1
          rw [hF]
          by_cases k00 : k = 0
          · rw [if_pos (by rw [if_pos k00]; exact .inl ((hn.resolve_left fun e => e k00)))]
          · rw [if_pos (by rw [if_neg k00]; exact .inl c1)]
      refine ⟨_, rfl, rfl, _, rfl, ?_⟩
      rw [eqS]
      refine ite_b (fun c1 => ?_) (fun c1 => ?_)
      · have c1 := of_decide_eq_true c1
        refine ⟨_, rfl, rfl, _, rfl, ?_⟩
        rw [e0]
        cases c2 : decide (k = 0) with
        | true =>
          have c2 := of_decide_eq_true c2
          refine iteT ?_
          exact fin (o := none) (by rw [hF, if_neg (by rw [if_pos c2]; intro e; rcases e with e | e; exact e c1; omega)]) s1
        | false =>
          refine iteF ?_
          exact last (.inl (of_decide_eq_false c2))
      · exact last (.inr (of_decide_eq_false c1))
    refine ⟨_, rfl, (by show 2 ≤ sizeLine; decide), fun p0 hp0 => ?_⟩
    have s0 := same_new (o := .lst [.int 0, .int 6]) hp0
    refine ⟨p0, _, rfl, .inl (SqL.of upd_same), rfl, rfl, _, rfl, ?_⟩
    show (if (inV (V.int k) [V.int 0, V.int 6]) = true then _ else _)
    rw [inl 6]
    by_cases hk : k = 0 ∨ 6 ≤ k
    · refine ite_b (fun _ => iteT (first hk _ s0)) (fun _ => ?_)
      refine ⟨_, rfl, _, _, rfl, rfl, _, rfl, ite_b (fun _ => first hk _ s0) (fun c => ?_)⟩
      rename_i c0
      have c := of_decide_eq_false c
      have c1 := Bool.or_eq_false_iff.mp c0
      have c2 := of_decide_eq_false c1.1
      have c3 := of_decide_eq_false c1.2
      omega
    refine ite_b (fun c => ?_) (fun _ => ?_)
    · rcases Bool.or_eq_true_iff.mp c with c | c
      · exact absurd (.inl (of_decide_eq_true c)) hk
      · exact absurd (.inr (by have := of_decide_eq_true c; omega)) hk
    refine ⟨_, rfl, _, _, rfl, rfl, _, rfl, ite_b (fun c => absurd (of_decide_eq_true c) (by omega)) (fun _ => ?_)⟩
    have hk6 : k < 6 := by omega
    have hk0 : ¬ k = 0 := by omega
    have es := split_sp z
    have el := split_len es
    refine ⟨_, rfl, ⟨_, rfl⟩, z, " ", rfl, rfl, by decide +kernel, by rw [sizeLine_eq]; omega, fun ws hws => ?_⟩
    have s1 := Same.trans s0 (same_new (o := .lst ((Txt.split z " ").map V.str)) hws)
    obtain ⟨y0, yr, hy⟩ : ∃ y0 yr, Txt.split z " " = y0 :: yr := by
      obtain ⟨h, t, e⟩ := spl_cons [32] (tl z)
      cases e3 : Txt.split z " " with
      | nil => rw [e3] at es; rw [e] at es; cases es
      | cons y0 yr => exact ⟨y0, yr, rfl⟩
    have hw0 : whead (tl z) = tl y0 := by rw [whead, ← es, hy]; rfl
    have hwt : yr.map tl = wtail (tl z) := by rw [wtail, ← es, hy]; rfl
    have hlt : ∀ y ∈ yr, y.length ≤ z.length := fun y hy' => split_mem es (by rw [hy]; exact List.mem_cons_of_mem _ hy')
    have hyl : yr.length ≤ z.length + 1 := by
      rw [hy, List.length_cons] at el
      omega
    rw [hy]
    have e1 : upd (upd H p0 (.lst [.int 0, .int 6])) ws (.lst ((y0 :: yr).map V.str)) ws = some (.lst (.str y0 :: yr.map V.str)) := upd_same
    rw [hy] at s1
    generalize upd (upd H p0 (.lst [.int 0, .int 6])) ws (.lst ((y0 :: yr).map V.str)) = H1 at s1 e1 ⊢
    have hF : lineF k (tl z) = if whead (tl z) ≠ tl (wdN k) then some ("form" : Str) else if k ≤ 2 then (if (wtail (tl z)).any (fun x => (spanV x).isNone) = true then some ("form" : Str) else if (wtail (tl z)).any badP = true then some ("pair" : Str) else none)
        else if (wtail (tl z)).any (fun x => !numOk x) = true ∨ (4 ≤ k ∧ (wtail (tl z)).length ≠ 1) then some ("form" : Str) else none := by
      rw [lineF, if_neg hk]
    refine ⟨_, rfl, ws, _, 0, .str y0, rfl, rfl, SqL.of e1, (atI_nat (j := 0) rfl : atI _ ((0 : Nat) : Int) = _), (by show 5 ≤ sizeLine; decide), fun pw hpw => ?_⟩
    have s2 := same_new (o := .lst wdL) hpw
    have e2 := s2 _ _ e1
    refine ⟨_, rfl, _, _, rfl, rfl, pw, wdL, (k : Int) - 1, .str (wdN k), rfl, rfl, SqL.of upd_same, at_wd hk0 hk6, rfl, _, rfl, ?_⟩
    have s02 := Same.trans s1 s2
    generalize upd H1 pw (.lst wdL) = H2 at s2 e2 s02 ⊢
    rw [eqS, ← hw0]
    refine ite_b (fun c3 => ?_) (fun c3 => ?_)
    · have h : whead (tl z) ≠ tl (wdN k) := of_decide_eq_false (by simpa using c3)
      exact fin (o := some "form") (by rw [hF, if_pos h]) s02
    have h3 : whead (tl z) = tl (wdN k) := of_decide_eq_true (by simpa using c3)
    rw [if_neg (by intro e; exact e h3)] at hF
    have hcv : cutV (.str y0 :: yr.map V.str) (some 1) none = yr.map V.str := by rw [cutV1]; rfl
    refine ⟨_, rfl, _, _, rfl, rfl, _, rfl, ite_b (fun c4 => ?_) (fun c4 => ?_)⟩
    · have hk2 : ¬ k ≤ 2 := by
        have := of_decide_eq_true c4
        omega
      rw [if_neg hk2] at hF
      refine ⟨_, rfl, _, rfl, ws, _, rfl, SqL.of e2, fun p2 hp2 => ?_⟩
      rw [hcv]
      have e3 : upd H2 p2 (.lst (yr.map V.str)) p2 = some (.lst (yr.map V.str)) := upd_same
      have s3 := Same.trans s02 (same_new (o := .lst (yr.map V.str)) hp2)
      have e23 : upd H2 p2 (.lst (yr.map V.str)) ws = some (.lst (.str y0 :: yr.map V.str)) := same_new hp2 _ _ e2
      generalize upd H2 p2 (.lst (yr.map V.str)) = H3 at e3 s3 e23 ⊢
      refine ⟨p2, rfl, ⟨_, SqL.of e3⟩, fun Da hDa => lc_list (K := K) (a := p2) (xs := yr.map V.str) (fun i H4 => Same H3 H4 ∧ H4 Da = some (.lst (((yr.take i).map fun y => numOk (tl y)).map V.bl))) ⟨same_new hDa, upd_same⟩ (fun i H4 _ h => SqL.of (h.1 _ _ e3)) ?_ ?_⟩
      · rintro i x H4 hi ⟨s4, e4⟩
        obtain ⟨q, rfl, hq⟩ := str_at hi
        refine ⟨rfl, _, rfl, q, rfl, by have := hlt q (List.mem_of_getElem? hq); omega, fun H5 s5 => ⟨_, s5 _ _ e4, ?_, fun a o h => ?_, ?_⟩⟩
        · rw [List.length_map, List.length_map, sizeLine_eq]
          have := List.length_take_le' i yr
          omega
        · rw [upd_ne (ne_of_none h hDa)]
          exact s5 _ _ (s4 _ _ h)
        · rw [upd_same, List.take_add_one, hq, List.map_append, List.map_append]
          rfl
      · rintro H4 ⟨s4, e4⟩
        refine ⟨Da, _, rfl, SqL.of e4, _, rfl, ?_⟩
        have s04 := Same.trans s3 s4
        have ea : (((yr.take (yr.map V.str).length).map fun y => numOk (tl y)).all id) = !((wtail (tl z)).any fun x => !numOk x) := by
          rw [List.length_map, List.take_length, List.all_map, ← hwt, List.any_map, List.not_any_eq_all_not]
          congr 1
          funext y
          show numOk (tl y) = !!numOk (tl y)
          rw [Bool.not_not]
        rw [ea]
        cases c5 : (wtail (tl z)).any (fun x => !numOk x) with
        | true =>
          refine iteT ?_
          refine iteT ?_
          exact fin (o := some "form") (by rw [hF, if_pos (Or.inl c5)]) s04
        | false =>
          refine iteF ?_
          have e14 := s4 _ _ e23
          have hlen : (wtail (tl z)).length = yr.length := by rw [← hwt, List.length_map]
          refine ⟨_, rfl, _, _, rfl, rfl, _, rfl, ite_b (fun c6 => ?_) (fun c6 => ?_)⟩
          · have c6 := of_decide_eq_true c6
            refine ⟨_, rfl, _, (V.str y0 :: yr.map V.str).length, rfl, .inl ⟨_, SqL.of e14, rfl⟩, rfl, _, rfl, ?_⟩
            have hl2 : ((V.str y0 :: yr.map V.str).length : Nat) = yr.length + 1 := by rw [List.length_cons, List.length_map]
            rw [hl2]
            refine ite_b (fun c7 => ?_) (fun c7 => ?_)
            · have c7 : ¬ (V.int (yr.length + 1 : Nat) = V.int 2) := of_decide_eq_false (by simpa using c7)
              exact fin (o := some "form") (by rw [hF, if_pos (Or.inr ⟨by omega, fun e => c7 (by rw [← hlen, e]; rfl)⟩)]) s04
            · have c7 : V.int (yr.length + 1 : Nat) = V.int 2 := of_decide_eq_true (by simpa using c7)
              have : yr.length = 1 := by
                injection c7
                omega
              exact fin (o := none) (by rw [hF, if_neg (by rw [c5]; intro e; rcases e with e | e; cases e; exact e.2 (by omega))]) s04
          · have c6 := of_decide_eq_false c6
            exact fin (o := none) (by rw [hF, if_neg (by rw [c5]; intro e; rcases e with e | e; cases e; omega)]) s04
    · have hk2 : k ≤ 2 := by
        have := of_decide_eq_false c4
        omega
      rw [if_pos hk2] at hF
      refine ⟨fun σ' H' => ∃ (pl : Addr) (xs : List V), σ' = [some (.str z), some (.int k), some (.ref ws), none, some (.ref pl), none] ∧ Same H2 H' ∧ H' pl = some (.lst xs) ∧ xs.length = yr.length ∧ ∀ (j : Nat) (x : V), xs[j]? = some x → ∃ (q : Addr) (y : Str), yr[j]? = some y ∧ x = .ref q ∧ H' q = some (.lst ((Txt.split y "..").map V.str)), ?_, ?_⟩
      · refine ⟨_, rfl, _, rfl, ws, _, rfl, SqL.of e2, fun p2 hp2 => ?_⟩
        rw [hcv]
        have e3 : upd H2 p2 (.lst (yr.map V.str)) p2 = some (.lst (yr.map V.str)) := upd_same
        have s3 := same_new (o := .lst (yr.map V.str)) hp2
        generalize upd H2 p2 (.lst (yr.map V.str)) = H3 at e3 s3 ⊢
        refine ⟨p2, rfl, ⟨_, SqL.of e3⟩, fun Da hDa => lc_list (K := K) (a := p2) (xs := yr.map V.str) (fun i H4 => Same H3 H4 ∧ ∃ xs, H4 Da = some (.lst xs) ∧ xs.length = i ∧ ∀ (j : Nat) (x : V), xs[j]? = some x → ∃ (q : Addr) (y : Str), yr[j]? = some y ∧ x = .ref q ∧ q ≠ Da ∧ H4 q = some (.lst ((Txt.split y "..").map V.str))) ⟨same_new hDa, [], upd_same, rfl, fun j x h => by cases h⟩ (fun i H4 _ h => SqL.of (h.1 _ _ e3)) ?_ ?_⟩
        · rintro i x H4 hi ⟨s4, xs, e4, l4, o4⟩
          obtain ⟨q, rfl, hq⟩ := str_at hi
          have hql := hlt q (List.mem_of_getElem? hq)
          have eq2 := split_dots q
          have hil := (List.getElem?_eq_some_iff.mp hq).1
          refine ⟨rfl, _, rfl, ⟨_, rfl⟩, q, "..", rfl, rfl, by decide +kernel, by rw [sizeLine_eq]; omega, fun r hr => ?_⟩
          have s45 := same_new (o := .lst ((Txt.split q "..").map V.str)) hr
          refine ⟨xs, s45 _ _ e4, by rw [sizeLine_eq]; omega, fun a o h => ?_, xs ++ [.ref r], upd_same, by rw [List.length_append, l4]; rfl, fun j x hj => ?_⟩
          · rw [upd_ne (ne_of_none h hDa)]
            exact s45 _ _ (s4 _ _ h)
          · by_cases c : j < xs.length
            · rw [List.getElem?_append_left c] at hj
              obtain ⟨q', y', a1, a2, a3, a4⟩ := o4 j x hj
              exact ⟨q', y', a1, a2, a3, by rw [upd_ne a3]; exact s45 _ _ a4⟩
            · rw [List.getElem?_append_right (by omega)] at hj
              have hj0 : j - xs.length = 0 := by
                have := (List.getElem?_eq_some_iff.mp hj).1
                simp at this
                omega
              rw [hj0] at hj
              cases hj
              have : j = i := by omega
              subst this
              have nr : r ≠ Da := fun e => by rw [e, e4] at hr; cases hr
              exact ⟨r, q, hq, rfl, nr, by rw [upd_ne nr]; exact upd_same⟩
        · rintro H4 ⟨s4, xs, e4, l4, o4⟩
          rw [List.length_map] at l4
          exact ⟨Da, xs, rfl, Same.trans s3 s4, e4, l4, fun j x hj => by
            obtain ⟨q', y', a1, a2, _, a4⟩ := o4 j x hj
            exact ⟨q', y', a1, a2, a4⟩⟩
      rintro σ1 H3 ⟨pl, xs, rfl, s3, ep, lx, hx⟩
      have s03 := Same.trans s02 s3
      refine ⟨_, rfl, pl, rfl, ⟨_, SqL.of ep⟩, for_list (K := K) (a := pl) (xs := xs) (fun i σ H4 => ∃ x5, σ = [some (.str z), some (.int k), some (.ref ws), none, some (.ref pl), x5] ∧ Same H3 H4 ∧ ∀ (j : Nat) (y : Str), j < i → yr[j]? = some y → (spanV (tl y)).isNone = false) ⟨none, rfl, Same.refl _, fun j y h => absurd h (Nat.not_lt_zero _)⟩ (fun i σ H4 _ h => ?_) ?_ ?_⟩
      · obtain ⟨_, _, s, _⟩ := h
        exact SqL.of (s _ _ ep)
      · rintro i x σ H4 hi ⟨x5, rfl, s4, o4⟩
        obtain ⟨q, y, hy', rfl, eq0⟩ := hx i x hi
        have eq4 := s4 _ _ eq0
        have hyz := hlt y (List.mem_of_getElem? hy')
        have bad : ∀ {H' : Hp}, (spanV (tl y)).isNone = true → Same H H' → Q (.str "form") H' := fun hn s => by
          refine fin (o := some "form") ?_ s
          rw [hF, if_pos]
          rw [← hwt, List.any_map, List.any_eq_true]
          exact ⟨y, List.mem_of_getElem? hy', hn⟩
        refine ⟨_, rfl, _, ((Txt.split y "..").map V.str).length, rfl, .inl ⟨_, SqL.of eq4, rfl⟩, rfl, _, rfl, ?_⟩
        rw [List.length_map]
        refine ite_b (fun c5 => iteT ?_) (fun c5 => ?_)
        · have c5 : ¬ (V.int (Txt.split y "..").length = V.int 2) := of_decide_eq_false (by simpa using c5)
          exact bad (span_two fun e => c5 (by rw [e]; rfl)) (Same.trans s03 s4)
        have c5 : V.int (Txt.split y "..").length = V.int 2 := of_decide_eq_true (by simpa using c5)
        have l2 : (Txt.split y "..").length = 2 := by
          injection c5
          omega
        obtain ⟨u, v, huv⟩ : ∃ u v, Txt.split y ".." = [u, v] := by
          match Txt.split y "..", l2 with
          | [u, v], _ => exact ⟨u, v, rfl⟩
        have esd := split_dots y
        have lu : u.length ≤ y.length := split_mem esd (by rw [huv]; simp)
        have lv : v.length ≤ y.length := split_mem esd (by rw [huv]; simp)
        have hso := span_ok huv
        rw [huv] at eq4
        refine ⟨_, rfl, q, _, 0, .str u, rfl, rfl, SqL.of eq4, rfl, u, rfl, by omega, fun H5 s5 => ⟨_, rfl, ?_⟩⟩
        cases hu : numOk (tl u) with
        | false =>
          refine iteT ?_
          refine iteT ?_
          exact bad (by rw [hso, hu]; rfl) (Same.trans s03 (Same.trans s4 s5))
        | true =>
          refine iteF ?_
          refine ⟨_, rfl, q, _, 1, .str v, rfl, rfl, SqL.of (s5 _ _ eq4), rfl, v, rfl, by omega, fun H6 s6 => ⟨_, rfl, ?_⟩⟩
          cases hv : numOk (tl v) with
          | false =>
            refine iteT ?_
            exact bad (by rw [hso, hu, hv]; rfl) (Same.trans s03 (Same.trans s4 (Same.trans s5 s6)))
          | true =>
            refine iteF ?_
            refine ⟨_, rfl, Same.trans s4 (Same.trans s5 s6), fun j y' hj hjy => ?_⟩
            by_cases c : j < i
            · exact o4 j y' c hjy
            · have : j = i := by omega
              subst this
              cases hy'.symm.trans hjy
              rw [hso, hu, hv]
              rfl
      · rintro σ H4 ⟨x5, rfl, s4, o4⟩
        have s04 := Same.trans s03 s4
        have ep4 := s4 _ _ ep
        have hN : ((wtail (tl z)).any fun x => (spanV x).isNone) = false := by
          rw [← hwt, List.any_map, List.any_eq_false]
          intro y hy'
          obtain ⟨j, hj⟩ := List.mem_iff_getElem?.mp hy'
          have := o4 j y (by rw [lx]; exact (List.getElem?_eq_some_iff.mp hj).1) hj
          show ¬ ((spanV (tl y)).isNone = true)
          rw [this]
          exact Bool.false_ne_true
        rw [hN, if_neg Bool.false_ne_true] at hF
        refine ⟨_, rfl, pl, rfl, ⟨_, SqL.of ep4⟩, fun Da hDa => lc_list (K := K) (a := pl) (xs := xs) (fun i H5 => Same H4 H5 ∧ H5 Da = some (.lst (((yr.take i).map fun y => badP (tl y)).map V.bl))) ⟨same_new hDa, upd_same⟩ (fun i H5 _ h => SqL.of (h.1 _ _ ep4)) ?_ ?_⟩
        · rintro i x H5 hi ⟨s5, e5⟩
          obtain ⟨q, y, hy', rfl, eq0⟩ := hx i x hi
          have hsn := o4 i y (by exact (List.getElem?_eq_some_iff.mp hi).1) hy'
          obtain ⟨⟨a, b⟩, hab⟩ : ∃ ab, spanV (tl y) = some ab := by
            cases e : spanV (tl y) with
            | none => rw [e] at hsn; cases hsn
            | some ab => exact ⟨ab, rfl⟩
          obtain ⟨u, v, huv, nu, nv', rfl, rfl⟩ := span_some hab
          rw [huv] at eq0
          have eq5 := s5 _ _ (s4 _ _ eq0)
          obtain ⟨i1, i2⟩ := num_int nu
          obtain ⟨j1, j2⟩ := num_int nv'
          refine ⟨rfl, _, rfl, q, _, 0, .str u, rfl, rfl, SqL.of eq5, rfl, u, _, rfl, i1, i2, _, rfl, q, _, 1, .str v, rfl, rfl, SqL.of eq5, rfl, v, _, rfl, j1, j2, _, _, rfl, rfl, _, e5, ?_, fun a o h => ?_, ?_⟩
          · rw [List.length_map, List.length_map, sizeLine_eq]
            have := List.length_take_le' i yr
            omega
          · rw [upd_ne (ne_of_none h hDa)]
            exact s5 _ _ h
          · have hb : badP (tl y) = decide (valL (tl u) ≥ valL (tl v)) := by
              rw [badP, hab]
            rw [upd_same, List.take_add_one, hy', List.map_append, List.map_append]
            show _ = some (HO.lst (_ ++ [V.bl (badP (tl y))]))
            rw [hb]
        · rintro H5 ⟨s5, e5⟩
          refine ⟨Da, _, rfl, SqL.of e5, _, rfl, ?_⟩
          have ea2 : (((yr.take xs.length).map fun y => badP (tl y)).any id) = (wtail (tl z)).any badP := by
            rw [lx, List.take_length, List.any_map, ← hwt, List.any_map]
            rfl
          rw [ea2]
          have s05 := Same.trans s04 s5
          refine ite_b (fun c6 => ?_) (fun c6 => ?_)
          · exact fin (o := some "pair") (by rw [hF, if_pos c6]) s05
          · exact fin (o := none) (by rw [hF, if_neg (by rw [c6]; exact Bool.false_ne_true)]) s05
end
end Lw
namespace Lw
open PySem PySem.Spec PyProof.Rows L2 XV TL
abbrev sFault : Stmt := topOf "_law_fault"
abbrev Nfault : List Str := ["words", "lines", "k", "why"]
theorem scFault : FnScope Nfault ["words"] (defScope sFault) := ⟨rfl, rfl, rfl, by decide +kernel, rfl, by decide +kernel, by decide +kernel⟩
def FaultIs (H : Hp) (v : V) : Option (Int × Str) → Prop
  | none => v = .non
  | some (n, y) => ∃ t, v = .ref t ∧ H t = some (.tup [.int n, .str y])
def spFault : Sp := fun vs H Q _ => ∃ z : Str, vs = [.str z] ∧ z.length ≤ 60000 ∧ ∀ (v : V) (H' : Hp), Same H H' → FaultIs (dif H H') v (livesF (nl z)) → Q v H'
theorem why_none (o : Option Str) : decide (whyV o = .non) = o.isNone := by
  cases o with
  | none => rfl
  | some y => rfl
section
variable {P : Program} {w : World} {K : PySem.W.Frag} {mg : Str → Option Value} {base : Heap}
theorem ok_fault {f fL fN : Addr} {fd fdL fdN : FuncData} (F : Fun K "_law_fault" "_law_fault" sFault f fd) (T : Bt mg) (D_line : Df K mg "_law_line" sLLine ["line", "k"] fL fdL) (D_num : Df K mg "_law_is_number" sIsNum ["word"] fN fdN) : FnOk P w K mg base CX0 3 f fd ["words"] spFault := by
  have G_line : FnOk P w K mg base CX0 2 fL fdL ["line", "k"] spLLine := ok_lline D_line.fn T D_num
  refine F.ok scFault (fun vs H Q E h => ?_) (fun cdv A outer s H vs Q E hr h => ?_)
  · obtain ⟨z, rfl, _⟩ := h
    rfl
  · obtain ⟨z, rfl, hz, k⟩ := h
    refine ⟨_, pss_cons (ps_set (i := 1) scFault.nd rfl (Or.inl rfl) (pe_split (pv 0) (pe_str)))
 (pss_cons (ps_for PassesOwn.never rfl (pi_range1 rfl T.range (pa_cons (pe_op op_sub (pe_callB call_len (by rfl) T.len (by decide +kernel) (pa_cons (pv 1) pa_nil)) (pe_int)) pa_nil)) (pg_name (i := 2) scFault.nd rfl (Or.inl rfl))
 (pss_cons (ps_set (i := 3) scFault.nd rfl (Or.inl rfl) (cal D_line G_line (hr.mono (by decide)) (pa_cons (pe_ix ix_list (pv 1) (pv 2) (fun _ _ => rfl)) (pa_cons (pv 2) pa_nil))))
 (pss_one (ps_if (pt_cmpR op_notN (pv 3) (pe_non) (nomark _))
 (pss_one (ps_ret (pe_tup (pa_cons (pe_op op_add (pv 2) (pe_int)) (pa_cons (pv 3) pa_nil)))))
 (pss_nil)))))
 (pss_cons (ps_if (pt_cmpR op_ne (pe_ix ix_list (pv 1) (pe_un un_neg (pe_int)) (fun _ _ => rfl)) (pe_str) (nomark _))
 (pss_one (ps_ret (pe_tup (pa_cons (pe_callB call_len (by rfl) T.len (by decide +kernel) (pa_cons (pv 1) pa_nil)) (pa_cons (pe_str) pa_nil)))))
 (pss_nil))
 (pss_cons (ps_if (pt_cmpR op_lt (pe_callB call_len (by rfl) T.len (by decide +kernel) (pa_cons (pv 1) pa_nil)) (pe_int) (nomark _))
 (pss_one (ps_ret (pe_tup (pa_cons (pe_callB call_len (by rfl) T.len (by decide +kernel) (pa_cons (pv 1) pa_nil)) (pa_cons (pe_str) pa_nil)))))
 (pss_nil))
 (pss_one (ps_ret (pe_non)))))), ?_⟩
    have es := split_nl z
    have el := split_len es
    have hne : Txt.split z "\n" ≠ [] := by
      obtain ⟨h, t, e⟩ := spl_cons [10] (tl z)
      intro h0
      rw [h0] at es
      rw [e] at es
      cases es
    have hin : ∀ y ∈ Txt.split z "\n", y.length ≤ z.length := fun y hy => split_mem es hy
    refine ⟨_, rfl, ⟨_, rfl⟩, z, "\n", rfl, rfl, by decide +kernel, by rw [sizeLine_eq]; omega, fun p hp => ?_⟩
    have s1 := same_new (o := .lst ((Txt.split z "\n").map V.str)) hp
    have e1 : upd H p (.lst ((Txt.split z "\n").map V.str)) p = some (.lst ((Txt.split z "\n").map V.str)) := upd_same
    generalize upd H p (.lst ((Txt.split z "\n").map V.str)) = H1 at s1 e1 ⊢
    obtain ⟨zs, zl, hzl⟩ : ∃ zs zl, Txt.split z "\n" = zs ++ [zl] := ⟨_, _, (List.dropLast_concat_getLast hne).symm⟩
    have hnl : nl z = zs.map tl ++ [tl zl] := by
      rw [nl, ← es, hzl, List.map_append]
      rfl
    have hdl : (nl z).dropLast = zs.map tl := by rw [hnl, List.dropLast_concat]
    rw [hzl] at e1 el hin
    have hlen : ((zs ++ [zl]).map V.str).length = zs.length + 1 := by rw [List.length_map, List.length_append]; rfl
    have hzc : zs.length ≤ z.length := by
      rw [List.length_append] at el
      have : [zl].length = 1 := rfl
      omega
    have tell : ∀ {n : Int} {y : Str} {H' : Hp}, livesF (nl z) = some (n, y) → Same H H' → ∀ t, H' t = none → Q (.ref t) (upd H' t (.tup [.int n, .str y])) := fun {n y H'} hf s t ht => by
      refine k _ _ (Same.trans s (same_new ht)) ?_
      rw [hf]
      exact ⟨t, rfl, dif_of (sN s ht) upd_same⟩
    refine ⟨_, rfl, _, _, rfl, .inl ⟨_, SqL.of e1, rfl⟩, _, _, rfl, rfl, _, rfl, ?_⟩
    have hto : ((((zs ++ [zl]).map V.str).length : Nat) : Int) - 1 = ((zs.length : Nat) : Int) := by
      rw [hlen]
      omega
    rw [hto]
    refine ⟨by omega, by omega, for_range (n := zs.length) (fun i σ H2 => ∃ x2 x3 : Option V, σ = [some (.str z), some (.ref p), x2, x3] ∧ Same H1 H2 ∧ ∀ (j : Nat) (l : List Nat), j < i → (zs.map tl)[j]? = some l → lineF j l = none) ⟨none, none, rfl, Same.refl _, fun j l h => absurd h (Nat.not_lt_zero _)⟩ ?_ ?_⟩
    · rintro i σ H2 hi ⟨x2, x3, rfl, s2, o2⟩
      obtain ⟨y, hy⟩ : ∃ y, zs[i]? = some y := ⟨_, List.getElem?_eq_getElem hi⟩
      have hyz : ((zs ++ [zl]).map V.str)[i]? = some (.str y) := by
        rw [List.getElem?_map, List.getElem?_append_left hi, hy]
        rfl
      have hyt : (zs.map tl)[i]? = some (tl y) := by rw [List.getElem?_map, hy]; rfl
      have hyl := hin y (List.mem_append_left _ (List.mem_of_getElem? hy))
      refine ⟨_, rfl, _, rfl, p, _, _, .str y, rfl, rfl, SqL.of (s2 _ _ e1), (by rw [Int.zero_add]; exact atI_nat hyz), _, rfl, i, y, ?_, by omega, fun H3 s3 => ?_⟩
      · rw [Int.zero_add]
        rfl
      have s13 := Same.trans s1 (Same.trans s2 s3)
      refine ⟨_, rfl, rfl, _, rfl, ?_⟩
      rw [why_none]
      cases hf : lineF i (tl y) with
      | some w0 =>
        refine iteT ?_
        have hl : livesF (nl z) = some (((i + 1 : Nat) : Int), w0) := by
          have h := linesF_at (ls := zs.map tl) (k := 0) (i := i) (l := tl y) (y := w0) (fun j m hj hm => by rw [Nat.zero_add]; exact o2 j m hj hm) hyt (by rw [Nat.zero_add]; exact hf)
          rw [Nat.zero_add] at h
          rw [livesF, hdl, h]
        refine ⟨_, rfl, _, _, rfl, rfl, _, rfl, (by show 2 ≤ sizeLine; decide), fun t ht => ?_⟩
        have := tell hl s13 t ht
        rw [Int.zero_add]
        exact this
      | none =>
        refine iteF ?_
        refine ⟨_, _, rfl, Same.trans s2 s3, fun j l hj hl => ?_⟩
        by_cases c : j < i
        · exact o2 j l c hl
        · have : j = i := by omega
          subst this
          cases hyt.symm.trans hl
          exact hf
    · rintro σ H2 ⟨x2, x3, rfl, s2, o2⟩
      have e2 := s2 _ _ e1
      have s12 := Same.trans s1 s2
      have hn0 : linesF 0 (zs.map tl) = none := linesF_all fun j l hl => by
        rw [Nat.zero_add]
        exact o2 j l (by have := (List.getElem?_eq_some_iff.mp hl).1; rw [List.length_map] at this; exact this) hl
      have hl : livesF (nl z) = closeF (nl z) := by rw [livesF, hdl, hn0]
      have hgl : (nl z).getLast? = some (tl zl) := by rw [hnl, List.getLast?_concat]
      have hll : (nl z).length = zs.length + 1 := by rw [hnl, List.length_append, List.length_map]; rfl
      have hz0 : (tl zl = []) ↔ zl.length = 0 := by rw [len_tl, List.length_eq_zero_iff]
      have hat : atI ((zs ++ [zl]).map V.str) (-1) = some (.str zl) := by
        rw [List.map_append]
        exact atI_last _ _
      refine ⟨_, rfl, _, rfl, p, _, _, _, rfl, rfl, SqL.of e2, hat, rfl, _, rfl, ?_⟩
      rw [eq_empty]
      refine ite_b (fun c1 => ?_) (fun c1 => ?_)
      · have c1 : ¬ zl.length = 0 := of_decide_eq_false (by simpa using c1)
        have hf : livesF (nl z) = some (((zs.length + 1 : Nat) : Int), ("form" : Str)) := by rw [hl, closeF, if_pos (by rw [hgl]; intro e; exact c1 (hz0.mp (Option.some.inj e))), hll]
        refine ⟨_, rfl, _, _, rfl, .inl ⟨_, SqL.of e2, rfl⟩, (by show 2 ≤ sizeLine; decide), fun t ht => ?_⟩
        rw [hlen]
        exact tell hf s12 t ht
      · have c1 : zl.length = 0 := of_decide_eq_true (by simpa using c1)
        refine ⟨_, rfl, _, _, rfl, .inl ⟨_, SqL.of e2, rfl⟩, _, _, rfl, rfl, _, rfl, ?_⟩
        rw [hlen]
        refine ite_b (fun c2 => ?_) (fun c2 => ?_)
        · have c2 := of_decide_eq_true c2
          have hf : livesF (nl z) = some (((zs.length + 1 : Nat) : Int), ("missing" : Str)) := by rw [hl, closeF, if_neg (by rw [hgl, hz0.mpr c1]; simp), if_pos (by rw [hll]; omega), hll]
          refine ⟨_, rfl, _, _, rfl, .inl ⟨_, SqL.of e2, rfl⟩, (by show 2 ≤ sizeLine; decide), fun t ht => ?_⟩
          rw [hlen]
          exact tell hf s12 t ht
        · have c2 := of_decide_eq_false c2
          have hf : livesF (nl z) = none := by rw [hl, closeF, if_neg (by rw [hgl, hz0.mpr c1]; simp), if_neg (by rw [hll]; omega)]
          exact k _ _ s12 (by rw [hf]; rfl)
end
end Lw
namespace XM
open PySem PySem.Spec PyProof.Rows L2
section
variable {X : Cx} {CX : CXT} {k : Nat} {f C p0 : Addr} {fd : FuncData} {ps ks : List Str} {sp : Sp} {x m : Str} {p pos apos : Pos} {e o : Expr} {es : List Expr} {kws : List Keyword} {to : TE} {t tk : TA} {E : L2.St → XK}
/-- C(..), whose __init__ may raise -/
theorem run_mkS {pins : List (Addr × Obj)} {σ : L2.St} {H : Hp} {s : Shared} {Q : VK} {us : List Value} {vs : List V} {E : XK} (M : Mk X.K C f) (F : FnOk X.prog X.w X.K X.mg X.base CX k f fd ps sp) (hr : Room (k + 1) X.A) (hb : Binds X.K fd ps [])
    (hx : PassesAt CX X σ E) (I : Inv X pins σ H s) (r : Vals vs us)
    (h : ∀ x dx, H x = none → H dx = none → dx ≠ x → sp (.ref x :: vs) (upd (upd H dx (.own x)) x (.ins C dx [])) (fun v H2 => v = .non ∧ Q (.ref x) H2) E) : wpAny (model X.prog X.w) X.A (call (.ref C) us) (EP X pins σ Q) X.xe s := by
  have hq := h (s.heap.objs.size + 1) s.heap.objs.size (I.hok.fresh (Nat.le_succ _)) (I.hok.fresh (Nat.le_refl _)) (Nat.ne_of_lt (Nat.lt_succ_self _))
  have I2 := Inv.made (C := C) I
  have r2 : Vals (V.ref (s.heap.objs.size + 1) :: vs) (Value.ref (s.heap.objs.size + 1) :: us) := .cons rfl r
  have hl : (Value.ref (s.heap.objs.size + 1) :: us).length = ps.length := by
    rw [← r2.length]
    exact F.len _ _ _ _ hq
  have b := hb _ (Value.ref (s.heap.objs.size + 1) :: us) I2.kIn (by rw [List.append_nil]; exact hl)
  rw [List.append_nil] at b
  refine wpAny_call (make_map (f := f) I.kIn M.makes M.init (beq_iff_eq.mp M.fn) (codeAny_mono (F.run _ X.stack _ _ ⟨Value.ref (s.heap.objs.size + 1) :: us, []⟩ (Value.ref (s.heap.objs.size + 1) :: us) _ _ E (hr.make C us []) (I2.env0.make C us []) b r2 hq) fun r s' hq' => ?_))
  cases r with
  | error er => exact hx pins _ _ er s' I2 hq'
  | ok fl =>
    cases fl with
    | ret u =>
      obtain ⟨v, H', I3, rv, ev, q3⟩ := I2.after hq'
      subst ev
      exact ⟨rv, ⟨V.ref (s.heap.objs.size + 1), H', I3, rfl, q3⟩⟩
    | next => exact hq'.elim
    | brk => exact hq'.elim
    | cont => exact hq'.elim
def tMkS (C : Addr) (sp : Sp) (E : L2.St → XK) (t : TA) : TE := fun σ H Q => t σ H fun vs H1 => ∀ x dx, H1 x = none → H1 dx = none → dx ≠ x → sp (.ref x :: vs) (upd (upd H1 dx (.own x)) x (.ins C dx [])) (fun v H2 => v = .non ∧ Q (.ref x) H2) (E σ)
theorem pe_mkS (M : Mk X.K C f) (F : FnOk X.prog X.w X.K X.mg X.base CX k f fd ps sp) (hr : Room (k + 1) X.A) (hb : Binds X.K fd ps []) (hx : ∀ σ, PassesAt CX X σ (E σ)) (hm : X.mg x = some (.ref C)) (ha : PA X (e :: es) t) (hg : Gl X x := by rfl)
    (hdb : (x == ("__debug__" : Str)) = false := by decide) (he : starEach (e :: es) X.env = (false, eval e X.env) :: starEach es X.env := by rfl) (hpl : (backTo pos (starEach es X.env)).any (·.1) = false := by rfl) :
    PE X (.Call (.Name x p) (e :: es) [] pos) (tMkS C sp E t) := by
  refine ⟨fun pins s σ H Q I h => wpAny_Call_Name_kw (ld_glob I hg hm ?_ hdb)⟩
  refine PySem.W.callWith_K (h₀ := X.base) I.ok.mod.kin M.kp (thn (ha.run pos pins s σ H _ I h) fun us s1 hv => ?_) he hpl
  obtain ⟨vs, H1, I1, r, q⟩ := hv
  exact ⟨I1.kIn, run_mkS M F hr hb (hx σ) I1 r q⟩
/-- a static method of C -/
structure Stat (K : PySem.W.Frag) (C : Addr) (m : Str) (f : Addr) : Prop where
  ga : PySem.W.specialIn K (.ref C) "__getattribute__" = some (some (.builtin "type.__getattribute__"))
  rd : PySem.W.readsIn K C (.type "type") = true
  ex : ∃ (q : Addr) (rest : List Value), PySem.W.findCls K (.ref C) (.type "type") m = some (.get (.builtin "staticmethod.__get__") (.ref q) .none (.ref C)) ∧ PySem.W.recIn K q "staticmethod" = some (.ref f :: rest)
  kp : PySem.W.keepIn K (.ref f) = true
theorem getstat {A : Around} {E : Value → Shared → Prop} {s : Shared} {K : PySem.W.Frag} {prog : Program} {w : World} {pl : Sem Bool} {Q : Value × List Value → Shared → Prop} (S : Stat K C m f) (X : K.In s.heap) (h : Q (.ref f, []) { s with toks := s.toks + 1 }) : wpAny (model prog w) A (getMethod (.ref C) m pl) Q E s := by
  obtain ⟨q, rest, e, hp⟩ := S.ex
  refine PySem.W.method_cls X S.ga ?_
  exact PySem.W.cls_bind X S.rd e (wpAny_call (PySem.W.sm_get (s := { s with toks := s.toks + 1 }) X hp (PySem.W.handed_on rfl h)))
def tStat (C : Addr) (sp : Sp) (E : L2.St → XK) (to : TE) (t : TA) : TE := fun σ H Q => to σ H fun x H1 => x = .ref C ∧ t σ H1 fun vs H2 => sp vs H2 Q (E σ)
theorem pe_stat {pl : Sem Bool} (S : Stat X.K C m f) (F : FnOk X.prog X.w X.K X.mg X.base CX k f fd ps sp) (hr : Room k X.A) (hb : Binds X.K fd ps []) (hx : ∀ σ, PassesAt CX X σ (E σ)) (ho : PE X o to) (ha : PA X (e :: es) t)
    (he : starEach (e :: es) X.env = (false, eval e X.env) :: starEach es X.env := by rfl) (hpl : (backTo pos (starEach es X.env)).any (·.1) = false := by rfl)
    (ht : eval (.Call (.Attribute o m apos) (e :: es) [] pos) X.env = (do
      let ov ← eval o X.env
      standAt apos.atName
      let (f, first) ← holding [ov] (getMethod ov m pl)
      callWith pos f first (backTo pos (starEach (e :: es) X.env)) (backToKw pos (keywordEach [] X.env))) := by rfl) :
    PE X (.Call (.Attribute o m apos) (e :: es) [] pos) (tStat C sp E to t) := by
  refine ⟨fun pins s σ H Q I h => PySem.W.methodCall_KW (pl := pl) (thn (ho.run pins s σ H _ I h) fun u s1 hv => ?_) ht⟩
  obtain ⟨y, H1, I1, r1, rfl, q⟩ := hv
  cases r1
  refine getstat S I1.kIn ?_
  have I2 := I1.tok (s1.toks + 1)
  refine PySem.W.callWith_K (first := []) (h₀ := X.base) I2.ok.mod.kin S.kp (thn (ha.run pos pins _ σ H1 _ I2 q) fun us s3 hv => ?_) he hpl
  obtain ⟨vs, H2, I3, r, q3⟩ := hv
  exact ⟨I3.kIn, run_fnS F hr hb (hx σ) I3 r q3⟩
end
end XM
namespace Lw
open PySem PySem.Spec PyProof.Rows L2 XV TL XM
/-! a sorted list is told by what is in it -/
theorem sorted_one {α : Type} {le : α → α → Prop} (anti : ∀ a b, le a b → le b a → a = b) : ∀ {l m : List α}, l.Perm m → l.Pairwise le → m.Pairwise le → l = m
  | [], m, p, _, _ => (List.perm_nil.mp p.symm).symm
  | a :: l, [], p, _, _ => by
    have := p.length_eq
    cases this
  | a :: l, b :: m, p, h1, h2 => by
    have hab : a = b := by
      rcases List.mem_cons.mp (p.subset (List.mem_cons_self ..)) with h | h
      · exact h
      · rcases List.mem_cons.mp (p.symm.subset (List.mem_cons_self ..)) with h' | h'
        · exact h'.symm
        · exact anti a b (List.rel_of_pairwise_cons h1 h') (List.rel_of_pairwise_cons h2 h)
    subst hab
    rw [sorted_one anti (List.Perm.cons_inv p) h1.of_cons h2.of_cons]
abbrev Pr := Int × Int
def leP (a b : Pr) : Prop := ¬ (b.1 < a.1 ∨ (b.1 = a.1 ∧ b.2 < a.2))
theorem leP_anti (a b : Pr) (h1 : leP a b) (h2 : leP b a) : a = b := by
  obtain ⟨a1, a2⟩ := a
  obtain ⟨b1, b2⟩ := b
  simp only [leP] at h1 h2
  have e1 : a1 = b1 := by omega
  have e2 : a2 = b2 := by omega
  rw [e1, e2]
structure SortP (l m : List Pr) : Prop where
  perm : m.Perm l
  sorted : m.Pairwise leP
structure SortI (l m : List Int) : Prop where
  perm : m.Perm l
  sorted : m.Pairwise (· ≤ ·)
theorem SortP.one {l l' m m' : List Pr} (h : SortP l m) (h' : SortP l' m') (p : l.Perm l') : m = m' := sorted_one leP_anti ((h.perm.trans p).trans h'.perm.symm) h.sorted h'.sorted
theorem SortI.one {l l' m m' : List Int} (h : SortI l m) (h' : SortI l' m') (p : l.Perm l') : m = m' := sorted_one (fun a b h1 h2 => Int.le_antisymm h1 h2) ((h.perm.trans p).trans h'.perm.symm) h.sorted h'.sorted
/-- pairs, told as tuples -/
def PairVs (K : PySem.W.Frag) (M : Hp) (xs : List V) (ps : List Pr) : Prop := xs.length = ps.length ∧ ∀ (i : Nat) (x : V), xs[i]? = some x → ∃ (t : Addr) (p : Pr), ps[i]? = some p ∧ x = .ref t ∧ SqT K M t [.int p.1, .int p.2]
theorem sqT_mono {K : PySem.W.Frag} {M M' : Hp} (s : Same M M') {a : Addr} {xs : List V} (h : SqT K M a xs) : SqT K M' a xs := by
  rcases h with (h | ⟨o, h⟩) | h
  · exact .inl (.inl (s _ _ h))
  · exact .inl (.inr ⟨o, s _ _ h⟩)
  · exact .inr h
theorem PairVs.mono {K : PySem.W.Frag} {M M' : Hp} (s : Same M M') {xs : List V} {ps : List Pr} (h : PairVs K M xs ps) : PairVs K M' xs ps := ⟨h.1, fun i x hx => by
  obtain ⟨t, p, a, b, c⟩ := h.2 i x hx
  exact ⟨t, p, a, b, sqT_mono s c⟩⟩
/-- a list or a tuple of pairs -/
def PairsAt (K : PySem.W.Frag) (M : Hp) (a : Addr) (ps : List Pr) : Prop := ∃ xs, (SqL K M a xs ∨ SqT K M a xs) ∧ PairVs K M xs ps
theorem PairsAt.mono {K : PySem.W.Frag} {M M' : Hp} (s : Same M M') {a : Addr} {ps : List Pr} (h : PairsAt K M a ps) : PairsAt K M' a ps := by
  obtain ⟨xs, h1, h2⟩ := h
  exact ⟨xs, h1.elim (fun h => .inl (s.seq h)) (fun h => .inr (sqT_mono s h)), h2.mono s⟩
section
variable {X : Cx}
/-- over a list or over a tuple -/
def iEither (K : PySem.W.Frag) (te : TE) : TI := fun σ H R => iList K te σ H R ∨ iTup K te σ H R
theorem pi_either {tg l : Expr} {te : TE} (h : PE X l te) : PI X tg l (iEither X.K te) := ⟨fun pins s σ H R I q => q.elim ((pi_list h).run pins s σ H R I) ((pi_tup h).run pins s σ H R I)⟩
end
/-- a BadValue comes out -/
def BadVE (c : CA) (H : Hp) (E : XK) (y : Str) : Prop := ∀ (d : Addr) (H' : Hp), H d = none → Same H H' → H' d = some (.xd (flds ["what"] "BadValue" [.str y])) → E (.ref c.V) (some d) H'
theorem badV_do {c : CA} {H H1 H2 : Hp} {E : XK} {y : Str} {a d t0 : Addr} (k : BadVE c H E y) (s : Same H H1) (m : MadeF c.V (flds ["what"] "BadValue" [.str y]) H1 H2 a d t0) : E (.ref c.V) (some d) (delH H2 a) := by
  refine k d _ (sN s m.nd) (fun b o h => ?_) (by rw [delH_ne m.da]; exact m.pd)
  have h1 := s _ _ h
  rw [delH_ne (ne_of_none h1 m.na)]
  exact m.sm _ _ h1
def wrongP (p : Pr) : Bool := decide (p.2 ≤ p.1)
abbrev sCheck : Stmt := topOf "check_pairs"
abbrev Ncheck : List Str := ["what", "pairs", "low", "high"]
theorem scCheck : FnScope Ncheck ["what", "pairs"] (defScope sCheck) := ⟨rfl, rfl, rfl, by decide +kernel, rfl, by decide +kernel, by decide +kernel⟩
def spCheck (K : PySem.W.Frag) (c : CA) : Sp := fun vs H Q E => ∃ (y : Str) (a : Addr) (ps : List Pr), vs = [.str y, .ref a] ∧ PairsAt K H a ps ∧ (ps.any wrongP = true → BadVE c H E y) ∧ (ps.any wrongP = false → ∀ H', Same H H' → Q .non H')
section
variable {P : Program} {w : World} {K : PySem.W.Frag} {mg : Str → Option Value} {base : Heap}
theorem ok_check {f : Addr} {fd : FuncData} {c : CA} (F : Fun K "check_pairs" "check_pairs" sCheck f fd) (T : Bt mg) (D : Xs K mg c) : FnOk P w K mg base (L2.CX P w) 3 f fd ["what", "pairs"] (spCheck K c) := by
  refine F.okX scCheck (fun vs H Q E h => ?_) (fun cdv A outer s H vs Q E hr h => ?_)
  · obtain ⟨y, a, ps, rfl, _⟩ := h
    rfl
  · obtain ⟨y, a, ps, rfl, ⟨xs, ha, hx⟩, kB, kN⟩ := h
    refine ⟨_, pss_one (ps_for (passes_of rfl) rfl (pi_either (pv 1)) (pg_tup rfl (pgs_cons (pg_name (i := 2) scCheck.nd rfl (Or.inl rfl)) (pgs_cons (pg_name (i := 3) scCheck.nd rfl (Or.inl rfl)) (pgs_nil))))
 (pss_one (ps_if (pt_cmpR op_ge (pv 2) (pv 3) (nomark _))
 (pss_one (ps_badV rfl rfl D (hr.mono (by decide)) (takes_of rfl rfl rfl rfl) (by exact (pa_cons (pv 0) pa_nil))))
 (pss_nil)))), ?_⟩
    rcases ha with ha | ha
    · refine .inl ⟨_, rfl, a, rfl, ⟨_, ha⟩, for_list (K := K) (a := a) (xs := xs) (fun i σ H2 => ∃ x2 x3 : Option V, σ = [some (.str y), some (.ref a), x2, x3] ∧ Same H H2 ∧ ∀ (j : Nat) (p : Pr), j < i → ps[j]? = some p → wrongP p = false) ⟨none, none, rfl, Same.refl _, fun j l h => absurd h (Nat.not_lt_zero _)⟩ (fun i σ H2 _ h => ?_) ?_ ?_⟩
      · obtain ⟨_, _, _, s, _⟩ := h
        exact s.seq ha
      · rintro i x σ H2 hi ⟨x2, x3, rfl, s2, o2⟩
        obtain ⟨t, p, hp, rfl, ht⟩ := hx.2 i x hi
        refine ⟨t, _, rfl, sqT_mono s2 ht, rfl, _, _, rfl, _, _, rfl, rfl, ?_⟩
        refine ⟨_, rfl, _, rfl, _, _, rfl, rfl, _, rfl, ite_b (fun c1 => ?_) (fun c1 => ?_)⟩
        · have hw : wrongP p = true := c1
          have hb := kB (List.any_eq_true.mpr ⟨p, List.mem_of_getElem? hp, hw⟩)
          refine ⟨_, rfl, (by show 1 ≤ 1000; decide), fun a1 ha1 => mk_ini (C := c.V) (ns := ["what"]) (code := "BadValue") (vs := [.str y]) rfl ha1 fun d1 h1 e1 g1 hda1 mf1 => ⟨rfl, d1, _, e1, g1, hda1, fun u1 => ?_⟩⟩
          exact ⟨a1, c.V, d1, u1, rfl, (mf1 u1).pa, fr0_none (sN s2 ha1), D.v.T.exC, D.v.T.tyC, badV_do hb s2 (mf1 u1)⟩
        · refine ⟨_, _, rfl, s2, fun j q hj hq => ?_⟩
          by_cases c : j < i
          · exact o2 j q c hq
          · have : j = i := by omega
            subst this
            cases hp.symm.trans hq
            exact c1
      · rintro σ H2 ⟨x2, x3, rfl, s2, o2⟩
        refine kN ?_ H2 s2
        rw [List.any_eq_false]
        intro p hp
        obtain ⟨j, hj⟩ := List.mem_iff_getElem?.mp hp
        have := o2 j p (by rw [hx.1]; exact (List.getElem?_eq_some_iff.mp hj).1) hj
        rw [this]
        exact Bool.false_ne_true
    · refine .inr ⟨_, rfl, a, rfl, ⟨_, ha⟩, for_tup (K := K) (a := a) (xs := xs) (fun i σ H2 => ∃ x2 x3 : Option V, σ = [some (.str y), some (.ref a), x2, x3] ∧ Same H H2 ∧ ∀ (j : Nat) (p : Pr), j < i → ps[j]? = some p → wrongP p = false) ⟨none, none, rfl, Same.refl _, fun j l h => absurd h (Nat.not_lt_zero _)⟩ (fun i σ H2 _ h => ?_) ?_ ?_⟩
      · obtain ⟨_, _, _, s, _⟩ := h
        exact sqT_mono s ha
      · rintro i x σ H2 hi ⟨x2, x3, rfl, s2, o2⟩
        obtain ⟨t, p, hp, rfl, ht⟩ := hx.2 i x hi
        refine ⟨t, _, rfl, sqT_mono s2 ht, rfl, _, _, rfl, _, _, rfl, rfl, ?_⟩
        refine ⟨_, rfl, _, rfl, _, _, rfl, rfl, _, rfl, ite_b (fun c1 => ?_) (fun c1 => ?_)⟩
        · have hw : wrongP p = true := c1
          have hb := kB (List.any_eq_true.mpr ⟨p, List.mem_of_getElem? hp, hw⟩)
          refine ⟨_, rfl, (by show 1 ≤ 1000; decide), fun a1 ha1 => mk_ini (C := c.V) (ns := ["what"]) (code := "BadValue") (vs := [.str y]) rfl ha1 fun d1 h1 e1 g1 hda1 mf1 => ⟨rfl, d1, _, e1, g1, hda1, fun u1 => ?_⟩⟩
          exact ⟨a1, c.V, d1, u1, rfl, (mf1 u1).pa, fr0_none (sN s2 ha1), D.v.T.exC, D.v.T.tyC, badV_do hb s2 (mf1 u1)⟩
        · refine ⟨_, _, rfl, s2, fun j q hj hq => ?_⟩
          by_cases c : j < i
          · exact o2 j q c hq
          · have : j = i := by omega
            subst this
            cases hp.symm.trans hq
            exact c1
      · rintro σ H2 ⟨x2, x3, rfl, s2, o2⟩
        refine kN ?_ H2 s2
        rw [List.any_eq_false]
        intro p hp
        obtain ⟨j, hj⟩ := List.mem_iff_getElem?.mp hp
        have := o2 j p (by rw [hx.1]; exact (List.getElem?_eq_some_iff.mp hj).1) hj
        rw [this]
        exact Bool.false_ne_true
end
end Lw
namespace Lw
open PySem PySem.Spec PyProof.Rows L2 XV TL XM
/-- the attributes of a Lives -/
def lf (h s l : Addr) (lo hi n : Int) : List (Str × V) := putF "handles" (.int n) (putF "highest" (.int hi) (putF "lowest" (.int lo) (putF "loose" (.ref l) (putF "summits" (.ref s) (putF "hollows" (.ref h) [])))))
theorem nS {a b : String} (h : (Str.ofString a == Str.ofString b) = false) : ¬ (Str.ofString a = Str.ofString b) := fun e => by
  rw [e] at h
  simp at h
theorem lf_hollows {h s l : Addr} {lo hi n : Int} : (lf h s l lo hi n).lookup ("hollows" : Str) = some (.ref h) := by
  unfold lf
  rw [lookup_putF, if_neg (by decide +kernel), lookup_putF, if_neg (by decide +kernel), lookup_putF, if_neg (by decide +kernel), lookup_putF, if_neg (by decide +kernel), lookup_putF, if_neg (by decide +kernel), lookup_putF, if_pos rfl]
theorem lf_summits {h s l : Addr} {lo hi n : Int} : (lf h s l lo hi n).lookup ("summits" : Str) = some (.ref s) := by
  unfold lf
  rw [lookup_putF, if_neg (by decide +kernel), lookup_putF, if_neg (by decide +kernel), lookup_putF, if_neg (by decide +kernel), lookup_putF, if_neg (by decide +kernel), lookup_putF, if_pos rfl]
theorem lf_loose {h s l : Addr} {lo hi n : Int} : (lf h s l lo hi n).lookup ("loose" : Str) = some (.ref l) := by
  unfold lf
  rw [lookup_putF, if_neg (by decide +kernel), lookup_putF, if_neg (by decide +kernel), lookup_putF, if_neg (by decide +kernel), lookup_putF, if_pos rfl]
theorem lf_lowest {h s l : Addr} {lo hi n : Int} : (lf h s l lo hi n).lookup ("lowest" : Str) = some (.int lo) := by
  unfold lf
  rw [lookup_putF, if_neg (by decide +kernel), lookup_putF, if_neg (by decide +kernel), lookup_putF, if_pos rfl]
theorem lf_highest {h s l : Addr} {lo hi n : Int} : (lf h s l lo hi n).lookup ("highest" : Str) = some (.int hi) := by
  unfold lf
  rw [lookup_putF, if_neg (by decide +kernel), lookup_putF, if_pos rfl]
theorem lf_handles {h s l : Addr} {lo hi n : Int} : (lf h s l lo hi n).lookup ("handles" : Str) = some (.int n) := by
  unfold lf
  rw [lookup_putF, if_pos rfl]
structure LivesAt (K : PySem.W.Frag) (C : Addr) (M : Hp) (p : Addr) (hs ss : List Pr) (ls : List Int) (lo hi : Int) : Prop where
  ex : ∃ (dx h s l : Addr) (xs ys : List V), M p = some (.ins C dx (lf h s l lo hi ls.length)) ∧ M h = some (.tup xs) ∧ M s = some (.tup ys) ∧ M l = some (.tup (ls.map V.int)) ∧ PairVs K M xs hs ∧ PairVs K M ys ss
def keyIn (M : Hp) : V → Pr
  | .ref t => match M t with
    | some (.tup [.int i, .int j]) => (i, j)
    | _ => (0, 0)
  | _ => (0, 0)
theorem keyIn_of {M : Hp} {t : Addr} {i j : Int} (h : M t = some (.tup [.int i, .int j])) : keyIn M (.ref t) = (i, j) := by
  show (match M t with
    | some (.tup [.int i, .int j]) => (i, j)
    | _ => ((0, 0) : Pr)) = _
  rw [h]
def tPairs (K : PySem.W.Frag) (i : Nat) : TE := tCB (fun xs H Q => ∃ p ys, xs = [V.ref p] ∧ ((SqL K H p ys ∧ ∀ l, H l = none → Q (.ref l) (upd H l (.tup ys))) ∨ (SqT K H p ys ∧ Q (.ref p) H))) (tCons (tCB (rSortedPO K) (tCons (tLc (iEither K (tVar i)) (gTup K 2 (gCons (gName 6) (gCons (gName 7) gNil))) tYes (tTup (tCons (tVar 6) (tCons (tVar 7) tNil))) [6, 7]) tNil)) tNil)
theorem sort_keys {M : Hp} {xs ys : List V} {ps : List Pr} (hp : xs.map (keyIn M) = ps) (h1 : SrtO.Srtd (ltP (keyIn M)) ys) (h2 : SrtO.Stb (ltP (keyIn M)) ys xs) : SortP ps (ys.map (keyIn M)) := by
  refine ⟨by rw [← hp]; exact h2.perm.map _, ?_⟩
  refine List.pairwise_map.mpr (List.Pairwise.imp (fun {a b} h => ?_) h1)
  exact SrtO.lexB_no.mp h
/-- pairs that are tuples just laid -/
def RawVs (M : Hp) (xs : List V) (ps : List Pr) : Prop := xs.length = ps.length ∧ ∀ (i : Nat) (x : V), xs[i]? = some x → ∃ (t : Addr) (p : Pr), ps[i]? = some p ∧ x = .ref t ∧ M t = some (.tup [.int p.1, .int p.2])
theorem RawVs.keys {M : Hp} {xs : List V} {ps : List Pr} (h : RawVs M xs ps) : xs.map (keyIn M) = ps := by
  refine List.ext_getElem? fun i => ?_
  rw [List.getElem?_map]
  cases e : xs[i]? with
  | none =>
    have : xs.length ≤ i := List.getElem?_eq_none_iff.mp e
    rw [h.1] at this
    rw [List.getElem?_eq_none_iff.mpr this]
    rfl
  | some x =>
    obtain ⟨t, p, a, rfl, c⟩ := h.2 i x e
    rw [a]
    show some (keyIn M (.ref t)) = _
    rw [keyIn_of c]
theorem RawVs.mem {M : Hp} {xs : List V} {ps : List Pr} (h : RawVs M xs ps) {x : V} (hx : x ∈ xs) : ∃ t, x = .ref t ∧ M t = some (.tup [.int (keyIn M x).1, .int (keyIn M x).2]) := by
  obtain ⟨i, hi⟩ := List.mem_iff_getElem?.mp hx
  obtain ⟨t, p, _, rfl, c⟩ := h.2 i x hi
  refine ⟨t, rfl, ?_⟩
  rw [keyIn_of c]
  exact c
theorem RawVs.sorted {K : PySem.W.Frag} {M : Hp} {xs ys : List V} {ps : List Pr} (h : RawVs M xs ps) (p : ys.Perm xs) : PairVs K M ys (ys.map (keyIn M)) := by
  refine ⟨by rw [List.length_map], fun i x hx => ?_⟩
  obtain ⟨t, rfl, c⟩ := h.mem (p.subset (List.mem_of_getElem? hx))
  exact ⟨t, keyIn M (.ref t), by rw [List.getElem?_map, hx]; rfl, rfl, .inl (.inl c)⟩
theorem pairs_do {K : PySem.W.Frag} {H : Hp} {Q : VK} {σ : L2.St} {u0 u1 u2 u3 u4 u5 : Option V} {i : Nat} {a : Addr} {ps : List Pr} (hσ : σ = [u0, u1, u2, u3, u4, u5, none, none]) (hi : σ[i]? = some (some (.ref a))) (h : PairsAt K H a ps) (hl : ps.length ≤ 100000)
    (k : ∀ (t : Addr) (ys : List V) (hs : List Pr) (H' : Hp), Same H H' → H t = none → SortP ps hs → H' t = some (.tup ys) → PairVs K H' ys hs → Q (.ref t) H') : tPairs K i σ H Q := by
  subst hσ
  obtain ⟨xs, ha, hx⟩ := h
  rcases ha with ha | ha
  · refine .inl ⟨_, hi, a, rfl, ⟨_, ha⟩, fun D hD => lc_list (K := K) (a := a) (xs := xs) (fun i H2 => Same H H2 ∧ ∃ zs : List V, H2 D = some (.lst zs) ∧ zs.length = i ∧ ∀ (j : Nat) (z : V), zs[j]? = some z → ∃ (t : Addr) (p : Pr), ps[j]? = some p ∧ z = .ref t ∧ t ≠ D ∧ H2 t = some (.tup [.int p.1, .int p.2])) ⟨same_new hD, [], upd_same, rfl, fun j z h => by cases h⟩ (fun i H2 _ h => h.1.seq ha) ?_ ?_⟩
    · rintro i x H2 hxi ⟨s2, zs, e2, l2, o2⟩
      obtain ⟨t, p, hp, rfl, ht⟩ := hx.2 i x hxi
      have hil := (List.getElem?_eq_some_iff.mp hp).1
      refine ⟨t, _, rfl, sqT_mono s2 ht, rfl, _, _, rfl, _, _, rfl, rfl, rfl, _, rfl, _, rfl, (by show 2 ≤ sizeLine; decide), fun q hq => ?_⟩
      have s3 := same_new (o := .tup [.int p.1, .int p.2]) hq
      refine ⟨zs, s3 _ _ e2, by rw [sizeLine_eq]; omega, fun b o h => ?_, zs ++ [.ref q], upd_same, by rw [List.length_append, l2]; rfl, fun j z hz => ?_⟩
      · rw [upd_ne (ne_of_none h hD)]
        exact s3 _ _ (s2 _ _ h)
      · by_cases c : j < zs.length
        · rw [List.getElem?_append_left c] at hz
          obtain ⟨t', p', a1, a2, a3, a4⟩ := o2 j z hz
          exact ⟨t', p', a1, a2, a3, by rw [upd_ne a3]; exact s3 _ _ a4⟩
        · rw [List.getElem?_append_right (by omega)] at hz
          have hj0 : j - zs.length = 0 := by
            have := (List.getElem?_eq_some_iff.mp hz).1
            simp at this
            omega
          rw [hj0] at hz
          cases hz
          have : j = i := by omega
          subst this
          have nq : q ≠ D := fun e => by rw [e, e2] at hq; cases hq
          exact ⟨q, p, hp, rfl, nq, by rw [upd_ne nq]; exact upd_same⟩
    · rintro H2 ⟨s2, zs, e2, l2, o2⟩
      have raw : RawVs H2 zs ps := ⟨by rw [l2, hx.1], fun j z hz => by
        obtain ⟨t, p, a1, a2, _, a4⟩ := o2 j z hz
        exact ⟨t, p, a1, a2, a4⟩⟩
      refine ⟨D, zs, keyIn H2, rfl, SqL.of e2, fun z hz => raw.mem hz, fun ys p h1 h2 hp => ⟨p, ys, rfl, .inl ⟨SqL.of upd_same, fun t ht => ?_⟩⟩⟩
      have s3 := same_new (o := .lst ys) hp
      have s4 := Same.trans s3 (same_new (o := .tup ys) ht)
      exact k t ys (ys.map (keyIn H2)) _ (Same.trans s2 s4) (sN s2 (sN s3 ht)) (sort_keys raw.keys h1 h2) upd_same ((raw.sorted h2.perm).mono s4)
  · refine .inr ⟨_, hi, a, rfl, ⟨_, ha⟩, fun D hD => lc_tup (K := K) (a := a) (xs := xs) (fun i H2 => Same H H2 ∧ ∃ zs : List V, H2 D = some (.lst zs) ∧ zs.length = i ∧ ∀ (j : Nat) (z : V), zs[j]? = some z → ∃ (t : Addr) (p : Pr), ps[j]? = some p ∧ z = .ref t ∧ t ≠ D ∧ H2 t = some (.tup [.int p.1, .int p.2])) ⟨same_new hD, [], upd_same, rfl, fun j z h => by cases h⟩ (fun i H2 _ h => sqT_mono h.1 ha) ?_ ?_⟩
    · rintro i x H2 hxi ⟨s2, zs, e2, l2, o2⟩
      obtain ⟨t, p, hp, rfl, ht⟩ := hx.2 i x hxi
      have hil := (List.getElem?_eq_some_iff.mp hp).1
      refine ⟨t, _, rfl, sqT_mono s2 ht, rfl, _, _, rfl, _, _, rfl, rfl, rfl, _, rfl, _, rfl, (by show 2 ≤ sizeLine; decide), fun q hq => ?_⟩
      have s3 := same_new (o := .tup [.int p.1, .int p.2]) hq
      refine ⟨zs, s3 _ _ e2, by rw [sizeLine_eq]; omega, fun b o h => ?_, zs ++ [.ref q], upd_same, by rw [List.length_append, l2]; rfl, fun j z hz => ?_⟩
      · rw [upd_ne (ne_of_none h hD)]
        exact s3 _ _ (s2 _ _ h)
      · by_cases c : j < zs.length
        · rw [List.getElem?_append_left c] at hz
          obtain ⟨t', p', a1, a2, a3, a4⟩ := o2 j z hz
          exact ⟨t', p', a1, a2, a3, by rw [upd_ne a3]; exact s3 _ _ a4⟩
        · rw [List.getElem?_append_right (by omega)] at hz
          have hj0 : j - zs.length = 0 := by
            have := (List.getElem?_eq_some_iff.mp hz).1
            simp at this
            omega
          rw [hj0] at hz
          cases hz
          have : j = i := by omega
          subst this
          have nq : q ≠ D := fun e => by rw [e, e2] at hq; cases hq
          exact ⟨q, p, hp, rfl, nq, by rw [upd_ne nq]; exact upd_same⟩
    · rintro H2 ⟨s2, zs, e2, l2, o2⟩
      have raw : RawVs H2 zs ps := ⟨by rw [l2, hx.1], fun j z hz => by
        obtain ⟨t, p, a1, a2, _, a4⟩ := o2 j z hz
        exact ⟨t, p, a1, a2, a4⟩⟩
      refine ⟨D, zs, keyIn H2, rfl, SqL.of e2, fun z hz => raw.mem hz, fun ys p h1 h2 hp => ⟨p, ys, rfl, .inl ⟨SqL.of upd_same, fun t ht => ?_⟩⟩⟩
      have s3 := same_new (o := .lst ys) hp
      have s4 := Same.trans s3 (same_new (o := .tup ys) ht)
      exact k t ys (ys.map (keyIn H2)) _ (Same.trans s2 s4) (sN s2 (sN s3 ht)) (sort_keys raw.keys h1 h2) upd_same ((raw.sorted h2.perm).mono s4)
end Lw
namespace Lw
open PySem PySem.Spec PyProof.Rows L2 XV TL XM
structure LCls (K : PySem.W.Frag) (C : Addr) : Prop where
  cl : Cls K C
  nH : NoAttr K C "hollows"
  nS : NoAttr K C "summits"
  nL : NoAttr K C "loose"
  nlo : NoAttr K C "lowest"
  nhi : NoAttr K C "highest"
  nha : NoAttr K C "handles"
/-- lists and tuples stay -/
structure Keeps (H H' : Hp) : Prop where
  l : ∀ a xs, H a = some (.lst xs) → H' a = some (.lst xs)
  t : ∀ a xs, H a = some (.tup xs) → H' a = some (.tup xs)
  f : ∀ a o u, H a = some (.frz o u) → H' a = some (.frz o u)
theorem Keeps.of {H H' : Hp} (s : Same H H') : Keeps H H' := ⟨fun _ _ h => s _ _ h, fun _ _ h => s _ _ h, fun _ _ _ h => s _ _ h⟩
theorem Keeps.trans {H H' H'' : Hp} (s : Keeps H H') (r : Keeps H' H'') : Keeps H H'' := ⟨fun _ _ h => r.l _ _ (s.l _ _ h), fun _ _ h => r.t _ _ (s.t _ _ h), fun _ _ _ h => r.f _ _ _ (s.f _ _ _ h)⟩
theorem Keeps.ins {H : Hp} {p C dx : Addr} {fs : List (Str × V)} {o : HO} (h : H p = some (.ins C dx fs)) : Keeps H (upd H p o) :=
  ⟨fun a xs e => by rw [upd_ne (ne_of e h (by intro z; cases z))]; exact e, fun a xs e => by rw [upd_ne (ne_of e h (by intro z; cases z))]; exact e, fun a u v e => by rw [upd_ne (ne_of e h (by intro z; cases z))]; exact e⟩
theorem Keeps.sqL {K : PySem.W.Frag} {H H' : Hp} (s : Keeps H H') {a : Addr} {xs : List V} (h : SqL K H a xs) : SqL K H' a xs := by
  rcases h with (h | ⟨o, h⟩) | h
  · exact .inl (.inl (s.l _ _ h))
  · exact .inl (.inr ⟨o, s.f _ _ _ h⟩)
  · exact .inr h
theorem Keeps.sqT {K : PySem.W.Frag} {H H' : Hp} (s : Keeps H H') {a : Addr} {xs : List V} (h : SqT K H a xs) : SqT K H' a xs := by
  rcases h with (h | ⟨o, h⟩) | h
  · exact .inl (.inl (s.t _ _ h))
  · exact .inl (.inr ⟨o, s.f _ _ _ h⟩)
  · exact .inr h
theorem Keeps.pv {K : PySem.W.Frag} {H H' : Hp} (s : Keeps H H') {xs : List V} {ps : List Pr} (h : PairVs K H xs ps) : PairVs K H' xs ps := ⟨h.1, fun i x hx => by
  obtain ⟨t, p, a, b, c⟩ := h.2 i x hx
  exact ⟨t, p, a, b, s.sqT c⟩⟩
theorem Keeps.pa {K : PySem.W.Frag} {H H' : Hp} (s : Keeps H H') {a : Addr} {ps : List Pr} (h : PairsAt K H a ps) : PairsAt K H' a ps := by
  obtain ⟨xs, h1, h2⟩ := h
  exact ⟨xs, h1.elim (fun h => .inl (s.sqL h)) (fun h => .inr (s.sqT h)), s.pv h2⟩
theorem fld_go {K : PySem.W.Frag} {ta tv : TE} {f : Str} {u : TS} {D : Ends} {σ : L2.St} {H : Hp} (h : tv σ H fun y H1 => ta σ H1 fun x H2 => ∃ a C dx fs, x = .ref a ∧ H2 a = some (.ins C dx fs) ∧ Cls K C ∧ NoAttr K C f ∧ fs.length < 1000 ∧ u D σ (upd H2 a (.ins C dx (putF f y fs)))) : tSeq (sFld K ta tv f) u D σ H := h
theorem pl {f : Str} {v : V} {fs : List (Str × V)} {n : Nat} (h : fs.length ≤ n) : (putF f v fs).length ≤ n + 1 := Nat.le_trans (length_putF f v fs) (Nat.succ_le_succ h)
abbrev sInitL : Stmt := inClass (topOf "Lives") 0
abbrev NinitL : List Str := ["self", "hollows", "summits", "loose", "lowest", "highest", "low", "high"]
theorem scInitL : FnScope NinitL ["self", "hollows", "summits", "loose", "lowest", "highest"] (defScope sInitL) := ⟨rfl, rfl, rfl, by decide +kernel, rfl, by decide +kernel, by decide +kernel⟩
def spInitL (K : PySem.W.Frag) (c : CA) (C : Addr) : Sp := fun vs H Q E => ∃ (p dx a b l : Addr) (ps qs : List Pr) (ls : List Int) (lo hi : Int), vs = [.ref p, .ref a, .ref b, .ref l, .int lo, .int hi] ∧ H p = some (.ins C dx []) ∧ PairsAt K H a ps ∧ PairsAt K H b qs ∧ SqL K H l (ls.map V.int) ∧ ps.length ≤ 100000 ∧ qs.length ≤ 100000 ∧
  (ps.any wrongP = true → BadVE c H E "hollows") ∧ (ps.any wrongP = false → qs.any wrongP = true → BadVE c H E "summits") ∧
  (ps.any wrongP = false → qs.any wrongP = false → ∀ (H' : Hp) (hs ss : List Pr) (li : List Int), SortP ps hs → SortP qs ss → SortI ls li → LivesAt K C H' p hs ss li lo hi → (∀ b o, b ≠ p → H b = some o → H' b = some o) → Q .non H')
section
variable {P : Program} {w : World} {K : PySem.W.Frag} {mg : Str → Option Value} {base : Heap}
theorem ok_initL {f fC C : Addr} {fd fdC : FuncData} {c : CA} (F : Fun K "__init__" "Lives.__init__" sInitL f fd) (T : Bt mg) (D : Xs K mg c) (L : LCls K C) (D_check : Df K mg "check_pairs" sCheck ["what", "pairs"] fC fdC) : FnOk P w K mg base (L2.CX P w) 4 f fd ["self", "hollows", "summits", "loose", "lowest", "highest"] (spInitL K c C) := by
  have G_check : FnOk P w K mg base (L2.CX P w) 3 fC fdC ["what", "pairs"] (spCheck K c) := ok_check D_check.fn T D
  refine F.okX scInitL (fun vs H Q E h => ?_) (fun cdv A outer s H vs Q E hr h => ?_)
  · obtain ⟨p, dx, a, b, l, ps, qs, ls, lo, hi, rfl, _⟩ := h
    rfl
  · obtain ⟨p, dx, a, b, l, ps, qs, ls, lo, hi, rfl, hp, hA, hB, hL, lA, lB, k1, k2, k3⟩ := h
    refine ⟨_, pss_cons (ps_expr (by exact (calS D_check G_check (hr.mono (by decide)) (fun σ => passAt (takes_of rfl rfl rfl rfl) σ) (by exact (pa_cons (pe_str) (pa_cons (pv 1) pa_nil))))))
 (pss_cons (ps_expr (by exact (calS D_check G_check (hr.mono (by decide)) (fun σ => passAt (takes_of rfl rfl rfl rfl) σ) (by exact (pa_cons (pe_str) (pa_cons (pv 2) pa_nil))))))
 (pss_cons (ps_fld (tv := tPairs K 1) (pv 0) (pe_callTy call_tuple_of (by rfl) T.tuple (by decide +kernel) (pa_cons (pe_callB cr_sortedPO (by rfl) T.sorted (by decide +kernel) (pa_cons (pe_lc (own := [("low", 6), ("high", 7)]) (g := gTup K 2 (gCons (gName 6) (gCons (gName 7) gNil))) (tt := tYes) rfl scInitL.nd (pi_either (pv 1)) (blkOk_by (N := NinitL) (sc := defScope sInitL) (by decide +kernel)) (fun _ _ _ _ _ => pg_tup rfl (pgs_cons (pg_name (i := 6) scInitL.nd rfl (Or.inl rfl)) (pgs_cons (pg_name (i := 7) scInitL.nd rfl (Or.inl rfl)) (pgs_nil)))) (fun _ _ _ _ _ => pts_nil) (fun _ _ _ _ _ => pe_tup (pa_cons (pv 6) (pa_cons (pv 7) pa_nil)))) pa_nil)) pa_nil)) rfl)
 (pss_cons (ps_fld (tv := tPairs K 2) (pv 0) (pe_callTy call_tuple_of (by rfl) T.tuple (by decide +kernel) (pa_cons (pe_callB cr_sortedPO (by rfl) T.sorted (by decide +kernel) (pa_cons (pe_lc (own := [("low", 6), ("high", 7)]) (g := gTup K 2 (gCons (gName 6) (gCons (gName 7) gNil))) (tt := tYes) rfl scInitL.nd (pi_either (pv 2)) (blkOk_by (N := NinitL) (sc := defScope sInitL) (by decide +kernel)) (fun _ _ _ _ _ => pg_tup rfl (pgs_cons (pg_name (i := 6) scInitL.nd rfl (Or.inl rfl)) (pgs_cons (pg_name (i := 7) scInitL.nd rfl (Or.inl rfl)) (pgs_nil)))) (fun _ _ _ _ _ => pts_nil) (fun _ _ _ _ _ => pe_tup (pa_cons (pv 6) (pa_cons (pv 7) pa_nil)))) pa_nil)) pa_nil)) rfl)
 (pss_cons (ps_fld (pv 0) (pe_callTy call_tuple_of (by rfl) T.tuple (by decide +kernel) (pa_cons (pe_callB cr_sortedI (by rfl) T.sorted (by decide +kernel) (pa_cons (pe_callTy call_listL (by rfl) T.list (by decide +kernel) (pa_cons (pv 3) pa_nil)) pa_nil)) pa_nil)) rfl)
 (pss_cons (ps_fld (pv 0) (pv 4) rfl)
 (pss_cons (ps_fld (pv 0) (pv 5) rfl)
 (pss_one (ps_fld (pv 0) (pe_callB call_len (by rfl) T.len (by decide +kernel) (pa_cons (pe_fld (pv 0) rfl) pa_nil)) rfl)))))))), ?_⟩
    refine ⟨_, rfl, "hollows", a, ps, rfl, hA, fun w => k1 w, fun n1 H1 s1 => ?_⟩
    refine ⟨_, rfl, "summits", b, qs, rfl, hB.mono s1, fun w d H' h1 h2 h3 => k2 n1 w d H' (sN s1 h1) (Same.trans s1 h2) h3, fun n2 H2 s2 => ?_⟩
    have s12 := Same.trans s1 s2
    -- hollows
    show tSeq (sFld K (tVar 0) (tPairs K 1) "hollows") _ _ [some (.ref p), some (.ref a), some (.ref b), some (.ref l), some (.int lo), some (.int hi), none, none] H2
    refine fld_go ?_
    refine pairs_do (u0 := some (.ref p)) (u1 := some (.ref a)) (u2 := some (.ref b)) (u3 := some (.ref l)) (u4 := some (.int lo)) (u5 := some (.int hi)) (i := 1) (a := a) rfl rfl (hA.mono s12) lA fun h xs hs H3 s3 ht3 so3 e3 v3 => ?_
    have s03 := Same.trans s12 s3
    have p3 := s03 _ _ hp
    refine ⟨_, rfl, p, C, dx, [], rfl, p3, L.cl, L.nH, (by decide), ?_⟩
    have q4 : upd H3 p (.ins C dx (putF "hollows" (.ref h) [])) p = some (.ins C dx (putF "hollows" (.ref h) [])) := upd_same
    have kp4 : Keeps H3 (upd H3 p (.ins C dx (putF "hollows" (.ref h) []))) := Keeps.ins p3
    have o4 : ∀ b o, b ≠ p → H b = some o → upd H3 p (.ins C dx (putF "hollows" (.ref h) [])) b = some o := fun b o nb e => by rw [upd_ne nb]; exact s03 _ _ e
    generalize upd H3 p (.ins C dx (putF "hollows" (.ref h) [])) = H4 at q4 kp4 o4 ⊢
    have kk4 := (Keeps.of s03).trans kp4
    -- summits
    show tSeq (sFld K (tVar 0) (tPairs K 2) "summits") _ _ [some (.ref p), some (.ref a), some (.ref b), some (.ref l), some (.int lo), some (.int hi), none, none] H4
    refine fld_go ?_
    refine pairs_do (u0 := some (.ref p)) (u1 := some (.ref a)) (u2 := some (.ref b)) (u3 := some (.ref l)) (u4 := some (.int lo)) (u5 := some (.int hi)) (i := 2) (a := b) rfl rfl (kk4.pa hB) lB fun s0 ys ss H5 s5 ht5 so5 e5 v5 => ?_
    have p5 := s5 _ _ q4
    refine ⟨_, rfl, p, C, dx, _, rfl, p5, L.cl, L.nS, Nat.lt_of_le_of_lt (pl (Nat.zero_le _ : ([] : List (Str × V)).length ≤ 0)) (by decide), ?_⟩
    have q6 : upd H5 p (.ins C dx (putF "summits" (.ref s0) (putF "hollows" (.ref h) []))) p = some (.ins C dx (putF "summits" (.ref s0) (putF "hollows" (.ref h) []))) := upd_same
    have kp6 : Keeps H5 (upd H5 p (.ins C dx (putF "summits" (.ref s0) (putF "hollows" (.ref h) [])))) := Keeps.ins p5
    have o6 : ∀ b o, b ≠ p → H b = some o → upd H5 p (.ins C dx (putF "summits" (.ref s0) (putF "hollows" (.ref h) []))) b = some o := fun b o nb e => by rw [upd_ne nb]; exact s5 _ _ (o4 b o nb e)
    generalize upd H5 p (.ins C dx (putF "summits" (.ref s0) (putF "hollows" (.ref h) []))) = H6 at q6 kp6 o6 ⊢
    have kk46 := (Keeps.of s5).trans kp6
    have kk6 := kk4.trans kk46
    -- loose
    refine ⟨_, rfl, l, _, rfl, kk6.sqL hL, fun l1 hl1 => ⟨l1, ls, rfl, SqL.of upd_same, fun li l2 pe2 so2 hl2 => ⟨l2, _, rfl, .inl ⟨SqL.of upd_same, fun l3 hl3 => ?_⟩⟩⟩⟩
    have s7 := Same.trans (same_new (o := .lst (ls.map V.int)) hl1) (Same.trans (same_new (o := .lst (li.map V.int)) hl2) (same_new (o := .tup (li.map V.int)) hl3))
    have e7 : upd (upd (upd H6 l1 (.lst (ls.map V.int))) l2 (.lst (li.map V.int))) l3 (.tup (li.map V.int)) l3 = some (.tup (li.map V.int)) := upd_same
    generalize upd (upd (upd H6 l1 (.lst (ls.map V.int))) l2 (.lst (li.map V.int))) l3 (.tup (li.map V.int)) = H7 at s7 e7 ⊢
    have p7 := s7 _ _ q6
    refine ⟨_, rfl, p, C, dx, _, rfl, p7, L.cl, L.nL, Nat.lt_of_le_of_lt (pl (pl (Nat.zero_le _ : ([] : List (Str × V)).length ≤ 0))) (by decide), ?_⟩
    have kp8 : ∀ o, Keeps H7 (upd H7 p o) := fun o => Keeps.ins p7
    -- lowest, highest, handles
    refine ⟨_, rfl, _, rfl, p, C, dx, _, rfl, upd_same, L.cl, L.nlo, Nat.lt_of_le_of_lt (pl (pl (pl (Nat.zero_le _ : ([] : List (Str × V)).length ≤ 0)))) (by decide), ?_⟩
    refine ⟨_, rfl, _, rfl, p, C, dx, _, rfl, upd_same, L.cl, L.nhi, Nat.lt_of_le_of_lt (pl (pl (pl (pl (Nat.zero_le _ : ([] : List (Str × V)).length ≤ 0))))) (by decide), ?_⟩
    have kl := Keeps.ins (o := .ins C dx (putF "loose" (.ref l3) (putF "summits" (.ref s0) (putF "hollows" (.ref h) [])))) p7
    have kl2 := kl.trans (Keeps.ins (o := .ins C dx (putF "lowest" (.int lo) (putF "loose" (.ref l3) (putF "summits" (.ref s0) (putF "hollows" (.ref h) []))))) upd_same)
    have kl3 := kl2.trans (Keeps.ins (o := .ins C dx (putF "highest" (.int hi) (putF "lowest" (.int lo) (putF "loose" (.ref l3) (putF "summits" (.ref s0) (putF "hollows" (.ref h) [])))))) upd_same)
    have el := kl3.t _ _ e7
    refine ⟨_, rfl, p, C, dx, _, .ref l3, rfl, upd_same, L.cl, L.nL, (by rw [lookup_putF, if_neg (by decide +kernel), lookup_putF, if_neg (by decide +kernel), lookup_putF, if_pos rfl]), _, (li.map V.int).length, rfl, .inr ⟨_, SqT.of el, rfl⟩, _, rfl, p, C, dx, _, rfl, upd_same, L.cl, L.nha, Nat.lt_of_le_of_lt (pl (pl (pl (pl (pl (Nat.zero_le _ : ([] : List (Str × V)).length ≤ 0)))))) (by decide), ?_⟩
    have kl4 := kl3.trans (Keeps.ins (o := .ins C dx (lf h s0 l3 lo hi li.length)) upd_same)
    have f7 := (Keeps.of s7).trans kl4
    have f6 := kk46.trans f7
    rw [List.length_map]
    refine k3 n1 n2 _ hs ss li so3 so5 ⟨pe2, so2⟩ ⟨dx, h, s0, l3, xs, ys, upd_same, (kp4.trans f6).t _ _ e3, (kp6.trans f7).t _ _ e5, kl4.t _ _ e7, (kp4.trans f6).pv v3, (kp6.trans f7).pv v5⟩ fun b o nb e => ?_
    rw [upd_ne nb, upd_ne nb, upd_ne nb, upd_ne nb]
    exact s7 _ _ (o6 b o nb e)
end
end Lw
namespace Lw
open PySem PySem.Spec PyProof.Rows L2 XV TL XM
def prs (ls : List (List Nat)) : List Pr := ls.map fun x => (spanV x).getD (0, 0)
theorem line_pairs {k : Nat} {l : List Nat} (hk : k = 1 ∨ k = 2) (h : lineF k l = none) : (∀ x ∈ wtail l, (spanV x).isNone = false) ∧ (prs (wtail l)).any wrongP = false := by
  have hk0 : ¬ (k = 0 ∨ 6 ≤ k) := by omega
  have hk2 : k ≤ 2 := by omega
  rw [lineF, if_neg hk0] at h
  by_cases c1 : whead l ≠ tl (wdN k)
  · rw [if_pos c1] at h
    cases h
  rw [if_neg c1, if_pos hk2] at h
  by_cases c2 : (wtail l).any (fun x => (spanV x).isNone) = true
  · rw [if_pos c2] at h
    cases h
  rw [if_neg c2] at h
  by_cases c3 : (wtail l).any badP = true
  · rw [if_pos c3] at h
    cases h
  have a : ∀ x ∈ wtail l, (spanV x).isNone = false := fun x hx => by
    cases e : (spanV x).isNone with
    | false => rfl
    | true => exact absurd (List.any_eq_true.mpr ⟨x, hx, e⟩) c2
  refine ⟨a, ?_⟩
  rw [prs, List.any_map, List.any_eq_false]
  intro x hx hw
  refine c3 (List.any_eq_true.mpr ⟨x, hx, ?_⟩)
  have := a x hx
  cases e : spanV x with
  | none => rw [e] at this; cases this
  | some ab =>
    obtain ⟨u, v⟩ := ab
    rw [badP, e]
    have hw : wrongP ((spanV x).getD (0, 0)) = true := hw
    rw [e] at hw
    exact hw
theorem pairs_of {K : PySem.W.Frag} {M : Hp} {a : Addr} {xs : List V} {ls : List (List Nat)} (ha : M a = some (.lst xs)) (h : DpAll K M xs (ls.map spanD)) (hn : ∀ l ∈ ls, (spanV l).isNone = false) : PairsAt K M a (prs ls) := by
  have hl : xs.length = ls.length := by rw [Lw.DpAll.len h, List.length_map]
  refine ⟨xs, .inl (SqL.of ha), by rw [hl, prs, List.length_map], fun i x hx => ?_⟩
  obtain ⟨l, u, v, p, h1, h2, h3, h4⟩ := any_dp h hn i x hx
  exact ⟨p, (u, v), by rw [prs, List.getElem?_map, h1]; show some ((spanV l).getD (0, 0)) = _; rw [h2]; rfl, h3, h4⟩
theorem nums_of {K : PySem.W.Frag} {M : Hp} : ∀ {xs : List V} {ls : List (List Nat)}, DpAll K M xs (ls.map numD) → (∀ l ∈ ls, numOk l = true) → xs = (ls.map valL).map V.int
  | [], [], _, _ => rfl
  | x :: xs, l :: ls, .cons h hs, hn => by
    have h0 := hn l (List.mem_cons_self ..)
    rw [numD, if_pos h0] at h
    cases h
    rw [nums_of hs fun l hl => hn l (List.mem_cons_of_mem _ hl)]
    rfl
theorem line_nums {l : List Nat} (h : lineF 3 l = none) : ∀ x ∈ wtail l, numOk x = true := by
  rw [lineF, if_neg (by omega)] at h
  by_cases c1 : whead l ≠ tl (wdN 3)
  · rw [if_pos c1] at h
    cases h
  rw [if_neg c1, if_neg (by omega)] at h
  intro x hx
  cases e : numOk x with
  | true => rfl
  | false =>
    rw [if_pos (Or.inl (List.any_eq_true.mpr ⟨x, hx, by rw [e]; rfl⟩))] at h
    cases h
/-- what a right text tells, in order -/
structure Told5 (ls : List (List Nat)) (hs ss : List Pr) (li : List Int) (lo hi : Int) : Prop where
  ex : ∃ l1 l2 l3 l4 l5 w4 w5 : List Nat, ls[1]? = some l1 ∧ ls[2]? = some l2 ∧ ls[3]? = some l3 ∧ ls[4]? = some l4 ∧ ls[5]? = some l5 ∧ SortP (prs (wtail l1)) hs ∧ SortP (prs (wtail l2)) ss ∧ SortI ((wtail l3).map valL) li ∧ wtail l4 = [w4] ∧ wtail l5 = [w5] ∧ lo = valL w4 ∧ hi = valL w5
theorem lives_at {ls : List (List Nat)} (h : livesF ls = none) {k : Nat} {l : List Nat} (hk : k < 7) (hl : ls[k]? = some l) : lineF k l = none := by
  obtain ⟨h8, h0⟩ := lives_len h
  have := linesF_none h0 k l (by rw [List.getElem?_dropLast, if_pos (by omega)]; exact hl)
  rw [Nat.zero_add] at this
  exact this
abbrev sReadL : Stmt := inClass (topOf "Lives") 3
abbrev NreadL : List Str := ["text", "hollows", "summits", "loose", "lowest", "highest"]
theorem scReadL : FnScope NreadL ["text"] (defScope sReadL) := ⟨rfl, rfl, rfl, by decide +kernel, rfl, by decide +kernel, by decide +kernel⟩
def spReadL (K : PySem.W.Frag) (c : CA) (C : Addr) : Sp := fun vs H Q E => ∃ v, vs = [v] ∧
  ((∃ z : Str, v = .str z ∧ z.length ≤ 60000 ∧ (∀ n y, livesF (nl z) = some (n, y) → BadE c H E n y) ∧ (livesF (nl z) = none → ∀ (p : Addr) (H' : Hp) (hs ss : List Pr) (li : List Int) (lo hi : Int), H p = none → Same H H' → Told5 (nl z) hs ss li lo hi → LivesAt K C H' p hs ss li lo hi → Q (.ref p) H')) ∨ (NoStr K H v ∧ BadE c H E 0 "form"))
section
variable {P : Program} {w : World} {K : PySem.W.Frag} {mg : Str → Option Value} {base : Heap}
theorem ok_readL {f fR fI C : Addr} {fd fdR fdI : FuncData} {c : CA} (F : Fun K "read" "Lives.read" sReadL f fd) (gC : mg "Lives" = some (.ref C)) (M : Mk K C fI) (bI : Binds K fdI ["self", "hollows", "summits", "loose", "lowest", "highest"] [])
    (D_lives : Df K mg "read_lives" sLives ["text"] fR fdR) (G_lives : FnOk P w K mg base (L2.CX P w) 4 fR fdR ["text"] (spLives K c)) (G_init : FnOk P w K mg base (L2.CX P w) 4 fI fdI ["self", "hollows", "summits", "loose", "lowest", "highest"] (spInitL K c C)) : FnOk P w K mg base (L2.CX P w) 6 f fd ["text"] (spReadL K c C) := by
  refine F.okX scReadL (fun vs H Q E h => ?_) (fun cdv A outer s H vs Q E hr h => ?_)
  · obtain ⟨v, rfl, _⟩ := h
    rfl
  · obtain ⟨v, rfl, k⟩ := h
    refine ⟨_, pss_cons (ps_asg (by exact (calS D_lives G_lives (hr.mono (by decide)) (fun σ => passAt (takes_of rfl rfl rfl rfl) σ) (by exact (pa_cons (pv 0) pa_nil)))) (pg_tup rfl (pgs_cons (pg_name (i := 1) scReadL.nd rfl (Or.inl rfl)) (pgs_cons (pg_name (i := 2) scReadL.nd rfl (Or.inl rfl)) (pgs_cons (pg_name (i := 3) scReadL.nd rfl (Or.inl rfl)) (pgs_cons (pg_name (i := 4) scReadL.nd rfl (Or.inl rfl)) (pgs_cons (pg_name (i := 5) scReadL.nd rfl (Or.inl rfl)) pgs_nil)))))))
 (pss_one (ps_ret (by exact (pe_mkS M G_init (hr.mono (by decide)) bI (fun σ => passAt (takes_of rfl rfl rfl rfl) σ) gC (by exact (pa_cons (pv 1) (pa_cons (pv 2) (pa_cons (pv 3) (pa_cons (pv 4) (pa_cons (pv 5) pa_nil))))))))) ), ?_⟩
    refine ⟨_, rfl, v, rfl, ?_⟩
    rcases k with ⟨z, rfl, hz, kF, kN⟩ | ⟨ns, k⟩
    rotate_left
    · exact .inr ⟨ns, fun d H' h1 h2 h3 => k d H' h1 h2 h3⟩
    refine .inl ⟨z, rfl, hz, fun n y hn d H' h1 h2 h3 => kF n y hn d H' h1 h2 h3, fun hn t H1 s1 fv => ?_⟩
    obtain ⟨p1, p2, p3, x1, x2, x3, l1, l2, l3, l4, l5, w4, w5, et, b1, b2, b3, b4, b5, g4, g5, n4, n5, e1, e2, e3, d1, d2, d3⟩ := fv.ex
    have q1 := line_pairs (.inl rfl) (lives_at hn (by decide) b1)
    have q2 := line_pairs (.inr rfl) (lives_at hn (by decide) b2)
    have q3 := line_nums (lives_at hn (by decide) b3)
    have di : Same (dif H H1) H1 := dif_in
    refine ⟨t, _, rfl, SqT.of (di _ _ et), rfl, _, _, rfl, _, _, rfl, _, _, rfl, _, _, rfl, _, _, rfl, rfl, ?_⟩
    refine ⟨_, rfl, _, rfl, _, rfl, _, rfl, _, rfl, fun x dx hx hdx hne => ?_⟩
    have s2 := Same.trans (same_new (o := .own x) hdx) (same_new (p := x) (o := .ins C dx []) (by rw [upd_ne hne.symm]; exact hx))
    have dk : Same (dif H H1) (upd (upd H1 dx (.own x)) x (.ins C dx [])) := Same.trans di s2
    have hx3 := nums_of d3 q3
    have wl : ∀ {k : Nat} {l : List Nat}, (nl z)[k]? = some l → l.length ≤ 60000 := fun {k l} hl => by
      have := spl_part_len [10] (tl z) [] 0 l (List.mem_of_getElem? hl)
      have h5 := len_tl z
      simp only [List.length_nil] at this
      omega
    have h1l := wtail_len l1
    have h2l := wtail_len l2
    have w1 := wl b1
    have w2 := wl b2
    refine ⟨x, dx, p1, p2, p3, prs (wtail l1), prs (wtail l2), (wtail l3).map valL, _, _, rfl, upd_same, (pairs_of e1 d1 q1.1).mono dk, (pairs_of e2 d2 q2.1).mono dk, dk.seq (SqL.of (by rw [← hx3]; exact e3)), by rw [prs, List.length_map]; omega, by rw [prs, List.length_map]; omega, fun hw => absurd (hw.symm.trans q1.2) (by decide), fun _ hw => absurd (hw.symm.trans q2.2) (by decide), fun _ _ H3 hs ss li so1 so2 so3 lv o3 => ⟨rfl, ?_⟩⟩
    refine kN hn x H3 hs ss li _ _ (sN s1 hx) (fun b o hb => ?_) ⟨l1, l2, l3, l4, l5, w4, w5, b1, b2, b3, b4, b5, so1, so2, so3, g4, g5, rfl, rfl⟩ lv
    have hb1 := s1 _ _ hb
    exact o3 b o (ne_of_none hb1 hx) (s2 _ _ hb1)
end
end Lw
namespace XM
open PySem PySem.Spec PyProof.Rows L2 XV
/-- e.f in the suite that holds e -/
def tXs (K : PySem.W.Frag) (a : Addr) (oe : Obj) (f : Str) (te : TE) : TE := fun σ H Q => te σ H fun x H1 => ∃ (C d : Addr) (fs : List (Str × V)) (newId : String) (tl : List Value) (v : V), x = .ref a ∧ oe.cls = .ref C ∧ oe.dict = some d ∧ (∃ vs, oe.data = .fields vs) ∧ ExCls K C newId tl ∧ PySem.W.findIn K (.ref C) f = some none ∧
  H1 d = some (.xd fs) ∧ fs.lookup f = some v ∧ Q v H1
theorem pe_xs {X : Cx} {a : Addr} {oe : Obj} {pn : List (Addr × Obj)} {e : Expr} {te : TE} {f : Str} {pos : Pos} (he : PE (X.suite a ((a, oe) :: pn)) e te) (hb : attributeBase e f X.env (eval e X.env) = eval e X.env := by rfl) : PE (X.suite a ((a, oe) :: pn)) (.Attribute e f pos) (tXs X.K a oe f te) := by
  refine ⟨fun pins s σ H Q I h => attr_of hb (thn (he.run pins s σ H _ I h) fun u s1 hh => ?_)⟩
  obtain ⟨x, H1, I1, rx, C, d, fs, newId, tl, v, rfl, h2, h3, ⟨vs, h4⟩, T, hno, h5, l, q⟩ := hh
  cases rx
  obtain ⟨pa, na, nL, nF, nc⟩ := I1.pin (a, oe) (List.mem_append_left _ List.mem_cons_self)
  obtain ⟨mA, hn, hr⟩ : ∃ mA, s1.heap.Ns1 d mA ∧ ∀ f, RelO (fs.lookup f) (mA f) := I1.hok d _ h5
  obtain ⟨od, ho, hl⟩ := lookIn_ns hn
  have J : PySem.W.InstAt s1.heap a oe C (some od) := by
    refine ⟨pa, h2, ?_, ?_⟩
    · unfold PySem.W.notCls
      rw [h4]
    · rw [h3]
      exact ho
  obtain ⟨u, hu, ru⟩ := RelO.some_of (v := v) (o := mA f) (by rw [← l]; exact hr f)
  exact HandSPX.exc_get I1.kIn J T.ga T.gg T.exC (PySem.W.findObj_own T.dic hno rfl (by rw [hl, hu])) (handed_of ru) ⟨v, H1, I1.tok _, ru, q⟩
end XM
namespace Lw
open PySem PySem.Spec PyProof.Rows L2 XV TL XM
abbrev sReadT : Stmt := topOf "_law_read"
abbrev NreadT : List Str := ["words", "e"]
theorem scReadT : FnScope NreadT ["words"] (defScope sReadT) := ⟨rfl, rfl, rfl, by decide +kernel, rfl, by decide +kernel, by decide +kernel⟩
/-- the clauses take what they name -/
structure Es (K : PySem.W.Frag) (c : CA) : Prop where
  b : PySem.W.exmOne K (.ref c.B) (.ref c.B) = some true
  v : PySem.W.exmOne K (.ref c.V) (.ref c.V) = some true
def spReadT (K : PySem.W.Frag) (c : CA) (C : Addr) : Sp := fun vs H Q _ => ∃ v, vs = [v] ∧
  ((∃ z : Str, v = .str z ∧ z.length ≤ 60000 ∧ (∀ n y, livesF (nl z) = some (n, y) → ∀ (t : Addr) (H' : Hp), Same H H' → dif H H' t = some (.tup [.str "BadText", .str "BadText", .str "lives", .int n, .str y]) → Q (.ref t) H') ∧ (livesF (nl z) = none → ∀ (p : Addr) (H' : Hp) (hs ss : List Pr) (li : List Int) (lo hi : Int), H p = none → Same H H' → Told5 (nl z) hs ss li lo hi → LivesAt K C H' p hs ss li lo hi → Q (.ref p) H')) ∨
    (NoStr K H v ∧ ∀ (t : Addr) (H' : Hp), Same H H' → dif H H' t = some (.tup [.str "BadText", .str "BadText", .str "lives", .int 0, .str "form"]) → Q (.ref t) H'))
def tSuT (K : PySem.W.Frag) : Sui := fun a oe _ _ => tRet (tTup (tCons (tC (.str "BadText")) (tCons (tXs K a oe "code" (tVar 1)) (tCons (tXs K a oe "what" (tVar 1)) (tCons (tXs K a oe "line" (tVar 1)) (tCons (tXs K a oe "why" (tVar 1)) tNil))))))
theorem flB {n : Int} {y : Str} : (flds ["what", "line", "why"] "BadText" [.str "lives", .int n, .str y]).lookup ("code" : Str) = some (.str "BadText") ∧ (flds ["what", "line", "why"] "BadText" [.str "lives", .int n, .str y]).lookup ("what" : Str) = some (.str "lives") ∧
    (flds ["what", "line", "why"] "BadText" [.str "lives", .int n, .str y]).lookup ("line" : Str) = some (.int n) ∧ (flds ["what", "line", "why"] "BadText" [.str "lives", .int n, .str y]).lookup ("why" : Str) = some (.str y) := by
  have e : flds ["what", "line", "why"] "BadText" [.str "lives", .int n, .str y] = ([("code", .str "BadText"), ("why", .str y), ("line", .int n), ("what", .str "lives")] : List (Str × V)) := rfl
  rw [e]
  refine ⟨lk_hit, ?_, ?_, ?_⟩
  · rw [lk_miss (f := "what") (g := "code") (by decide +kernel), lk_miss (f := "what") (g := "why") (by decide +kernel), lk_miss (f := "what") (g := "line") (by decide +kernel), lk_hit]
  · rw [lk_miss (f := "line") (g := "code") (by decide +kernel), lk_miss (f := "line") (g := "why") (by decide +kernel), lk_hit]
  · rw [lk_miss (f := "why") (g := "code") (by decide +kernel), lk_hit]
section
variable {P : Program} {w : World} {K : PySem.W.Frag} {mg : Str → Option Value} {base : Heap}
theorem suT_do {c : CA} {mg : Str → Option Value} (D : Xs K mg c) {Dn : Ends} {H : Hp} {u : Option V} {n : Int} {y : Str} {a d : Addr} {oe : Obj} {cls : Value} (zc : Zc (.ref c.B) (some d) oe) (hf : ∃ vs, oe.data = .fields vs) (hd : H d = some (.xd (flds ["what", "line", "why"] "BadText" [.str "lives", .int n, .str y])))
    (k : ∀ t, H t = none → Dn.rt (.ref t) (upd H t (.tup [.str "BadText", .str "BadText", .str "lives", .int n, .str y]))) : tSuT K a oe cls (some d) Dn [u, some (.ref a)] H := by
  have l := flB (n := n) (y := y)
  exact ⟨_, rfl, c.B, d, _, _, _, _, rfl, zc.1, zc.2, hf, D.b.T, D.b.no, hd, l.1, _, rfl, c.B, d, _, _, _, _, rfl, zc.1, zc.2, hf, D.b.T, D.b.no, hd, l.2.1, _, rfl, c.B, d, _, _, _, _, rfl, zc.1, zc.2, hf, D.b.T, D.b.no, hd, l.2.2.1, _, rfl, c.B, d, _, _, _, _, rfl, zc.1, zc.2, hf, D.b.T, D.b.no, hd, l.2.2.2, (by show 5 ≤ sizeLine; decide), k⟩
theorem ok_readT {f fR C : Addr} {fd fdR : FuncData} {c : CA} (F : Fun K "_law_read" "_law_read" sReadT f fd) (D : Xs K mg c) (S : Es K c) (gC : mg "Lives" = some (.ref C)) (St : Stat K C "read" fR) (bR : Binds K fdR ["text"] []) (G_read : FnOk P w K mg base (L2.CX P w) 6 fR fdR ["text"] (spReadL K c C)) : FnOk P w K mg base CX0 7 f fd ["words"] (spReadT K c C) := by
  refine F.ok scReadT (fun vs H Q E h => ?_) (fun cdv A outer s H vs Q E hr h => ?_)
  · obtain ⟨v, rfl, _⟩ := h
    rfl
  · obtain ⟨v, rfl, k⟩ := h
    apply Exists.intro
    apply And.intro
    · apply pss_one
      apply ps_try_all (l := [(.ref c.B, 1, tSuT K)]) (Wo := fun _ _ _ _ => False)
      case hb =>
        intro W pn xe tk _
        apply pss_one
        apply ps_ret
        exact (pe_stat St G_read (hr.mono (by decide)) bR (fun σ => passAt tk σ) (pe_glob (v := .ref C) rfl gC rfl) (pa_cons (pv 0) pa_nil))
      case hs => rfl
      case hf => rfl
      case hN => exact scReadT.nd
      case tk => exact takes0
      · refine .cons ?_ ?_ ?_ ?_ .nil
        · exact ⟨rfl, by decide, .inl D.b.g⟩
        · rfl
        · rfl
        · exact fun a oe cls d pn hz hf hba => pss_one (ps_ret (pe_tup (pa_cons pe_str (pa_cons (pe_xs (pv 1)) (pa_cons (pe_xs (pv 1)) (pa_cons (pe_xs (pv 1)) (pa_cons (pe_xs (pv 1)) pa_nil)))))))
    refine ⟨rfl, _, rfl, v, rfl, ?_⟩
    have cat : ∀ (n : Int) (y : Str), (∀ (t : Addr) (H' : Hp), Same H H' → dif H H' t = some (.tup [.str "BadText", .str "BadText", .str "lives", .int n, .str y]) → Q (.ref t) H') → BadE c H (WE (wAll K (fun _ _ _ _ => False) { nx := fun _ H' => Q .non H', rt := Q } [(.ref c.B, 1, tSuT K)]) (L2.start NreadT [v])) n y := fun n y kt d H' h1 h2 h3 =>
      ⟨_, S.b, fun _ a oe ha zc hf => suT_do (n := n) (y := y) D zc hf h3 fun t ht => kt t _ (Same.trans h2 (same_new ht)) (dif_of (sN h2 ht) upd_same), fun e => absurd e (by decide)⟩
    rcases k with ⟨z, rfl, hz, kF, kN⟩ | ⟨ns, k⟩
    · exact .inl ⟨z, rfl, hz, fun n y hn => cat n y (kF n y hn), fun hn p H' hs ss li lo hi h1 h2 h3 h4 => kN hn p H' hs ss li lo hi h1 h2 h3 h4⟩
    · exact .inr ⟨ns, cat 0 "form" k⟩
end
end Lw
namespace Lw
open PySem PySem.Spec PyProof.Rows L2 XV TL XM
abbrev sMadeT : Stmt := topOf "_law_made"
abbrev NmadeT : List Str := ["five", "e"]
theorem scMadeT : FnScope NmadeT ["five"] (defScope sMadeT) := ⟨rfl, rfl, rfl, by decide +kernel, rfl, by decide +kernel, by decide +kernel⟩
def ValE (H : Hp) (Q : VK) (y : Str) : Prop := ∀ (t : Addr) (H' : Hp), Same H H' → dif H H' t = some (.tup [.str "BadValue", .str "BadValue", .str y]) → Q (.ref t) H'
def spMadeT (K : PySem.W.Frag) (C : Addr) : Sp := fun vs H Q _ => ∃ (q a b l : Addr) (ps qs : List Pr) (ls : List Int) (lo hi : Int), vs = [.ref q] ∧ SqL K H q [.ref a, .ref b, .ref l, .int lo, .int hi] ∧ PairsAt K H a ps ∧ PairsAt K H b qs ∧ SqL K H l (ls.map V.int) ∧ ps.length ≤ 100000 ∧ qs.length ≤ 100000 ∧
  (ps.any wrongP = true → ValE H Q "hollows") ∧ (ps.any wrongP = false → qs.any wrongP = true → ValE H Q "summits") ∧
  (ps.any wrongP = false → qs.any wrongP = false → ∀ (p : Addr) (H' : Hp) (hs ss : List Pr) (li : List Int), H p = none → Same H H' → SortP ps hs → SortP qs ss → SortI ls li → LivesAt K C H' p hs ss li lo hi → Q (.ref p) H')
def tSuV (K : PySem.W.Frag) : Sui := fun a oe _ _ => tRet (tTup (tCons (tC (.str "BadValue")) (tCons (tXs K a oe "code" (tVar 1)) (tCons (tXs K a oe "what" (tVar 1)) tNil))))
theorem flV {y : Str} : (flds ["what"] "BadValue" [.str y]).lookup ("code" : Str) = some (.str "BadValue") ∧ (flds ["what"] "BadValue" [.str y]).lookup ("what" : Str) = some (.str y) := by
  have e : flds ["what"] "BadValue" [.str y] = ([("code", .str "BadValue"), ("what", .str y)] : List (Str × V)) := rfl
  rw [e]
  refine ⟨lk_hit, ?_⟩
  rw [lk_miss (f := "what") (g := "code") (by decide +kernel), lk_hit]
section
variable {P : Program} {w : World} {K : PySem.W.Frag} {mg : Str → Option Value} {base : Heap}
theorem suV_do {c : CA} {mg : Str → Option Value} (D : Xs K mg c) {Dn : Ends} {H : Hp} {u : Option V} {y : Str} {a d : Addr} {oe : Obj} {cls : Value} (zc : Zc (.ref c.V) (some d) oe) (hf : ∃ vs, oe.data = .fields vs) (hd : H d = some (.xd (flds ["what"] "BadValue" [.str y])))
    (k : ∀ t, H t = none → Dn.rt (.ref t) (upd H t (.tup [.str "BadValue", .str "BadValue", .str y]))) : tSuV K a oe cls (some d) Dn [u, some (.ref a)] H := by
  have l := flV (y := y)
  exact ⟨_, rfl, c.V, d, _, _, _, _, rfl, zc.1, zc.2, hf, D.v.T, D.v.no, hd, l.1, _, rfl, c.V, d, _, _, _, _, rfl, zc.1, zc.2, hf, D.v.T, D.v.no, hd, l.2, (by show 3 ≤ sizeLine; decide), k⟩
theorem ok_madeT {f fI C : Addr} {fd fdI : FuncData} {c : CA} (F : Fun K "_law_made" "_law_made" sMadeT f fd) (D : Xs K mg c) (S : Es K c) (gC : mg "Lives" = some (.ref C)) (M : Mk K C fI) (bI : Binds K fdI ["self", "hollows", "summits", "loose", "lowest", "highest"] [])
    (G_init : FnOk P w K mg base (L2.CX P w) 4 fI fdI ["self", "hollows", "summits", "loose", "lowest", "highest"] (spInitL K c C)) : FnOk P w K mg base CX0 6 f fd ["five"] (spMadeT K C) := by
  refine F.ok scMadeT (fun vs H Q E h => ?_) (fun cdv A outer s H vs Q E hr h => ?_)
  · obtain ⟨q, a, b, l, ps, qs, ls, lo, hi, rfl, _⟩ := h
    rfl
  · obtain ⟨q, a, b, l, ps, qs, ls, lo, hi, rfl, hq, hA, hB, hL, lA, lB, k1, k2, k3⟩ := h
    apply Exists.intro
    apply And.intro
    · apply pss_one
      apply ps_try_all (l := [(.ref c.V, 1, tSuV K)]) (Wo := fun _ _ _ _ => False) (tb := fun W => tRet (tMkS C (spInitL K c C) (fun σ => WE W σ) (tCons (tOp (rIxL K) (tVar 0) (tC (.int 0))) (tCons (tOp (rIxL K) (tVar 0) (tC (.int 1))) (tCons (tOp (rIxL K) (tVar 0) (tC (.int 2))) (tCons (tOp (rIxL K) (tVar 0) (tC (.int 3))) (tCons (tOp (rIxL K) (tVar 0) (tC (.int 4))) tNil)))))))
      case hb =>
        intro W pn xe tk _
        apply pss_one
        apply ps_ret
        exact (pe_mkS M G_init (hr.mono (by decide)) bI (fun σ => passAt tk σ) gC (pa_cons (pe_ix ix_list (pv 0) (pe_int) (fun _ _ => rfl)) (pa_cons (pe_ix ix_list (pv 0) (pe_int) (fun _ _ => rfl)) (pa_cons (pe_ix ix_list (pv 0) (pe_int) (fun _ _ => rfl)) (pa_cons (pe_ix ix_list (pv 0) (pe_int) (fun _ _ => rfl)) (pa_cons (pe_ix ix_list (pv 0) (pe_int) (fun _ _ => rfl)) pa_nil))))))
      case hs => rfl
      case hf => rfl
      case hN => exact scMadeT.nd
      case tk => exact takes0
      · refine .cons ?_ ?_ ?_ ?_ .nil
        · exact ⟨rfl, by decide, .inl D.v.g⟩
        · rfl
        · rfl
        · exact fun a oe cls d pn hz hf hba => pss_one (ps_ret (pe_tup (pa_cons pe_str (pa_cons (pe_xs (pv 1)) (pa_cons (pe_xs (pv 1)) pa_nil)))))
    refine ⟨_, rfl, q, _, 0, .ref a, rfl, rfl, hq, rfl, _, rfl, q, _, 1, .ref b, rfl, rfl, hq, rfl, _, rfl, q, _, 2, .ref l, rfl, rfl, hq, rfl, _, rfl, q, _, 3, .int lo, rfl, rfl, hq, rfl, _, rfl, q, _, 4, .int hi, rfl, rfl, hq, rfl, fun x dx hx hdx hne => ?_⟩
    have s2 := Same.trans (same_new (o := .own x) hdx) (same_new (p := x) (o := .ins C dx []) (by rw [upd_ne hne.symm]; exact hx))
    have cat : ∀ (y : Str), ValE H Q y → BadVE c (upd (upd H dx (.own x)) x (.ins C dx [])) (WE (wAll K (fun _ _ _ _ => False) { nx := fun _ H' => Q .non H', rt := Q } [(.ref c.V, 1, tSuV K)]) (L2.start NmadeT [.ref q])) y := fun y kt d H' h1 h2 h3 =>
      ⟨_, S.v, fun _ a oe ha zc hf => suV_do (y := y) D zc hf h3 fun t ht => kt t _ (Same.trans s2 (Same.trans h2 (same_new ht))) (dif_of (sN s2 (sN h2 ht)) upd_same), fun e => absurd e (by decide)⟩
    refine ⟨x, dx, a, b, l, ps, qs, ls, lo, hi, rfl, upd_same, hA.mono s2, hB.mono s2, s2.seq hL, lA, lB, fun w => cat _ (k1 w), fun n w => cat _ (k2 n w), fun n1 n2 H3 hs ss li so1 so2 so3 lv o3 => ⟨rfl, ?_⟩⟩
    exact k3 n1 n2 x H3 hs ss li hx (fun b o hb => o3 b o (ne_of_none hb hx) (s2 _ _ hb)) so1 so2 so3 lv
end
end Lw
namespace Lw
open PySem PySem.Spec PyProof.Rows L2 XV TL XM
def sI (i : Int) : Str := Str.ofString (toString i)
def Sml (i : Int) : Prop := i.natAbs < 10 ^ 10
theorem sI_len {i : Int} (h : Sml i) : (sI i).length ≤ 11 := by
  have h1 : (toString i).length ≤ 10 + 1 := int_text_length_le10 (by decide) h
  rw [sI, len_tl, tl_ofString, List.length_map]
  first
  | exact h1
  | (rw [String.length_toList]; exact h1)
  | (rw [← String.length] ; exact h1)
theorem sml_log {i : Int} (h : Sml i) : i.natAbs.log2 < 1920 := by
  have : i.natAbs < 2 ^ 40 := Nat.lt_of_lt_of_le h (by decide)
  have h2 : i.natAbs.log2 < 40 ∨ i.natAbs = 0 := by
    by_cases h0 : i.natAbs = 0
    · exact .inr h0
    · exact .inl ((Nat.log2_lt h0).mpr this)
  rcases h2 with h2 | h2
  · omega
  · rw [h2]
    decide
theorem len_add (i j : Str) : (i ++ j).length = i.length + j.length := Array.size_append
theorem nil_add (i : Str) : Str.empty ++ i = i := ext_tl (by rw [tl_append]; rfl)
def sPr (p : Pr) : Str := sI p.1 ++ ".." ++ sI p.2
def SmlP (p : Pr) : Prop := Sml p.1 ∧ Sml p.2
theorem sPr_len {p : Pr} (h : SmlP p) : (sPr p).length ≤ 24 := by
  have h1 := sI_len h.1
  have h2 := sI_len h.2
  have h3 : ("..": Str).length = 2 := by decide +kernel
  rw [sPr, len_add, len_add]
  omega
def wSp (w : Str) (ps : List Pr) : Str := Txt.join " " (w :: ps.map sPr)
def wHe (w : Str) (ns : List Int) : Str := Txt.join " " (w :: ns.map sI)
theorem join_len (y : Str) (ys : List Str) : (Txt.join y ys).length ≤ (ys.map (·.length)).sum + ys.length * y.length := by
  have e : (Txt.join y ys).length = _ := PySem.size_glued y ys
  rw [e]
  exact Nat.add_le_add_left (Nat.mul_le_mul_right _ (Nat.sub_le _ _)) _
theorem sum_le {n : Nat} : ∀ {ys : List Str}, (∀ y ∈ ys, y.length ≤ n) → (ys.map (·.length)).sum ≤ ys.length * n
  | [], _ => Nat.zero_le _
  | y :: ys, h => by
    have h1 := h y (List.mem_cons_self ..)
    have h2 := sum_le (n := n) fun z hz => h z (List.mem_cons_of_mem _ hz)
    rw [List.map_cons, List.sum_cons, List.length_cons, Nat.succ_mul]
    omega
theorem joined_len {n : Nat} {y : Str} {ys : List Str} (h : ∀ z ∈ ys, z.length ≤ n) (hy : y.length = 1) : (Txt.join y ys).length ≤ ys.length * (n + 1) := by
  have h1 := join_len y ys
  have h2 := sum_le h
  rw [hy, Nat.mul_one] at h1
  rw [Nat.mul_succ]
  omega
theorem sp1 : (" " : Str).length = 1 := by decide +kernel
theorem nl1 : ("\n" : Str).length = 1 := by decide +kernel
theorem wSp_len {w : Str} {ps : List Pr} (hw : w.length ≤ 24) (h : ∀ p ∈ ps, SmlP p) : (wSp w ps).length ≤ (ps.length + 1) * 25 := by
  have := joined_len (n := 24) (y := " ") (ys := w :: ps.map sPr) (fun z hz => by
    rcases List.mem_cons.mp hz with rfl | hz
    · exact hw
    · obtain ⟨p, hp, rfl⟩ := List.mem_map.mp hz
      exact sPr_len (h p hp)) sp1
  rw [List.length_cons, List.length_map] at this
  exact this
theorem wHe_len {w : Str} {ns : List Int} (hw : w.length ≤ 24) (h : ∀ p ∈ ns, Sml p) : (wHe w ns).length ≤ (ns.length + 1) * 25 := by
  have := joined_len (n := 24) (y := " ") (ys := w :: ns.map sI) (fun z hz => by
    rcases List.mem_cons.mp hz with rfl | hz
    · exact hw
    · obtain ⟨p, hp, rfl⟩ := List.mem_map.mp hz
      exact Nat.le_trans (sI_len (h p hp)) (by decide)) sp1
  rw [List.length_cons, List.length_map] at this
  exact this
/-- whole numbers, in a list or a tuple -/
def IntsAt (K : PySem.W.Frag) (M : Hp) (a : Addr) (ns : List Int) : Prop := SqL K M a (ns.map V.int) ∨ SqT K M a (ns.map V.int)
theorem int_at {ns : List Int} {i : Nat} {y : V} (h : (ns.map V.int)[i]? = some y) : ∃ n, y = .int n ∧ ns[i]? = some n := by
  rw [List.getElem?_map] at h
  cases e : ns[i]? with
  | none => rw [e] at h; cases h
  | some q => rw [e] at h; exact ⟨q, (Option.some.inj h).symm, rfl⟩
abbrev sWS : Stmt := topOf "written_spans"
abbrev NWS : List Str := ["word", "pairs", "low", "high"]
theorem scWS : FnScope NWS ["word", "pairs"] (defScope sWS) := ⟨rfl, rfl, rfl, by decide +kernel, rfl, by decide +kernel, by decide +kernel⟩
def spWS (K : PySem.W.Frag) : Sp := fun vs H Q _ => ∃ (z : Str) (a : Addr) (ps : List Pr), vs = [.str z, .ref a] ∧ z.length ≤ 24 ∧ PairsAt K H a ps ∧ ps.length ≤ 100 ∧ (∀ p ∈ ps, SmlP p) ∧ ∀ H', Same H H' → Q (.str (wSp z ps)) H'
abbrev sWH : Stmt := topOf "written_heights"
abbrev NWH : List Str := ["word", "heights", "height"]
theorem scWH : FnScope NWH ["word", "heights"] (defScope sWH) := ⟨rfl, rfl, rfl, by decide +kernel, rfl, by decide +kernel, by decide +kernel⟩
def spWH (K : PySem.W.Frag) : Sp := fun vs H Q _ => ∃ (z : Str) (a : Addr) (ns : List Int), vs = [.str z, .ref a] ∧ z.length ≤ 24 ∧ IntsAt K H a ns ∧ ns.length ≤ 100 ∧ (∀ p ∈ ns, Sml p) ∧ ∀ H', Same H H' → Q (.str (wHe z ns)) H'
section
variable {P : Program} {w : World} {K : PySem.W.Frag} {mg : Str → Option Value} {base : Heap}
theorem ok_WS {f : Addr} {fd : FuncData} (F : Fun K "written_spans" "written_spans" sWS f fd) (T : Bt mg) : FnOk P w K mg base CX0 1 f fd ["word", "pairs"] (spWS K) := by
  refine F.ok scWS (fun vs H Q E h => ?_) (fun cdv A outer s H vs Q E hr h => ?_)
  · obtain ⟨z, a, ps, rfl, _⟩ := h
    rfl
  · obtain ⟨z, a, ps, rfl, hz, hA, hl, hs, k⟩ := h
    obtain ⟨xs, ha, hx⟩ := hA
    have hsum : ((z :: ps.map sPr).map (·.length)).sum + (z :: ps.map sPr).length * (" " : Str).length ≤ 16777216 := by
      have := sum_le (n := 24) (ys := z :: ps.map sPr) (fun y hy => by
        rcases List.mem_cons.mp hy with rfl | hy
        · exact hz
        · obtain ⟨p, hp, rfl⟩ := List.mem_map.mp hy
          exact sPr_len (hs p hp))
      rw [sp1]
      rw [List.length_cons, List.length_map] at *
      omega
    refine ⟨_, pss_one (ps_ret (pe_join (pe_str) (pe_op op_cat (pe_lst (pa_cons (pv 0) pa_nil)) (pe_lc (own := [("low", 2), ("high", 3)]) (g := gTup K 2 (gCons (gName 2) (gCons (gName 3) gNil))) (tt := tYes) rfl scWS.nd (pi_either (pv 1)) (blkOk_by (N := NWS) (sc := defScope sWS) (by decide +kernel)) (fun _ _ _ _ _ => pg_tup rfl (pgs_cons (pg_name (i := 2) scWS.nd rfl (Or.inl rfl)) (pgs_cons (pg_name (i := 3) scWS.nd rfl (Or.inl rfl)) (pgs_nil)))) (fun _ _ _ _ _ => pts_nil) (fun _ _ _ _ _ => pe_joined (.cons (pe_fmt (pv 2)) (.cons pe_str (.cons (pe_fmt (pv 3)) .nil)))))))), ?_⟩
    refine ⟨⟨_, rfl⟩, _, rfl, (by show 1 ≤ sizeLine; decide), fun p1 hp1 => ?_⟩
    have s1 := same_new (o := .lst [.str z]) hp1
    have e1 : upd H p1 (.lst [.str z]) p1 = some (.lst [.str z]) := upd_same
    generalize upd H p1 (.lst [.str z]) = H1 at s1 e1 ⊢
    rcases ha with ha | ha
    · have ha1 := Same.seq s1 ha
      refine .inl ⟨_, rfl, a, rfl, ⟨_, ha1⟩, fun D hD => lc_list (K := K) (a := a) (xs := xs) (g := gTup K 2 (gCons (gName 2) (gCons (gName 3) gNil))) (tt := tYes) (vs := [2, 3]) (σ := L2.start NWS [.str z, .ref a]) (te := fun σ H Q => tJs [tFmt (tVar 2), tC (.str ".."), tFmt (tVar 3)] Str.empty σ H fun out H1 => Q (.str out) H1) (fun i H2 => Same H1 H2 ∧ H2 D = some (.lst (((ps.take i).map sPr).map V.str))) ⟨same_new hD, upd_same⟩ (fun i H2 _ h => Same.seq h.1 ha1) ?_ ?_⟩
      · rintro i x H2 hxi ⟨s2, e2⟩
        obtain ⟨t, p, hp, rfl, ht⟩ := hx.2 i x hxi
        have sp := hs p (List.mem_of_getElem? hp)
        have hil := (List.getElem?_eq_some_iff.mp hp).1
        have l1 := sI_len sp.1
        have l2 := sI_len sp.2
        have l3 := sPr_len sp
        have l4 : ("..": Str).length = 2 := by decide +kernel
        refine ⟨t, _, rfl, sqT_mono (Same.trans s1 s2) ht, rfl, _, _, rfl, _, _, rfl, rfl, rfl, _, rfl, .inr ⟨p.1, rfl, sml_log sp.1, sI p.1, rfl, by rw [len_add, sizeLine_eq]; show 0 + _ ≤ _; omega, "..", rfl, by rw [len_add, len_add, sizeLine_eq]; show 0 + _ + _ ≤ _; omega, _, rfl, .inr ⟨p.2, rfl, sml_log sp.2, sI p.2, rfl, by rw [len_add, len_add, len_add, sizeLine_eq]; show 0 + _ + _ + _ ≤ _; omega, ?_⟩⟩⟩
        refine ⟨_, e2, by rw [List.length_map, List.length_map, sizeLine_eq]; have := List.length_take_le' i ps; omega, fun b o h => ?_, ?_⟩
        · rw [upd_ne (ne_of_none h hD)]
          exact s2 _ _ h
        · rw [upd_same, List.take_add_one, hp, List.map_append, List.map_append, nil_add]
          rfl
      · rintro H2 ⟨s2, e2⟩
        rw [hx.1, List.take_length] at e2
        refine ⟨p1, D, _, _, rfl, rfl, s2 _ _ e1, e2, by rw [List.length_map, List.length_map, sizeLine_eq]; show 1 + _ ≤ _; omega, fun q hq => ?_⟩
        exact ⟨" ", q, z :: ps.map sPr, rfl, rfl, .inl (SqL.of upd_same), hsum, k _ (Same.trans s1 (Same.trans s2 (same_new hq)))⟩
    · have ha1 := sqT_mono s1 ha
      refine .inr ⟨_, rfl, a, rfl, ⟨_, ha1⟩, fun D hD => lc_tup (K := K) (a := a) (xs := xs) (g := gTup K 2 (gCons (gName 2) (gCons (gName 3) gNil))) (tt := tYes) (vs := [2, 3]) (σ := L2.start NWS [.str z, .ref a]) (te := fun σ H Q => tJs [tFmt (tVar 2), tC (.str ".."), tFmt (tVar 3)] Str.empty σ H fun out H1 => Q (.str out) H1) (fun i H2 => Same H1 H2 ∧ H2 D = some (.lst (((ps.take i).map sPr).map V.str))) ⟨same_new hD, upd_same⟩ (fun i H2 _ h => sqT_mono h.1 ha1) ?_ ?_⟩
      · rintro i x H2 hxi ⟨s2, e2⟩
        obtain ⟨t, p, hp, rfl, ht⟩ := hx.2 i x hxi
        have sp := hs p (List.mem_of_getElem? hp)
        have hil := (List.getElem?_eq_some_iff.mp hp).1
        have l1 := sI_len sp.1
        have l2 := sI_len sp.2
        have l3 := sPr_len sp
        have l4 : ("..": Str).length = 2 := by decide +kernel
        refine ⟨t, _, rfl, sqT_mono (Same.trans s1 s2) ht, rfl, _, _, rfl, _, _, rfl, rfl, rfl, _, rfl, .inr ⟨p.1, rfl, sml_log sp.1, sI p.1, rfl, by rw [len_add, sizeLine_eq]; show 0 + _ ≤ _; omega, "..", rfl, by rw [len_add, len_add, sizeLine_eq]; show 0 + _ + _ ≤ _; omega, _, rfl, .inr ⟨p.2, rfl, sml_log sp.2, sI p.2, rfl, by rw [len_add, len_add, len_add, sizeLine_eq]; show 0 + _ + _ + _ ≤ _; omega, ?_⟩⟩⟩
        refine ⟨_, e2, by rw [List.length_map, List.length_map, sizeLine_eq]; have := List.length_take_le' i ps; omega, fun b o h => ?_, ?_⟩
        · rw [upd_ne (ne_of_none h hD)]
          exact s2 _ _ h
        · rw [upd_same, List.take_add_one, hp, List.map_append, List.map_append, nil_add]
          rfl
      · rintro H2 ⟨s2, e2⟩
        rw [hx.1, List.take_length] at e2
        refine ⟨p1, D, _, _, rfl, rfl, s2 _ _ e1, e2, by rw [List.length_map, List.length_map, sizeLine_eq]; show 1 + _ ≤ _; omega, fun q hq => ?_⟩
        exact ⟨" ", q, z :: ps.map sPr, rfl, rfl, .inl (SqL.of upd_same), hsum, k _ (Same.trans s1 (Same.trans s2 (same_new hq)))⟩
end
end Lw
namespace Lw
open PySem PySem.Spec PyProof.Rows L2 XV TL XM
theorem sum_he {z : Str} {ns : List Int} (hz : z.length ≤ 24) (hl : ns.length ≤ 100) (hs : ∀ p ∈ ns, Sml p) : ((z :: ns.map sI).map (·.length)).sum + (z :: ns.map sI).length * (" " : Str).length ≤ 16777216 := by
  have := sum_le (n := 24) (ys := z :: ns.map sI) (fun y hy => by
    rcases List.mem_cons.mp hy with rfl | hy
    · exact hz
    · obtain ⟨p, hp, rfl⟩ := List.mem_map.mp hy
      exact Nat.le_trans (sI_len (hs p hp)) (by decide))
  rw [sp1]
  rw [List.length_cons, List.length_map] at *
  omega
theorem sum_sp {z : Str} {ps : List Pr} (hz : z.length ≤ 24) (hl : ps.length ≤ 100) (hs : ∀ p ∈ ps, SmlP p) : ((z :: ps.map sPr).map (·.length)).sum + (z :: ps.map sPr).length * (" " : Str).length ≤ 16777216 := by
  have := sum_le (n := 24) (ys := z :: ps.map sPr) (fun y hy => by
    rcases List.mem_cons.mp hy with rfl | hy
    · exact hz
    · obtain ⟨p, hp, rfl⟩ := List.mem_map.mp hy
      exact sPr_len (hs p hp))
  rw [sp1]
  rw [List.length_cons, List.length_map] at *
  omega
section
variable {P : Program} {w : World} {K : PySem.W.Frag} {mg : Str → Option Value} {base : Heap}
theorem ok_WH {f : Addr} {fd : FuncData} (F : Fun K "written_heights" "written_heights" sWH f fd) (T : Bt mg) : FnOk P w K mg base CX0 1 f fd ["word", "heights"] (spWH K) := by
  refine F.ok scWH (fun vs H Q E h => ?_) (fun cdv A outer s H vs Q E hr h => ?_)
  · obtain ⟨z, a, ns, rfl, _⟩ := h
    rfl
  · obtain ⟨z, a, ns, rfl, hz, ha, hl, hs, k⟩ := h
    have hsum := sum_he hz hl hs
    refine ⟨_, pss_one (ps_ret (pe_join (pe_str) (pe_op op_cat (pe_lst (pa_cons (pv 0) pa_nil)) (pe_lc (own := [("height", 2)]) (g := gName 2) (tt := tYes) rfl scWH.nd (pi_either (pv 1)) (blkOk_by (N := NWH) (sc := defScope sWH) (by decide +kernel)) (fun _ _ _ _ _ => pg_name (i := 2) scWH.nd rfl (Or.inl rfl)) (fun _ _ _ _ _ => pts_nil) (fun _ _ _ _ _ => pe_callTy call_str_int (by rfl) T.str (by decide +kernel) (pa_cons (pv 2) pa_nil)))))), ?_⟩
    refine ⟨⟨_, rfl⟩, _, rfl, (by show 1 ≤ sizeLine; decide), fun p1 hp1 => ?_⟩
    have s1 := same_new (o := .lst [.str z]) hp1
    have e1 : upd H p1 (.lst [.str z]) p1 = some (.lst [.str z]) := upd_same
    generalize upd H p1 (.lst [.str z]) = H1 at s1 e1 ⊢
    rcases ha with ha | ha
    · have ha1 := Same.seq s1 ha
      refine .inl ⟨_, rfl, a, rfl, ⟨_, ha1⟩, fun D hD => lc_list (K := K) (a := a) (xs := ns.map V.int) (fun i H2 => Same H1 H2 ∧ H2 D = some (.lst (((ns.take i).map sI).map V.str))) ⟨same_new hD, upd_same⟩ (fun i H2 _ h => Same.seq h.1 ha1) ?_ ?_⟩
      · rintro i x H2 hxi ⟨s2, e2⟩
        obtain ⟨n, rfl, hn⟩ := int_at hxi
        have sn := hs n (List.mem_of_getElem? hn)
        refine ⟨rfl, _, rfl, n, rfl, sml_log sn, _, e2, by rw [List.length_map, List.length_map, sizeLine_eq]; have := List.length_take_le' i ns; omega, fun b o h => ?_, ?_⟩
        · rw [upd_ne (ne_of_none h hD)]
          exact s2 _ _ h
        · rw [upd_same, List.take_add_one, hn, List.map_append, List.map_append]
          rfl
      · rintro H2 ⟨s2, e2⟩
        rw [List.length_map, List.take_length] at e2
        refine ⟨p1, D, _, _, rfl, rfl, s2 _ _ e1, e2, by rw [List.length_map, List.length_map, sizeLine_eq]; show 1 + _ ≤ _; omega, fun q hq => ?_⟩
        exact ⟨" ", q, z :: ns.map sI, rfl, rfl, .inl (SqL.of upd_same), hsum, k _ (Same.trans s1 (Same.trans s2 (same_new hq)))⟩
    · have ha1 := sqT_mono s1 ha
      refine .inr ⟨_, rfl, a, rfl, ⟨_, ha1⟩, fun D hD => lc_tup (K := K) (a := a) (xs := ns.map V.int) (fun i H2 => Same H1 H2 ∧ H2 D = some (.lst (((ns.take i).map sI).map V.str))) ⟨same_new hD, upd_same⟩ (fun i H2 _ h => sqT_mono h.1 ha1) ?_ ?_⟩
      · rintro i x H2 hxi ⟨s2, e2⟩
        obtain ⟨n, rfl, hn⟩ := int_at hxi
        have sn := hs n (List.mem_of_getElem? hn)
        refine ⟨rfl, _, rfl, n, rfl, sml_log sn, _, e2, by rw [List.length_map, List.length_map, sizeLine_eq]; have := List.length_take_le' i ns; omega, fun b o h => ?_, ?_⟩
        · rw [upd_ne (ne_of_none h hD)]
          exact s2 _ _ h
        · rw [upd_same, List.take_add_one, hn, List.map_append, List.map_append]
          rfl
      · rintro H2 ⟨s2, e2⟩
        rw [List.length_map, List.take_length] at e2
        refine ⟨p1, D, _, _, rfl, rfl, s2 _ _ e1, e2, by rw [List.length_map, List.length_map, sizeLine_eq]; show 1 + _ ≤ _; omega, fun q hq => ?_⟩
        exact ⟨" ", q, z :: ns.map sI, rfl, rfl, .inl (SqL.of upd_same), hsum, k _ (Same.trans s1 (Same.trans s2 (same_new hq)))⟩
/-- the text of lives -/
def lvL (hs ss : List Pr) (ls : List Int) (lo hi : Int) : List Str := ["lives", wSp "hollows" hs, wSp "summits" ss, wHe "loose" ls, "lowest " ++ sI lo, "highest " ++ sI hi, "done"]
def lvT (hs ss : List Pr) (ls : List Int) (lo hi : Int) : Str := Txt.join "\n" (lvL hs ss ls lo hi ++ [("" : Str)])
theorem joinL_snoc (S : List Nat) : ∀ (a : List Nat) (ps : List (List Nat)), joinL S (a :: ps ++ [[]]) = joinL S (a :: ps) ++ S
  | a, [] => by
    show a ++ (S ++ []) = a ++ S
    rw [List.append_nil]
  | a, b :: ps => by
    show a ++ (S ++ joinL S (b :: ps ++ [[]])) = (a ++ (S ++ joinL S (b :: ps))) ++ S
    rw [joinL_snoc S b ps, List.append_assoc, List.append_assoc]
theorem lvT_eq (hs ss : List Pr) (ls : List Int) (lo hi : Int) : lvT hs ss ls lo hi = Txt.join "\n" (lvL hs ss ls lo hi) ++ "\n" := by
  refine ext_tl ?_
  rw [lvT, join_eq, join_eq, tl_append, tl_join, tl_join, List.map_append]
  exact joinL_snoc _ _ _
structure SmlL (hs ss : List Pr) (ls : List Int) (lo hi : Int) : Prop where
  h : ∀ p ∈ hs, SmlP p
  s : ∀ p ∈ ss, SmlP p
  l : ∀ n ∈ ls, Sml n
  lo : Sml lo
  hi : Sml hi
  nh : hs.length ≤ 100
  ns : ss.length ≤ 100
  nl : ls.length ≤ 100
theorem lvL_len {hs ss : List Pr} {ls : List Int} {lo hi : Int} (S : SmlL hs ss ls lo hi) : ∀ y ∈ lvL hs ss ls lo hi ++ [("" : Str)], y.length ≤ 2600 := by
  have h1 : ("lives" : Str).length ≤ 24 ∧ ("hollows" : Str).length ≤ 24 ∧ ("summits" : Str).length ≤ 24 ∧ ("loose" : Str).length ≤ 24 ∧ ("lowest " : Str).length ≤ 24 ∧ ("highest " : Str).length ≤ 24 ∧ ("done" : Str).length ≤ 24 ∧ ("" : Str).length ≤ 24 := by decide +kernel
  obtain ⟨a1, a2, a3, a4, a5, a6, a7, a8⟩ := h1
  have b1 := wSp_len a2 S.h
  have b2 := wSp_len a3 S.s
  have b3 := wHe_len a4 S.l
  have b4 := sI_len S.lo
  have b5 := sI_len S.hi
  have c1 := S.nh
  have c2 := S.ns
  have c3 := S.nl
  intro y hy
  simp only [lvL, List.cons_append, List.nil_append, List.mem_cons, List.not_mem_nil, or_false] at hy
  rcases hy with rfl | rfl | rfl | rfl | rfl | rfl | rfl | rfl
  · omega
  · omega
  · omega
  · omega
  · rw [len_add]; omega
  · rw [len_add]; omega
  · omega
  · omega
theorem lvT_len {hs ss : List Pr} {ls : List Int} {lo hi : Int} (S : SmlL hs ss ls lo hi) : (lvT hs ss ls lo hi).length ≤ 20808 := by
  have := joined_len (n := 2600) (y := "\n") (lvL_len S) nl1
  exact this
theorem lvT_sum {hs ss : List Pr} {ls : List Int} {lo hi : Int} (S : SmlL hs ss ls lo hi) : ((lvL hs ss ls lo hi ++ [("" : Str)]).map (·.length)).sum + (lvL hs ss ls lo hi ++ [("" : Str)]).length * ("\n" : Str).length ≤ 16777216 := by
  have h := sum_le (lvL_len S)
  rw [nl1]
  have : (lvL hs ss ls lo hi ++ [("" : Str)]).length = 8 := rfl
  omega
end
end Lw
namespace Lw
open PySem PySem.Spec PyProof.Rows L2 XV TL XM
theorem LivesAt.mono {K : PySem.W.Frag} {C : Addr} {M M' : Hp} {p : Addr} {hs ss : List Pr} {ls : List Int} {lo hi : Int} (h : LivesAt K C M p hs ss ls lo hi) (s : Same M M') : LivesAt K C M' p hs ss ls lo hi := by
  obtain ⟨dx, a, b, l, xs, ys, h1, h2, h3, h4, h5, h6⟩ := h.ex
  exact ⟨dx, a, b, l, xs, ys, s _ _ h1, s _ _ h2, s _ _ h3, s _ _ h4, h5.mono s, h6.mono s⟩
abbrev sText : Stmt := inClass (topOf "Lives") 2
abbrev Ntext : List Str := ["self", "lines"]
theorem scText : FnScope Ntext ["self"] (defScope sText) := ⟨rfl, rfl, rfl, by decide +kernel, rfl, by decide +kernel, by decide +kernel⟩
def spText (K : PySem.W.Frag) (C : Addr) : Sp := fun vs H Q _ => ∃ (p : Addr) (hs ss : List Pr) (ls : List Int) (lo hi : Int), vs = [.ref p] ∧ LivesAt K C H p hs ss ls lo hi ∧ SmlL hs ss ls lo hi ∧ ∀ H', Same H H' → Q (.str (lvT hs ss ls lo hi)) H'
abbrev sWords : Stmt := topOf "_law_words"
abbrev Nwords : List Str := ["first", "rest"]
theorem scWords : FnScope Nwords ["first", "rest"] (defScope sWords) := ⟨rfl, rfl, rfl, by decide +kernel, rfl, by decide +kernel, by decide +kernel⟩
def spWords : Sp := fun vs H Q _ => ∃ (z : Str) (a : Addr) (ys : List Str), vs = [.str z, .ref a] ∧ H a = some (.lst (ys.map V.str)) ∧ ((z :: ys).map (·.length)).sum + (z :: ys).length * (" " : Str).length ≤ 16777216 ∧ ys.length ≤ 1000 ∧ ∀ H', Same H H' → Q (.str (Txt.join " " (z :: ys))) H'
section
variable {P : Program} {w : World} {K : PySem.W.Frag} {mg : Str → Option Value} {base : Heap}
theorem ok_text {f fS fH C : Addr} {fd fdS fdH : FuncData} (F : Fun K "text" "Lives.text" sText f fd) (T : Bt mg) (L : LCls K C) (D_ws : Df K mg "written_spans" sWS ["word", "pairs"] fS fdS) (D_wh : Df K mg "written_heights" sWH ["word", "heights"] fH fdH) : FnOk P w K mg base CX0 2 f fd ["self"] (spText K C) := by
  have G_ws : FnOk P w K mg base CX0 1 fS fdS ["word", "pairs"] (spWS K) := ok_WS D_ws.fn T
  have G_wh : FnOk P w K mg base CX0 1 fH fdH ["word", "heights"] (spWH K) := ok_WH D_wh.fn T
  refine F.ok scText (fun vs H Q E h => ?_) (fun cdv A outer s H vs Q E hr h => ?_)
  · obtain ⟨p, hs, ss, ls, lo, hi, rfl, _⟩ := h
    rfl
  · obtain ⟨p, hs, ss, ls, lo, hi, rfl, lv, sm, k⟩ := h
    refine ⟨_, pss_cons (ps_set (i := 1) scText.nd rfl (Or.inl rfl) (pe_lst (pa_cons pe_str (pa_cons (cal D_ws G_ws (hr.mono (by decide)) (pa_cons pe_str (pa_cons (pe_fld (pv 0) rfl) pa_nil))) (pa_cons (cal D_ws G_ws (hr.mono (by decide)) (pa_cons pe_str (pa_cons (pe_fld (pv 0) rfl) pa_nil))) (pa_cons (cal D_wh G_wh (hr.mono (by decide)) (pa_cons pe_str (pa_cons (pe_fld (pv 0) rfl) pa_nil))) (pa_cons (pe_joined (.cons pe_str (.cons (pe_fmt (pe_fld (pv 0) rfl)) .nil))) (pa_cons (pe_joined (.cons pe_str (.cons (pe_fmt (pe_fld (pv 0) rfl)) .nil))) (pa_cons pe_str (pa_cons pe_str pa_nil))))))))))
 (pss_one (ps_ret (pe_join pe_str (pv 1)))), ?_⟩
    obtain ⟨dx, a, b, l, xs, ys, h1, h2, h3, h4, h5, h6⟩ := lv.ex
    have b4 := sI_len sm.lo
    have b5 := sI_len sm.hi
    have c4 : ("lowest " : Str).length ≤ 24 := by decide +kernel
    have c5 : ("highest " : Str).length ≤ 24 := by decide +kernel
    have c0 : ("hollows" : Str).length ≤ 24 ∧ ("summits" : Str).length ≤ 24 ∧ ("loose" : Str).length ≤ 24 := by decide +kernel
    refine ⟨_, rfl, p, C, dx, _, _, rfl, h1, L.cl, L.nH, lf_hollows, "hollows", a, hs, rfl, c0.1, ⟨xs, .inr (SqT.of h2), h5⟩, sm.nh, sm.h, fun H1 s1 => ?_⟩
    refine ⟨_, rfl, p, C, dx, _, _, rfl, s1 _ _ h1, L.cl, L.nS, lf_summits, "summits", b, ss, rfl, c0.2.1, ⟨ys, .inr (SqT.of (s1 _ _ h3)), h6.mono s1⟩, sm.ns, sm.s, fun H2 s2 => ?_⟩
    have s12 := Same.trans s1 s2
    refine ⟨_, rfl, p, C, dx, _, _, rfl, s12 _ _ h1, L.cl, L.nL, lf_loose, "loose", l, ls, rfl, c0.2.2, .inr (SqT.of (s12 _ _ h4)), sm.nl, sm.l, fun H3 s3 => ?_⟩
    have s13 := Same.trans s12 s3
    refine ⟨"lowest ", rfl, by rw [len_add, sizeLine_eq]; show 0 + _ ≤ _; omega, _, rfl, p, C, dx, _, _, rfl, s13 _ _ h1, L.cl, L.nlo, lf_lowest, .inr ⟨lo, rfl, sml_log sm.lo, sI lo, rfl, by rw [len_add, len_add, sizeLine_eq]; show 0 + _ + _ ≤ _; omega, ?_⟩⟩
    refine ⟨"highest ", rfl, by rw [len_add, sizeLine_eq]; show 0 + _ ≤ _; omega, _, rfl, p, C, dx, _, _, rfl, s13 _ _ h1, L.cl, L.nhi, lf_highest, .inr ⟨hi, rfl, sml_log sm.hi, sI hi, rfl, by rw [len_add, len_add, sizeLine_eq]; show 0 + _ + _ ≤ _; omega, ?_⟩⟩
    refine ⟨(by show 8 ≤ sizeLine; decide), fun q hq => ?_⟩
    rw [nil_add, nil_add]
    exact ⟨⟨_, rfl⟩, _, rfl, "\n", q, lvL hs ss ls lo hi ++ [("" : Str)], rfl, rfl, .inl (SqL.of upd_same), lvT_sum sm, k _ (Same.trans s13 (same_new hq))⟩
theorem ok_words {f : Addr} {fd : FuncData} (F : Fun K "_law_words" "_law_words" sWords f fd) (T : Bt mg) : FnOk P w K mg base CX0 1 f fd ["first", "rest"] spWords := by
  refine F.ok scWords (fun vs H Q E h => ?_) (fun cdv A outer s H vs Q E hr h => ?_)
  · obtain ⟨z, a, ys, rfl, _⟩ := h
    rfl
  · obtain ⟨z, a, ys, rfl, ha, hsum, hl, k⟩ := h
    refine ⟨_, pss_one (ps_ret (pe_join (pe_str) (pe_op op_cat (pe_lst (pa_cons (pv 0) pa_nil)) (pv 1)))), ?_⟩
    refine ⟨⟨_, rfl⟩, _, rfl, (by show 1 ≤ sizeLine; decide), fun p1 hp1 => ?_⟩
    have s1 := same_new (o := .lst [.str z]) hp1
    refine ⟨_, rfl, p1, a, _, _, rfl, rfl, upd_same, s1 _ _ ha, by rw [List.length_map, sizeLine_eq]; show 1 + _ ≤ _; omega, fun q hq => ?_⟩
    exact ⟨" ", q, z :: ys, rfl, rfl, .inl (SqL.of upd_same), hsum, k _ (Same.trans s1 (same_new hq))⟩
end
end Lw
namespace Lw
open PySem PySem.Spec PyProof.Rows L2 XV TL XM
abbrev sWritten : Stmt := topOf "_law_written"
abbrev Nwritten : List Str := ["five", "found", "word", "row", "a", "b", "x"]
theorem scWritten : FnScope Nwritten ["five"] (defScope sWritten) := ⟨rfl, rfl, rfl, by decide +kernel, rfl, by decide +kernel, by decide +kernel⟩
def spWritten (K : PySem.W.Frag) : Sp := fun vs H Q _ => ∃ (q a b l : Addr) (hs ss : List Pr) (ls : List Int) (lo hi : Int), vs = [.ref q] ∧ SqL K H q [.ref a, .ref b, .ref l, .int lo, .int hi] ∧ PairsAt K H a hs ∧ PairsAt K H b ss ∧ IntsAt K H l ls ∧ SmlL hs ss ls lo hi ∧ ∀ H', Same H H' → Q (.str (lvT hs ss ls lo hi)) H'
def tRowW (K : PySem.W.Frag) : TE := tCall spWords [] E0 (tCons (tVar 2) (tCons (tLc (iEither K (tVar 3)) (gTup K 2 (gCons (gName 4) (gCons (gName 5) gNil))) tYes (tOp (fun x y H Q => ∃ i j, x = V.str i ∧ y = V.str j ∧ i.length + j.length ≤ sizeLine ∧ Q (.str (i ++ j)) H) (tOp (fun x y H Q => ∃ i j, x = V.str i ∧ y = V.str j ∧ i.length + j.length ≤ sizeLine ∧ Q (.str (i ++ j)) H) (tCB (fun xs H Q => ∃ i, xs = [.int i] ∧ i.natAbs.log2 < 1920 ∧ Q (.str (toString i)) H) (tCons (tVar 4) tNil)) (tC (.str ".."))) (tCB (fun xs H Q => ∃ i, xs = [.int i] ∧ i.natAbs.log2 < 1920 ∧ Q (.str (toString i)) H) (tCons (tVar 5) tNil))) [4, 5]) tNil))
theorem rowW_do {K : PySem.W.Frag} {H : Hp} {Q : VK} {u0 u1 u6 : Option V} {z : Str} {a : Addr} {ps : List Pr} (hA : PairsAt K H a ps) (hz : z.length ≤ 24) (hl : ps.length ≤ 100) (hs : ∀ p ∈ ps, SmlP p) (k : ∀ H', Same H H' → Q (.str (wSp z ps)) H') : tRowW K [u0, u1, some (.str z), some (.ref a), none, none, u6] H Q := by
  obtain ⟨xs, ha, hx⟩ := hA
  refine ⟨_, rfl, ?_⟩
  rcases ha with ha | ha
  · refine .inl ⟨_, rfl, a, rfl, ⟨_, ha⟩, fun D hD => lc_list (K := K) (a := a) (xs := xs) (fun i H2 => Same H H2 ∧ H2 D = some (.lst (((ps.take i).map sPr).map V.str))) ⟨same_new hD, upd_same⟩ (fun i H2 _ h => Same.seq h.1 ha) ?_ ?_⟩
    · rintro i x H2 hxi ⟨s2, e2⟩
      obtain ⟨t, p, hp, rfl, ht⟩ := hx.2 i x hxi
      have sp := hs p (List.mem_of_getElem? hp)
      have l1 := sI_len sp.1
      have l2 := sI_len sp.2
      have l4 : ("..": Str).length = 2 := by decide +kernel
      refine ⟨t, _, rfl, sqT_mono s2 ht, rfl, _, _, rfl, _, _, rfl, rfl, rfl, _, rfl, p.1, rfl, sml_log sp.1, sI p.1, "..", rfl, rfl, by rw [sizeLine_eq]; omega, _, rfl, p.2, rfl, sml_log sp.2, sI p.1 ++ "..", sI p.2, rfl, rfl, by rw [len_add, sizeLine_eq]; omega, ?_⟩
      refine ⟨_, e2, by rw [List.length_map, List.length_map, sizeLine_eq]; have := List.length_take_le' i ps; omega, fun b o h => ?_, ?_⟩
      · rw [upd_ne (ne_of_none h hD)]
        exact s2 _ _ h
      · rw [upd_same, List.take_add_one, hp, List.map_append, List.map_append]
        rfl
    · rintro H2 ⟨s2, e2⟩
      rw [hx.1, List.take_length] at e2
      exact ⟨z, D, ps.map sPr, rfl, e2, sum_sp hz hl hs, by rw [List.length_map]; omega, fun H3 s3 => k H3 (Same.trans s2 s3)⟩
  · refine .inr ⟨_, rfl, a, rfl, ⟨_, ha⟩, fun D hD => lc_tup (K := K) (a := a) (xs := xs) (fun i H2 => Same H H2 ∧ H2 D = some (.lst (((ps.take i).map sPr).map V.str))) ⟨same_new hD, upd_same⟩ (fun i H2 _ h => sqT_mono h.1 ha) ?_ ?_⟩
    · rintro i x H2 hxi ⟨s2, e2⟩
      obtain ⟨t, p, hp, rfl, ht⟩ := hx.2 i x hxi
      have sp := hs p (List.mem_of_getElem? hp)
      have l1 := sI_len sp.1
      have l2 := sI_len sp.2
      have l4 : ("..": Str).length = 2 := by decide +kernel
      refine ⟨t, _, rfl, sqT_mono s2 ht, rfl, _, _, rfl, _, _, rfl, rfl, rfl, _, rfl, p.1, rfl, sml_log sp.1, sI p.1, "..", rfl, rfl, by rw [sizeLine_eq]; omega, _, rfl, p.2, rfl, sml_log sp.2, sI p.1 ++ "..", sI p.2, rfl, rfl, by rw [len_add, sizeLine_eq]; omega, ?_⟩
      refine ⟨_, e2, by rw [List.length_map, List.length_map, sizeLine_eq]; have := List.length_take_le' i ps; omega, fun b o h => ?_, ?_⟩
      · rw [upd_ne (ne_of_none h hD)]
        exact s2 _ _ h
      · rw [upd_same, List.take_add_one, hp, List.map_append, List.map_append]
        rfl
    · rintro H2 ⟨s2, e2⟩
      rw [hx.1, List.take_length] at e2
      exact ⟨z, D, ps.map sPr, rfl, e2, sum_sp hz hl hs, by rw [List.length_map]; omega, fun H3 s3 => k H3 (Same.trans s2 s3)⟩
section
variable {P : Program} {w : World} {K : PySem.W.Frag} {mg : Str → Option Value} {base : Heap}
theorem ok_written {f fW : Addr} {fd fdW : FuncData} (F : Fun K "_law_written" "_law_written" sWritten f fd) (T : Bt mg) (D_words : Df K mg "_law_words" sWords ["first", "rest"] fW fdW) : FnOk P w K mg base CX0 2 f fd ["five"] (spWritten K) := by
  have G_words : FnOk P w K mg base CX0 1 fW fdW ["first", "rest"] spWords := ok_words D_words.fn T
  refine F.ok scWritten (fun vs H Q E h => ?_) (fun cdv A outer s H vs Q E hr h => ?_)
  · obtain ⟨q, a, b, l, hs, ss, ls, lo, hi, rfl, _⟩ := h
    rfl
  · obtain ⟨q, a, b, l, hs, ss, ls, lo, hi, rfl, hq, hA, hB, hL, sm, k⟩ := h
    refine ⟨_, pss_cons (ps_set (i := 1) scWritten.nd rfl (Or.inl rfl) (pe_lst (pa_cons (pe_str) pa_nil)))
 (pss_cons (ps_for PassesOwn.never rfl (pi_zip rfl T.zip (pa_cons (pe_lst (pa_cons (pe_str) (pa_cons (pe_str) pa_nil))) (pa_cons (pv 0) pa_nil))) (pg_tup rfl (pgs_cons (pg_name (i := 2) scWritten.nd rfl (Or.inl rfl)) (pgs_cons (pg_name (i := 3) scWritten.nd rfl (Or.inl rfl)) (pgs_nil))))
 (pss_one (ps_expr (pe_bm PySem.F.plainAttrs_list PySem.F.slot_list_append PySem.F.type_list_append mt_append (pv 1) (pa_cons (te := tRowW K) (cal D_words G_words (hr.mono (by decide)) (pa_cons (pv 2) (pa_cons (pe_lc (own := [("a", 4), ("b", 5)]) (g := gTup K 2 (gCons (gName 4) (gCons (gName 5) gNil))) (tt := tYes) rfl scWritten.nd (pi_either (pv 3)) (blkOk_by (N := Nwritten) (sc := defScope sWritten) (by decide +kernel)) (fun _ _ _ _ _ => pg_tup rfl (pgs_cons (pg_name (i := 4) scWritten.nd rfl (Or.inl rfl)) (pgs_cons (pg_name (i := 5) scWritten.nd rfl (Or.inl rfl)) (pgs_nil)))) (fun _ _ _ _ _ => pts_nil) (fun _ _ _ _ _ => pe_op op_add_str (pe_op op_add_str (pe_callTy call_str_int (by rfl) T.str (by decide +kernel) (pa_cons (pv 4) pa_nil)) (pe_str)) (pe_callTy call_str_int (by rfl) T.str (by decide +kernel) (pa_cons (pv 5) pa_nil)))) pa_nil))) pa_nil)))))
 (pss_cons (ps_expr (pe_bm PySem.F.plainAttrs_list PySem.F.slot_list_append PySem.F.type_list_append mt_append (pv 1) (pa_cons (cal D_words G_words (hr.mono (by decide)) (pa_cons (pe_str) (pa_cons (pe_lc (own := [("x", 6)]) (g := gName 6) (tt := tYes) rfl scWritten.nd (pi_either (pe_ix ix_list (pv 0) (pe_int) (fun _ _ => rfl))) (blkOk_by (N := Nwritten) (sc := defScope sWritten) (by decide +kernel)) (fun _ _ _ _ _ => pg_name (i := 6) scWritten.nd rfl (Or.inl rfl)) (fun _ _ _ _ _ => pts_nil) (fun _ _ _ _ _ => pe_callTy call_str_int (by rfl) T.str (by decide +kernel) (pa_cons (pv 6) pa_nil))) pa_nil))) pa_nil)))
 (pss_cons (ps_set (i := 1) scWritten.nd rfl (Or.inl rfl) (pe_op op_cat (pv 1) (pe_lst (pa_cons (pe_op op_add_str (pe_str) (pe_callTy call_str_int (by rfl) T.str (by decide +kernel) (pa_cons (pe_ix ix_list (pv 0) (pe_int) (fun _ _ => rfl)) pa_nil))) (pa_cons (pe_op op_add_str (pe_str) (pe_callTy call_str_int (by rfl) T.str (by decide +kernel) (pa_cons (pe_ix ix_list (pv 0) (pe_int) (fun _ _ => rfl)) pa_nil))) (pa_cons (pe_str) pa_nil))))))
 (pss_one (ps_ret (pe_op op_add_str (pe_join (pe_str) (pv 1)) (pe_str))))))), ?_⟩
    refine ⟨(by show 1 ≤ sizeLine; decide), fun fo hfo => ?_⟩
    have s1 := same_new (o := .lst [.str "lives"]) hfo
    have e1 : upd H fo (.lst [.str "lives"]) fo = some (.lst [.str "lives"]) := upd_same
    generalize upd H fo (.lst [.str "lives"]) = H1 at s1 e1 ⊢
    refine ⟨(by show 2 ≤ sizeLine; decide), fun pw hpw => ?_⟩
    have nfo : fo ≠ pw := ne_of_none e1 hpw
    have s2 := Same.trans s1 (same_new (o := .lst [.str "hollows", .str "summits"]) hpw)
    have e2 : upd H1 pw (.lst [.str "hollows", .str "summits"]) fo = some (.lst [.str "lives"]) := by rw [upd_ne nfo]; exact e1
    have w2 : upd H1 pw (.lst [.str "hollows", .str "summits"]) pw = some (.lst [.str "hollows", .str "summits"]) := upd_same
    generalize upd H1 pw (.lst [.str "hollows", .str "summits"]) = H2 at s2 e2 w2 ⊢
    refine ⟨_, rfl, pw, q, _, _, rfl, SqL.of w2, s2.seq hq, for_it (walk_zip (K := K) (a := pw) (b := q) (xs := [.str "hollows", .str "summits"]) (ys := [.ref a, .ref b, .ref l, .int lo, .int hi]) (n := 2) rfl) (fun i σ H3 => ∃ x2 x3 : Option V, σ = [some (.ref q), some (.ref fo), x2, x3, none, none, none] ∧ Same H H3 ∧ H3 pw = some (.lst [.str "hollows", .str "summits"]) ∧ H3 fo = some (.lst ((("lives" : Str) :: [wSp "hollows" hs, wSp "summits" ss].take i).map V.str))) ⟨none, none, rfl, s2, w2, e2⟩ (fun i σ H3 _ h => ?_) ?_ ?_⟩
    · obtain ⟨_, _, _, s3, w3, _⟩ := h
      exact ⟨SqL.of w3, s3.seq hq⟩
    · rintro i y σ H3 H4 hi ⟨x2, x3, rfl, s3, w3, e3⟩ ⟨t, u, v, rfl, ht, rfl, hu, hv⟩
      have s4 := same_new (o := .tup [u, v]) ht
      have s34 := Same.trans s3 s4
      have w4 := s4 _ _ w3
      have e4 := s4 _ _ e3
      have hk : H fo = none := hfo
      have l0 : ("hollows" : Str).length ≤ 24 ∧ ("summits" : Str).length ≤ 24 := by decide +kernel
      refine ⟨t, _, rfl, SqT.of upd_same, rfl, _, _, rfl, _, _, rfl, rfl, ?_⟩
      generalize upd H3 t (.tup [u, v]) = H4 at s4 s34 w4 e4 ⊢
      refine ⟨_, rfl, tyL e4, ?_⟩
      obtain rfl | rfl : i = 0 ∨ i = 1 := by omega
      · cases hu
        cases hv
        refine rowW_do (z := "hollows") (ps := hs) (hA.mono s34) l0.1 sm.nh sm.h fun H5 s5 => ?_
        refine ⟨fo, _, _, rfl, rfl, s5 _ _ e4, (by show 1 < sizeLine; decide), ?_⟩
        refine ⟨_, _, rfl, fun b o h => ?_, ?_, upd_same⟩
        · rw [upd_ne (ne_of_none h hk)]
          exact s5 _ _ (s34 _ _ h)
        · rw [upd_ne nfo.symm]
          exact s5 _ _ w4
      · cases hu
        cases hv
        refine rowW_do (z := "summits") (ps := ss) (hB.mono s34) l0.2 sm.ns sm.s fun H5 s5 => ?_
        refine ⟨fo, _, _, rfl, rfl, s5 _ _ e4, (by show 2 < sizeLine; decide), ?_⟩
        refine ⟨_, _, rfl, fun b o h => ?_, ?_, upd_same⟩
        · rw [upd_ne (ne_of_none h hk)]
          exact s5 _ _ (s34 _ _ h)
        · rw [upd_ne nfo.symm]
          exact s5 _ _ w4
    · rintro σ H3 ⟨x2, x3, rfl, s3, w3, e3⟩
      have hk : H fo = none := hfo
      have c3 : ("loose" : Str).length ≤ 24 := by decide +kernel
      have q3 := s3.seq hq
      have lsum := sum_he c3 sm.nl sm.l
      have fin : ∀ {H4 : Hp} {D : Addr}, Same H3 H4 → H4 D = some (.lst ((ls.map sI).map V.str)) → (fun (vs : List V) (H5 : Hp) => spWords vs H5 (fun y H6 => ∃ (l0 : Addr) (xs0 : List V), l0 = fo ∧ H6 fo = some (.lst xs0) ∧ xs0 = ([("lives" : Str), wSp "hollows" hs, wSp "summits" ss].map V.str) ∧ y = .str (wHe "loose" ls) ∧ Same H H6) E0) [.str "loose", .ref D] H4 := fun {H4 D} s4 e4 =>
        ⟨"loose", D, ls.map sI, rfl, e4, lsum, by rw [List.length_map]; have := sm.nl; omega, fun H5 s5 => ⟨fo, _, rfl, s5 _ _ (s4 _ _ e3), rfl, rfl, Same.trans s3 (Same.trans s4 s5)⟩⟩
      have b4 := sI_len sm.lo
      have b5 := sI_len sm.hi
      have c4 : ("lowest " : Str).length ≤ 24 := by decide +kernel
      have c5 : ("highest " : Str).length ≤ 24 := by decide +kernel
      have hsum7 : ((lvL hs ss ls lo hi).map (·.length)).sum + (lvL hs ss ls lo hi).length * ("\n" : Str).length ≤ 16777216 := by
        have h := sum_le (ys := lvL hs ss ls lo hi) fun y hy => lvL_len sm y (List.mem_append_left _ hy)
        rw [nl1]
        have : (lvL hs ss ls lo hi).length = 7 := rfl
        omega
      have hl7 : (Txt.join "\n" (lvL hs ss ls lo hi)).length ≤ 20000 := by
        have := joined_len (n := 2600) (y := "\n") (ys := lvL hs ss ls lo hi) (fun y hy => lvL_len sm y (List.mem_append_left _ hy)) nl1
        have h7 : (lvL hs ss ls lo hi).length = 7 := rfl
        omega
      rcases hL with hl | hl
      · have hl3 := s3.seq hl
        refine ⟨_, rfl, tyL e3, .inl ⟨_, rfl, q, _, 2, .ref l, rfl, rfl, s3.seq hq, rfl, l, rfl, ⟨_, hl3⟩, fun D hD => lc_list (K := K) (a := l) (xs := ls.map V.int) (fun i H4 => Same H3 H4 ∧ H4 D = some (.lst (((ls.take i).map sI).map V.str))) ⟨same_new hD, upd_same⟩ (fun i H4 _ h => Same.seq h.1 hl3) ?_ ?_⟩⟩
        · rintro i x H4 hxi ⟨s4, e4⟩
          obtain ⟨n, rfl, hn⟩ := int_at hxi
          have sn := sm.l n (List.mem_of_getElem? hn)
          refine ⟨rfl, _, rfl, n, rfl, sml_log sn, _, e4, by rw [List.length_map, List.length_map, sizeLine_eq]; have := List.length_take_le' i ls; have := sm.nl; omega, fun b o h => ?_, ?_⟩
          · rw [upd_ne (ne_of_none h hD)]
            exact s4 _ _ h
          · rw [upd_same, List.take_add_one, hn, List.map_append, List.map_append]
            rfl
        · rintro H4 ⟨s4, e4⟩
          rw [List.length_map, List.take_length] at e4
          refine ⟨"loose", D, ls.map sI, rfl, e4, lsum, by rw [List.length_map]; have := sm.nl; omega, fun H5 s5 => ?_⟩
          have s05 := Same.trans s3 (Same.trans s4 s5)
          have e5 := s5 _ _ (s4 _ _ e3)
          refine ⟨fo, _, _, rfl, rfl, e5, (by show 3 < sizeLine; decide), ?_⟩
          have s6 : Same H (upd H5 fo (.lst ([("lives" : Str), wSp "hollows" hs, wSp "summits" ss].map V.str ++ [.str (wHe "loose" ls)]))) := fun b o h => by
            rw [upd_ne (ne_of_none h hk)]
            exact s05 _ _ h
          have e6 : upd H5 fo (.lst ([("lives" : Str), wSp "hollows" hs, wSp "summits" ss].map V.str ++ [.str (wHe "loose" ls)])) fo = some (.lst ([("lives" : Str), wSp "hollows" hs, wSp "summits" ss].map V.str ++ [.str (wHe "loose" ls)])) := upd_same
          show tSeq _ _ _ _ (upd H5 fo (.lst ([("lives" : Str), wSp "hollows" hs, wSp "summits" ss].map V.str ++ [.str (wHe "loose" ls)])))
          generalize upd H5 fo (.lst ([("lives" : Str), wSp "hollows" hs, wSp "summits" ss].map V.str ++ [.str (wHe "loose" ls)])) = H6 at s6 e6 ⊢
          have q6 := s6.seq hq
          refine ⟨_, rfl, _, rfl, q, _, 3, .int lo, rfl, rfl, q6, rfl, lo, rfl, sml_log sm.lo, "lowest ", sI lo, rfl, rfl, by rw [sizeLine_eq]; omega, _, rfl, q, _, 4, .int hi, rfl, rfl, q6, rfl, hi, rfl, sml_log sm.hi, "highest ", sI hi, rfl, rfl, by rw [sizeLine_eq]; omega, (by show 3 ≤ sizeLine; decide), fun p6 hp6 => ?_⟩
          have s7 := same_new (o := .lst [.str ("lowest " ++ sI lo), .str ("highest " ++ sI hi), .str "done"]) hp6
          refine ⟨fo, p6, _, _, rfl, rfl, s7 _ _ e6, upd_same, (by show 7 ≤ sizeLine; decide), fun p7 hp7 => ?_⟩
          refine ⟨⟨_, rfl⟩, _, rfl, "\n", p7, lvL hs ss ls lo hi, rfl, rfl, .inl (SqL.of upd_same), hsum7, _, _, rfl, rfl, by rw [nl1, sizeLine_eq]; omega, ?_⟩
          rw [← lvT_eq]
          exact k _ (Same.trans s6 (Same.trans s7 (same_new hp7)))
      · have hl3 := sqT_mono s3 hl
        refine ⟨_, rfl, tyL e3, .inr ⟨_, rfl, q, _, 2, .ref l, rfl, rfl, s3.seq hq, rfl, l, rfl, ⟨_, hl3⟩, fun D hD => lc_tup (K := K) (a := l) (xs := ls.map V.int) (fun i H4 => Same H3 H4 ∧ H4 D = some (.lst (((ls.take i).map sI).map V.str))) ⟨same_new hD, upd_same⟩ (fun i H4 _ h => sqT_mono h.1 hl3) ?_ ?_⟩⟩
        · rintro i x H4 hxi ⟨s4, e4⟩
          obtain ⟨n, rfl, hn⟩ := int_at hxi
          have sn := sm.l n (List.mem_of_getElem? hn)
          refine ⟨rfl, _, rfl, n, rfl, sml_log sn, _, e4, by rw [List.length_map, List.length_map, sizeLine_eq]; have := List.length_take_le' i ls; have := sm.nl; omega, fun b o h => ?_, ?_⟩
          · rw [upd_ne (ne_of_none h hD)]
            exact s4 _ _ h
          · rw [upd_same, List.take_add_one, hn, List.map_append, List.map_append]
            rfl
        · rintro H4 ⟨s4, e4⟩
          rw [List.length_map, List.take_length] at e4
          refine ⟨"loose", D, ls.map sI, rfl, e4, lsum, by rw [List.length_map]; have := sm.nl; omega, fun H5 s5 => ?_⟩
          have s05 := Same.trans s3 (Same.trans s4 s5)
          have e5 := s5 _ _ (s4 _ _ e3)
          refine ⟨fo, _, _, rfl, rfl, e5, (by show 3 < sizeLine; decide), ?_⟩
          have s6 : Same H (upd H5 fo (.lst ([("lives" : Str), wSp "hollows" hs, wSp "summits" ss].map V.str ++ [.str (wHe "loose" ls)]))) := fun b o h => by
            rw [upd_ne (ne_of_none h hk)]
            exact s05 _ _ h
          have e6 : upd H5 fo (.lst ([("lives" : Str), wSp "hollows" hs, wSp "summits" ss].map V.str ++ [.str (wHe "loose" ls)])) fo = some (.lst ([("lives" : Str), wSp "hollows" hs, wSp "summits" ss].map V.str ++ [.str (wHe "loose" ls)])) := upd_same
          show tSeq _ _ _ _ (upd H5 fo (.lst ([("lives" : Str), wSp "hollows" hs, wSp "summits" ss].map V.str ++ [.str (wHe "loose" ls)])))
          generalize upd H5 fo (.lst ([("lives" : Str), wSp "hollows" hs, wSp "summits" ss].map V.str ++ [.str (wHe "loose" ls)])) = H6 at s6 e6 ⊢
          have q6 := s6.seq hq
          refine ⟨_, rfl, _, rfl, q, _, 3, .int lo, rfl, rfl, q6, rfl, lo, rfl, sml_log sm.lo, "lowest ", sI lo, rfl, rfl, by rw [sizeLine_eq]; omega, _, rfl, q, _, 4, .int hi, rfl, rfl, q6, rfl, hi, rfl, sml_log sm.hi, "highest ", sI hi, rfl, rfl, by rw [sizeLine_eq]; omega, (by show 3 ≤ sizeLine; decide), fun p6 hp6 => ?_⟩
          have s7 := same_new (o := .lst [.str ("lowest " ++ sI lo), .str ("highest " ++ sI hi), .str "done"]) hp6
          refine ⟨fo, p6, _, _, rfl, rfl, s7 _ _ e6, upd_same, (by show 7 ≤ sizeLine; decide), fun p7 hp7 => ?_⟩
          refine ⟨⟨_, rfl⟩, _, rfl, "\n", p7, lvL hs ss ls lo hi, rfl, rfl, .inl (SqL.of upd_same), hsum7, _, _, rfl, rfl, by rw [nl1, sizeLine_eq]; omega, ?_⟩
          rw [← lvT_eq]
          exact k _ (Same.trans s6 (Same.trans s7 (same_new hp7)))
end
end Lw
namespace Lw
open PySem PySem.Spec PyProof.Rows L2 XV TL XM
/-! the box -/
/-- where the box stands, where its cells -/
structure Bx where
  b : Addr
  l : Addr
/-- all but the box and its cells is as it was -/
def But (B : Bx) (H H' : Hp) : Prop := ∀ a o, a ≠ B.b → a ≠ B.l → H a = some o → H' a = some o
theorem But.refl (B : Bx) (H : Hp) : But B H H := fun _ _ _ _ h => h
theorem But.trans {B : Bx} {H H1 H2 : Hp} (x : But B H H1) (y : But B H1 H2) : But B H H2 := fun a o n m h => y a o n m (x a o n m h)
theorem But.updB {B : Bx} {H H1 : Hp} {o : HO} (x : But B H H1) : But B H (upd H1 B.b o) := fun a u n m h => by rw [upd_ne n]; exact x a u n m h
theorem But.updL {B : Bx} {H H1 : Hp} {o : HO} (x : But B H H1) : But B H (upd H1 B.l o) := fun a u n m h => by rw [upd_ne m]; exact x a u n m h
theorem But.new {B : Bx} {p : Addr} {H H1 : Hp} {o : HO} (x : But B H H1) (hp : H1 p = none) : But B H (L2.upd H1 p o) := fun a u n m h => by
  have y := x a u n m h
  rw [upd_ne (ne_of_none y hp)]
  exact y
def boxO (l : Addr) (i m c : Int) : HO := .lst [.ref l, .int i, .int m, .int c]
structure BoxAt (B : Bx) (H : Hp) : Prop where
  ex : ∃ (i m c : Int), H B.b = some (boxO B.l i m c) ∧ 0 ≤ i
  ls : ∃ ns : List Int, H B.l = some (.lst (ns.map V.int)) ∧ ns.length ≤ 63
  ne : B.l ≠ B.b
/-- what may have come to pass: the box has been drawn from, new things were made -/
structure Go (B : Bx) (H H' : Hp) : Prop where
  but : But B H H'
  bag : BoxAt B H'
section
variable {B : Bx} {H H1 H2 : Hp} {p : Addr} {o : HO}
theorem BoxAt.away (x : BoxAt B H) (hp : H p = none) : p ≠ B.b ∧ p ≠ B.l := by
  obtain ⟨i, m, c, h, _⟩ := x.ex
  obtain ⟨ns, h2, _⟩ := x.ls
  exact ⟨fun z => (by rw [z, h] at hp; cases hp), fun z => (by rw [z, h2] at hp; cases hp)⟩
theorem BoxAt.put (x : BoxAt B H) (n1 : p ≠ B.b) (n2 : p ≠ B.l) : BoxAt B (upd H p o) := by
  obtain ⟨i, m, c, h, r⟩ := x.ex
  obtain ⟨ns, h2, r2⟩ := x.ls
  exact ⟨⟨i, m, c, by rw [upd_ne n1.symm]; exact h, r⟩, ⟨ns, by rw [upd_ne n2.symm]; exact h2, r2⟩, x.ne⟩
theorem BoxAt.same (x : BoxAt B H) (s : Same H H1) : BoxAt B H1 := by
  obtain ⟨i, m, c, h, r⟩ := x.ex
  obtain ⟨ns, h2, r2⟩ := x.ls
  exact ⟨⟨i, m, c, s _ _ h, r⟩, ⟨ns, s _ _ h2, r2⟩, x.ne⟩
theorem Go.refl (x : BoxAt B H) : Go B H H := ⟨But.refl _ _, x⟩
theorem Go.trans (x : Go B H H1) (y : Go B H1 H2) : Go B H H2 := ⟨x.but.trans y.but, y.bag⟩
theorem Go.new (x : Go B H H1) (hp : H1 p = none) : Go B H (upd H1 p o) := ⟨x.but.new hp, x.bag.put (x.bag.away hp).1 (x.bag.away hp).2⟩
theorem Go.same (x : Go B H H1) (s : Same H1 H2) : Go B H H2 := ⟨fun a o n m h => s _ _ (x.but a o n m h), x.bag.same s⟩
/-- a thing that was not there at first -/
theorem Go.free (x : Go B H H1) (hp : H1 p = none) : H p = none := by
  cases e : H p with
  | none => rfl
  | some o =>
    have w := x.bag.away hp
    rw [x.but p o w.1 w.2 e] at hp
    cases hp
theorem Go.turn (x : Go B H H1) (hB : BoxAt B H) (hp : H p = none) : Go B H (upd H1 p o) :=
  ⟨fun a u n m h => by rw [upd_ne (ne_of_none h hp)]; exact x.but a u n m h, x.bag.put (hB.away hp).1 (hB.away hp).2⟩
theorem Go.keep (x : Go B H H1) (n : p ≠ B.b) (m : p ≠ B.l) (h : H p = some o) : H1 p = some o := x.but p o n m h
end
theorem ix_pos {n : Nat} {i : Int} (h0 : 0 ≤ i) (h1 : i < n) : ixN n i = some i.toNat := by
  unfold ixN
  rw [if_pos h0, if_pos h1]
/-- what a draw leaves -/
def spTake : Sp := fun vs H Q _ => ∃ (B : Bx) (n : Int), vs = [.ref B.b, .int n] ∧ BoxAt B H ∧ 0 < n ∧ n < 1000000000000 ∧ ∀ (d : Int) (H' : Hp), 0 ≤ d → d < n → Go B H H' → Q (.int d) H'
abbrev sTake : Stmt := topOf "_law_take"
abbrev Ntake : List Str := ["box", "limit", "cells", "here", "got", "small"]
theorem scTake : FnScope Ntake ["box", "limit"] (defScope sTake) := ⟨rfl, rfl, rfl, by decide +kernel, rfl, by decide +kernel, by decide +kernel⟩
section
variable {P : Program} {w : World} {K : PySem.W.Frag} {mg : Str → Option Value} {base : Heap}
theorem ok_take {f : Addr} {fd : FuncData} (F : Fun K "_law_take" "_law_take" sTake f fd) (T : Bt mg) : FnOk P w K mg base CX0 1 f fd ["box", "limit"] spTake := by
  refine F.ok scTake (fun vs H Q E h => ?_) (fun cdv A outer s H vs Q E hr h => ?_)
  · obtain ⟨B, n, rfl, _⟩ := h
    rfl
  · obtain ⟨⟨b, l⟩, n, rfl, hB, n0, n1, k⟩ := h
    obtain ⟨i, m, c, h1, hi⟩ := hB.ex
    obtain ⟨ns, h2, hl⟩ := hB.ls
    have hne := hB.ne
    dsimp only at h1 h2 hne hl
    refine ⟨_, pss_cons (ps_par (i := 2) (j := 3) rfl scTake.nd rfl rfl (by decide) rfl rfl (pa_cons (pe_ix ix_list (pv 0) (pe_int) (fun _ _ => rfl)) (pa_cons (pe_ix ix_list (pv 0) (pe_int) (fun _ _ => rfl)) pa_nil)) (by rfl))
 (pss_mid (ps_if (PW.pt (pw_and (pt_cmpR op_lt (pv 3) (pe_callB call_lenL (by rfl) T.len (by decide +kernel) (pa_cons (pv 2) pa_nil)) (nomark _)) (pw_and1 (pt_cmpR op_ge (pe_ix ix_list (pv 2) (pv 3) (fun _ _ => rfl)) (pe_op op_pow (pe_int) (pe_int)) (nomark _)))))
 (pss_cons (ps_set (i := 4) scTake.nd rfl (Or.inl rfl) (pe_op op_mod (pe_callTy call_intI (by rfl) T.int (by decide +kernel) (pa_cons (pe_ix ix_list (pv 2) (pv 3) (fun _ _ => rfl)) pa_nil)) (pv 1)))
 (pss_cons (ps_asg (pe_op op_fdivW (pe_ix ix_list (pv 2) (pv 3) (fun _ _ => rfl)) (pv 1)) (pg_sub (pv 2) (pv 3) set_list))
 (pss_one (ps_ret (pv 4)))))
 (pss_nil))
 (pss_cons (ps_set (i := 5) scTake.nd rfl (Or.inl rfl) (pe_int))
 (pss_mid (ps_if (pt_cmpR op_lt (pv 3) (pe_callB call_lenL (by rfl) T.len (by decide +kernel) (pa_cons (pv 2) pa_nil)) (nomark _))
 (pss_one (ps_set (i := 5) scTake.nd rfl (Or.inl rfl) (pe_op op_mod (pe_callTy call_intI (by rfl) T.int (by decide +kernel) (pa_cons (pe_ix ix_list (pv 2) (pv 3) (fun _ _ => rfl)) pa_nil)) (pe_int))))
 (pss_nil))
 (pss_cons (ps_asg (pe_op op_add (pe_ix ix_list (pv 0) (pe_int) (fun _ _ => rfl)) (pe_int)) (pg_sub (pv 0) (pe_int) set_list))
 (pss_cons (ps_asg (pe_op op_mod (pe_callTy call_intI (by rfl) T.int (by decide +kernel) (pa_cons (pe_op op_add (pe_op op_add (pe_op op_add (pe_op op_mul (pe_ix ix_list (pv 0) (pe_int) (fun _ _ => rfl)) (pe_int)) (pe_op op_mul (pv 5) (pe_int))) (pe_op op_mul (pe_ix ix_list (pv 0) (pe_int) (fun _ _ => rfl)) (pe_int))) (pe_int)) pa_nil)) (pe_int)) (pg_sub (pv 0) (pe_int) set_list))
 (pss_mid (ps_if (pt_cmpR op_eq (pe_op op_mod (pe_callTy call_intI (by rfl) T.int (by decide +kernel) (pa_cons (pe_ix ix_list (pv 0) (pe_int) (fun _ _ => rfl)) pa_nil)) (pe_int)) (pe_int) (nomark _))
 (pss_one (ps_asg (pe_op op_add (pv 3) (pe_int)) (pg_sub (pv 0) (pe_int) set_list)))
 (pss_nil))
 (pss_one (ps_ret (pe_op op_mod (pe_callTy call_intI (by rfl) T.int (by decide +kernel) (pa_cons (pe_op op_fdiv (pe_op op_mod (pe_callTy call_intI (by rfl) T.int (by decide +kernel) (pa_cons (pe_op op_mul (pe_ix ix_list (pv 0) (pe_int) (fun _ _ => rfl)) (pe_int)) pa_nil)) (pe_int)) (pe_int)) pa_nil)) (pv 1)))))))))), ?_⟩
    refine ⟨_, rfl, b, _, 0, _, rfl, rfl, SqL.of h1, rfl, _, rfl, b, _, 1, _, rfl, rfl, SqL.of h1, rfl, _, _, rfl, ?_⟩
    have g1 := h1
    have g2 := h2
    have g3 : But ⟨b, l⟩ H H := But.refl _ _
    show tMid _ _ _ _ H
    generalize hH : H = H1 at g1 g2
    rw [hH] at k
    have g3 : But ⟨b, l⟩ H1 H1 := But.refl _ _
    have hz : i < ns.length → ∃ z, atI (ns.map V.int) i = some (V.int z) := fun hlt => by
      obtain ⟨z, hz⟩ : ∃ z, ns[i.toNat]? = some z := ⟨_, List.getElem?_eq_getElem (by omega)⟩
      refine ⟨z, ?_⟩
      have e : i = ((i.toNat : Nat) : Int) := by omega
      rw [e]
      exact atI_nat (by rw [List.getElem?_map, hz]; rfl)
    refine ⟨fun σ' H' => H' = H1 ∧ σ' = [some (.ref b), some (.int n), some (.ref l), some (.int i), none, none], ?_, ?_⟩
    · refine ⟨_, rfl, _, rfl, l, _, rfl, SqL.of g2, _, _, rfl, rfl, _, rfl, ite2 (fun c2 => ?_) (fun c2 => ?_)⟩
      · have c2' := of_decide_eq_true c2
        rw [List.length_map] at c2'
        obtain ⟨z, hz'⟩ := hz c2'
        refine ⟨_, rfl, _, rfl, l, _, i, _, rfl, rfl, SqL.of g2, hz', _, _, rfl, rfl, ⟨by decide, by decide, by decide⟩, _, _, rfl, rfl, _, rfl, ite2 (fun c3 => ?_) (fun c3 => ?_)⟩
        · have dv : CDivW z n := wide_div (b := 40) n0 (by have : (2 : Nat) ^ 40 = 1099511627776 := (by decide); omega) (by decide) (by decide)
          refine ⟨_, rfl, _, rfl, l, _, i, _, rfl, rfl, SqL.of g2, hz', _, rfl, _, rfl, _, _, rfl, rfl, n0, ?_⟩
          refine ⟨_, rfl, _, rfl, l, _, i, _, rfl, rfl, SqL.of g2, hz', _, rfl, _, _, rfl, rfl, dv, _, rfl, _, rfl, l, _, i, i.toNat, rfl, rfl, g2, ix_pos hi (by rw [List.length_map]; exact c2'), ?_⟩
          refine ⟨_, rfl, ?_⟩
          exact k _ _ (Int.emod_nonneg _ (by omega)) (Int.emod_lt_of_pos _ n0) ⟨But.updL (B := ⟨b, l⟩) g3, ⟨⟨i, m, c, by rw [upd_ne hne.symm]; exact g1, hi⟩, ⟨ns.set i.toNat _, by rw [upd_same, List.map_set], by rw [List.length_set]; exact hl⟩, hne⟩⟩
        · exact ⟨rfl, rfl⟩
      · exact iteF ⟨rfl, rfl⟩
    · rintro σ' H' ⟨rfl, rfl⟩
      refine ⟨fun σ2 H2 => H2 = H' ∧ ∃ sm : Int, σ2 = [some (.ref b), some (.int n), some (.ref l), some (.int i), none, some (.int sm)], ?_, ?_⟩
      · refine ⟨_, rfl, _, rfl, l, _, rfl, SqL.of g2, _, _, rfl, rfl, _, rfl, ite2 (fun c2 => ?_) (fun c2 => ?_)⟩
        · have c2' := of_decide_eq_true c2
          rw [List.length_map] at c2'
          obtain ⟨z, hz'⟩ := hz c2'
          exact ⟨_, rfl, _, rfl, l, _, i, _, rfl, rfl, SqL.of g2, hz', _, rfl, _, _, rfl, rfl, (by show (0 : Int) < 1000003; decide), rfl, _, rfl⟩
        · exact ⟨rfl, 0, rfl⟩
      · rintro σ2 H2 ⟨rfl, sm, rfl⟩
        refine ⟨_, rfl, b, _, 3, _, rfl, rfl, SqL.of g1, rfl, _, _, rfl, rfl, _, rfl, b, _, 3, 3, rfl, rfl, g1, rfl, ?_⟩
        have k1 : upd H2 b (boxO l i m (c + 1)) b = some (boxO l i m (c + 1)) := upd_same
        have k2 : upd H2 b (boxO l i m (c + 1)) l = some (.lst (ns.map V.int)) := by rw [upd_ne hne]; exact g2
        have k3 : But ⟨b, l⟩ _ (upd H2 b (boxO l i m (c + 1))) := But.updB (B := ⟨b, l⟩) g3
        show tSeq _ _ _ _ (upd H2 b (boxO l i m (c + 1)))
        generalize upd H2 b (boxO l i m (c + 1)) = H3 at k1 k2 k3 ⊢
        refine ⟨_, rfl, b, _, 2, _, rfl, rfl, SqL.of k1, rfl, _, _, rfl, rfl, .inr ⟨by decide, by decide⟩, _, rfl, _, _, rfl, rfl, .inr ⟨by decide, by decide⟩, _, _, rfl, rfl, _, rfl, b, _, 3, _, rfl, rfl, SqL.of k1, rfl, _, _, rfl, rfl, .inr ⟨by decide, by decide⟩, _, _, rfl, rfl, _, _, rfl, rfl, _, rfl, _, _, rfl, rfl, (by show (0 : Int) < 2147483647; decide), _, rfl, b, _, 2, 2, rfl, rfl, k1, rfl, ?_⟩
        have j1 : upd H3 b (boxO l i ((m * 48271 + sm * 69621 + (c + 1) * 7919 + 1) % 2147483647) (c + 1)) b = some (boxO l i ((m * 48271 + sm * 69621 + (c + 1) * 7919 + 1) % 2147483647) (c + 1)) := upd_same
        have j2 : upd H3 b (boxO l i ((m * 48271 + sm * 69621 + (c + 1) * 7919 + 1) % 2147483647) (c + 1)) l = some (.lst (ns.map V.int)) := by rw [upd_ne hne]; exact k2
        have j3 : But ⟨b, l⟩ _ (upd H3 b (boxO l i ((m * 48271 + sm * 69621 + (c + 1) * 7919 + 1) % 2147483647) (c + 1))) := But.updB (B := ⟨b, l⟩) k3
        show tMid _ _ _ _ (upd H3 b (boxO l i ((m * 48271 + sm * 69621 + (c + 1) * 7919 + 1) % 2147483647) (c + 1)))
        generalize upd H3 b (boxO l i ((m * 48271 + sm * 69621 + (c + 1) * 7919 + 1) % 2147483647) (c + 1)) = H4 at j1 j2 j3 ⊢
        generalize ((m * 48271 + sm * 69621 + (c + 1) * 7919 + 1) % 2147483647) = m' at j1
        refine ⟨fun σ5 H5 => ∃ i' : Int, σ5 = [some (.ref b), some (.int n), some (.ref l), some (.int i), none, some (.int sm)] ∧ H5 b = some (boxO l i' m' (c + 1)) ∧ 0 ≤ i' ∧ H5 l = some (.lst (ns.map V.int)) ∧ But ⟨b, l⟩ H2 H5, ?_, ?_⟩
        · refine ⟨_, rfl, b, _, 3, _, rfl, rfl, SqL.of j1, rfl, _, rfl, _, _, rfl, rfl, (by show (0 : Int) < 3; decide), rfl, _, rfl, ite2 (fun c2 => ?_) (fun c2 => ?_)⟩
          · refine ⟨_, rfl, _, _, rfl, rfl, _, rfl, b, _, 1, 1, rfl, rfl, j1, rfl, i + 1, rfl, upd_same, by omega, by rw [upd_ne hne]; exact j2, But.updB (B := ⟨b, l⟩) j3⟩
          · exact ⟨i, rfl, j1, hi, j2, j3⟩
        · rintro σ5 H5 ⟨i', rfl, e1, hi', e2, e3⟩
          refine ⟨_, rfl, b, _, 2, _, rfl, rfl, SqL.of e1, rfl, _, _, rfl, rfl, .inr ⟨by decide, by decide⟩, _, rfl, _, _, rfl, rfl, (by show (0 : Int) < 2147483629; decide), _, _, rfl, rfl, ⟨by decide, by decide⟩, _, rfl, _, rfl, _, _, rfl, rfl, n0, ?_⟩
          exact k _ _ (Int.emod_nonneg _ (by omega)) (Int.emod_lt_of_pos _ n0) ⟨e3, ⟨⟨i', m', c + 1, e1, hi'⟩, ⟨ns, e2, hl⟩, hne⟩⟩
end
end Lw
namespace Lw
open PySem PySem.Spec PyProof.Rows L2 XV TL XM
theorem cut_ints (ns : List Int) (lo hi : Option Int) : ∃ ms : List Int, cutV (ns.map V.int) lo hi = ms.map V.int ∧ ms.length ≤ ns.length := by
  refine ⟨(ns.drop (HT.sIx ns.length 0 lo)).take (HT.sIx ns.length ns.length hi - HT.sIx ns.length 0 lo), ?_, ?_⟩
  · unfold cutV
    rw [List.length_map, List.map_take, List.map_drop]
  · rw [List.length_take, List.length_drop]
    omega
abbrev sBox : Stmt := topOf "_law_box"
abbrev Nbox : List Str := ["script", "mixed", "cell"]
theorem scBox : FnScope Nbox ["script"] (defScope sBox) := ⟨rfl, rfl, rfl, by decide +kernel, rfl, by decide +kernel, by decide +kernel⟩
def spBox (K : PySem.W.Frag) : Sp := fun vs H Q _ => ∃ (a : Addr) (ns : List Int), vs = [.ref a] ∧ SqL K H a (ns.map V.int) ∧ ns.length ≤ 63 ∧ ∀ (B : Bx) (H' : Hp), Same H H' → BoxAt B H' → H B.b = none → H B.l = none → Q (.ref B.b) H'
section
variable {P : Program} {w : World} {K : PySem.W.Frag} {mg : Str → Option Value} {base : Heap}
theorem ok_box {f : Addr} {fd : FuncData} (F : Fun K "_law_box" "_law_box" sBox f fd) (T : Bt mg) : FnOk P w K mg base CX0 1 f fd ["script"] (spBox K) := by
  refine F.ok scBox (fun vs H Q E h => ?_) (fun cdv A outer s H vs Q E hr h => ?_)
  · obtain ⟨a, ns, rfl, _⟩ := h
    rfl
  · obtain ⟨a, ns, rfl, hS, hl, k⟩ := h
    refine ⟨_, pss_cons (ps_set (i := 1) scBox.nd rfl (Or.inl rfl) (pe_int))
 (pss_cons (ps_for PassesOwn.never rfl (pi_list (pe_slice sl_list (pv 0) (po_none) (po_some (pe_int)))) (pg_name (i := 2) scBox.nd rfl (Or.inl rfl))
 (pss_one (ps_set (i := 1) scBox.nd rfl (Or.inl rfl) (pe_op op_mod (pe_callTy call_intI (by rfl) T.int (by decide +kernel) (pa_cons (pe_op op_add (pe_op op_add (pe_op op_mul (pv 1) (pe_int)) (pe_op op_mul (pe_op op_mod (pe_callTy call_intI (by rfl) T.int (by decide +kernel) (pa_cons (pv 2) pa_nil)) (pe_int)) (pe_int))) (pe_int)) pa_nil)) (pe_int)))))
 (pss_one (ps_ret (pe_lst (pa_cons (pe_lc (own := [("cell", 2)]) (g := gName 2) (tt := tYes) rfl scBox.nd (pi_list (pe_slice sl_list (pv 0) (po_none) (po_some (pe_int)))) (blkOk_by (N := Nbox) (sc := defScope sBox) (by decide +kernel)) (fun _ _ _ _ _ => pg_name (i := 2) scBox.nd rfl (Or.inl rfl)) (fun _ _ _ _ _ => pts_nil) (fun _ _ _ _ _ => pe_callTy call_intI (by rfl) T.int (by decide +kernel) (pa_cons (pv 2) pa_nil))) (pa_cons (pe_int) (pa_cons (pv 1) (pa_cons (pe_int) pa_nil)))))))), ?_⟩
    obtain ⟨ms, em, hm⟩ := cut_ints ns none (some 63)
    refine ⟨_, rfl, _, rfl, a, _, rfl, hS, fun p hp => ?_⟩
    rw [em]
    refine ⟨p, rfl, ⟨_, SqL.of upd_same⟩, for_list (K := K) (a := p) (xs := ms.map V.int) (fun i σ H2 => ∃ (m : Int) (x : Option V), σ = [some (.ref a), some (.int m), x] ∧ Same H H2 ∧ H2 p = some (.lst (ms.map V.int)))
      ⟨16199, none, rfl, same_new hp, upd_same⟩ (fun i σ H2 _ ⟨_, _, _, _, e⟩ => SqL.of e) ?_ ?_⟩
    · rintro i y σ H2 hi ⟨m, x, rfl, s2, e2⟩
      obtain ⟨z, hz, rfl⟩ : ∃ z, ms[i]? = some z ∧ V.int z = y := by
        rw [List.getElem?_map] at hi
        exact Option.map_eq_some_iff.mp hi
      refine ⟨_, rfl, _, _, rfl, rfl, .inr ⟨by decide, by decide⟩, _, rfl, _, rfl, _, _, rfl, rfl, (by show (0 : Int) < 1000003; decide), _, _, rfl, rfl, .inr ⟨by decide, by decide⟩, _, _, rfl, rfl, _, _, rfl, rfl, _, rfl, _, _, rfl, rfl, (by show (0 : Int) < 2147483629; decide), ?_⟩
      exact ⟨_, _, rfl, s2, e2⟩
    · rintro σ H2 ⟨m, x, rfl, s2, e2⟩
      refine ⟨_, rfl, _, rfl, a, _, rfl, s2.seq hS, fun q hq => ?_⟩
      rw [em]
      have s3 := Same.trans s2 (same_new (o := .lst (ms.map V.int)) hq)
      have e3 : upd H2 q (.lst (ms.map V.int)) q = some (.lst (ms.map V.int)) := upd_same
      generalize upd H2 q (.lst (ms.map V.int)) = H3 at s3 e3 ⊢
      refine ⟨q, rfl, ⟨_, SqL.of e3⟩, fun D hD => lc_list (K := K) (a := q) (xs := ms.map V.int) (g := gName 2) (tt := tYes) (fun i H4 => Same H3 H4 ∧ H4 D = some (.lst ((ms.take i).map V.int))) ⟨same_new hD, upd_same⟩ (fun i H4 _ h => SqL.of (h.1 _ _ e3)) ?_ ?_⟩
      · rintro i y H4 hi ⟨s4, e4⟩
        obtain ⟨z, hz, rfl⟩ : ∃ z, ms[i]? = some z ∧ V.int z = y := by
          rw [List.getElem?_map] at hi
          exact Option.map_eq_some_iff.mp hi
        refine ⟨rfl, _, rfl, z, rfl, _, e4, by rw [List.length_map, sizeLine_eq]; have := List.length_take_le' i ms; omega, fun b o h => ?_, ?_⟩
        · rw [upd_ne (ne_of_none h hD)]
          exact s4 _ _ h
        · rw [upd_same, List.take_add_one, hz, List.map_append]
          rfl
      · rintro H4 ⟨s4, e4⟩
        rw [List.length_map, List.take_length] at e4
        refine ⟨_, rfl, (by show 4 ≤ sizeLine; decide), fun t ht => ?_⟩
        have nDt : D ≠ t := ne_of_none e4 ht
        have s5 := Same.trans s3 s4
        exact k ⟨t, D⟩ _ (Same.trans s5 (same_new ht)) ⟨⟨0, m, 0, upd_same, by decide⟩, ⟨ms, by show upd H4 t _ D = _; rw [upd_ne nDt]; exact e4, Nat.le_trans hm hl⟩, nDt⟩ (sN s5 ht) (sN s3 hD)
end
theorem at_pos {α : Type} {xs : List α} {i : Int} (h0 : 0 ≤ i) (h1 : i < xs.length) : ∃ v, atI xs i = some v ∧ xs[i.toNat]? = some v ∧ v ∈ xs := by
  have hi : i.toNat < xs.length := by omega
  refine ⟨xs[i.toNat], ?_, List.getElem?_eq_getElem hi, List.getElem_mem hi⟩
  unfold atI
  rw [ix_pos h0 h1]
  exact List.getElem?_eq_getElem hi
abbrev sOf : Stmt := topOf "_law_of"
theorem scOf : FnScope ["box", "things"] ["box", "things"] (defScope sOf) := ⟨rfl, rfl, rfl, by decide +kernel, rfl, by decide +kernel, by decide +kernel⟩
def spOf (K : PySem.W.Frag) : Sp := fun vs H Q _ => ∃ (B : Bx) (p : Addr) (xs : List V), vs = [.ref B.b, .ref p] ∧ BoxAt B H ∧ H p = some (.lst xs) ∧ p ≠ B.b ∧ p ≠ B.l ∧ 0 < xs.length ∧ xs.length ≤ 1000 ∧ ∀ v H', v ∈ xs → Go B H H' → Q v H'
section
variable {P : Program} {w : World} {K : PySem.W.Frag} {mg : Str → Option Value} {base : Heap}
theorem ok_of {f fD : Addr} {fd fdD : FuncData} (F : Fun K "_law_of" "_law_of" sOf f fd) (T : Bt mg) (D_take : Df K mg "_law_take" sTake ["box", "limit"] fD fdD) : FnOk P w K mg base CX0 2 f fd ["box", "things"] (spOf K) := by
  have G_take : FnOk P w K mg base CX0 1 fD fdD ["box", "limit"] spTake := ok_take D_take.fn T
  refine F.ok scOf (fun vs H Q E h => ?_) (fun cdv A outer s H vs Q E hr h => ?_)
  · obtain ⟨B, p, xs, rfl, _⟩ := h
    rfl
  · obtain ⟨B, p, xs, rfl, hB, hp, np, nl, l0, l1, k⟩ := h
    refine ⟨_, pss_one (ps_ret (pe_ix ix_list (pv 1) (cal D_take G_take (hr.mono (by decide)) (pa_cons (pv 0) (pa_cons (pe_callB call_lenL (by rfl) T.len (by decide +kernel) (pa_cons (pv 1) pa_nil)) pa_nil))) (fun _ _ => rfl))), ?_⟩
    refine ⟨_, rfl, _, rfl, _, rfl, p, xs, rfl, SqL.of hp, B, _, rfl, hB, by omega, by omega, fun d H' d0 d1 g => ?_⟩
    obtain ⟨v, h1, _, h3⟩ := at_pos d0 d1
    exact ⟨p, xs, d, v, rfl, rfl, SqL.of (g.keep np nl hp), h1, k v H' h3 g⟩
end
end Lw
namespace Lw
open PySem PySem.Spec PyProof.Rows L2 XV TL XM
theorem er_perm {α : Type} : ∀ (ls : List α) (k : Nat) (v : α), ls[k]? = some v → (v :: ls.eraseIdx k).Perm ls
  | [], _, _, h => by simp at h
  | x :: xs, 0, v, h => by
    cases h
    exact List.Perm.refl _
  | x :: xs, k + 1, v, h => (List.Perm.swap x v _).trans (List.Perm.cons x (er_perm xs k v h))
abbrev sMixed : Stmt := topOf "_law_mixed"
abbrev Nmixed : List Str := ["box", "things", "left", "found", "k"]
theorem scMixed : FnScope Nmixed ["box", "things"] (defScope sMixed) := ⟨rfl, rfl, rfl, by decide +kernel, rfl, by decide +kernel, by decide +kernel⟩
def spMixed : Sp := fun vs H Q _ => ∃ (B : Bx) (p : Addr) (xs : List V), vs = [.ref B.b, .ref p] ∧ BoxAt B H ∧ H p = some (.lst xs) ∧ p ≠ B.b ∧ p ≠ B.l ∧ xs.length ≤ 100 ∧
  ∀ (q : Addr) (ms : List V) (H' : Hp), ms.Perm xs → Go B H H' → H q = none → H' q = some (.lst ms) → Q (.ref q) H'
section
variable {P : Program} {w : World} {K : PySem.W.Frag} {mg : Str → Option Value} {base : Heap}
theorem ok_mixed {f fD : Addr} {fd fdD : FuncData} (F : Fun K "_law_mixed" "_law_mixed" sMixed f fd) (T : Bt mg) (D_take : Df K mg "_law_take" sTake ["box", "limit"] fD fdD) : FnOk P w K mg base CX0 2 f fd ["box", "things"] spMixed := by
  have G_take : FnOk P w K mg base CX0 1 fD fdD ["box", "limit"] spTake := ok_take D_take.fn T
  refine F.ok scMixed (fun vs H Q E h => ?_) (fun cdv A outer s H vs Q E hr h => ?_)
  · obtain ⟨B, p, ns, rfl, _⟩ := h
    rfl
  · obtain ⟨B, p, xs, rfl, hB, hp, np, npl', hl, k⟩ := h
    refine ⟨_, pss_cons (ps_par (i := 2) (j := 3) rfl scMixed.nd rfl rfl (by decide) rfl rfl (pa_cons (pe_callTy call_listL (by rfl) T.list (by decide +kernel) (pa_cons (pv 1) pa_nil)) (pa_cons (pe_lst (pa_nil)) pa_nil)) (by rfl))
 (pss_cons (ps_for PassesOwn.never rfl (pi_range1 rfl T.range (pa_cons (pe_callB call_lenL (by rfl) T.len (by decide +kernel) (pa_cons (pv 1) pa_nil)) pa_nil)) (pg_name (i := 4) scMixed.nd rfl (Or.inl rfl))
 (pss_one (ps_expr (pe_bm PySem.F.plainAttrs_list PySem.F.slot_list_append PySem.F.type_list_append mt_append (pv 3) (pa_cons (pe_bm PySem.F.plainAttrs_list PySem.F.slot_list_pop PySem.F.type_list_pop mt_popAt (pv 2) (pa_cons (cal D_take G_take (hr.mono (by decide)) (pa_cons (pv 0) (pa_cons (pe_callB call_lenL (by rfl) T.len (by decide +kernel) (pa_cons (pv 2) pa_nil)) pa_nil))) pa_nil)) pa_nil)))))
 (pss_one (ps_ret (pv 3)))), ?_⟩
    refine ⟨_, rfl, p, _, rfl, SqL.of hp, fun l hl0 => ⟨Nat.zero_le _, fun r hr0 => ⟨_, _, rfl, ?_⟩⟩⟩
    have nlr : l ≠ r := ne_of_none upd_same hr0
    have r0 : H r = none := by rw [upd_ne nlr.symm] at hr0; exact hr0
    have g0 : Go B H (upd (upd H l (.lst xs)) r (.lst [])) := ((Go.refl hB).new hl0).new hr0
    refine ⟨_, rfl, p, _, rfl, SqL.of (g0.keep np npl' hp), _, rfl, by omega, by omega, for_range (n := xs.length) (fun i σ H2 => ∃ (ls rs : List V) (x : Option V), σ = [some (.ref B.b), some (.ref p), some (.ref l), some (.ref r), x] ∧ Go B H H2 ∧ H2 l = some (.lst ls) ∧ H2 r = some (.lst rs) ∧ (rs ++ ls).Perm xs ∧ rs.length = i ∧ ls.length + i = xs.length)
      ⟨xs, [], none, rfl, g0, by rw [upd_ne nlr]; exact upd_same, upd_same, List.Perm.refl _, rfl, rfl⟩ ?_ ?_⟩
    · rintro i σ H2 hi ⟨ls, rs, x, rfl, g2, e1, e2, s1, l1, l2⟩
      refine ⟨_, rfl, tyL e2, _, rfl, tyL e1, _, rfl, _, rfl, l, _, rfl, SqL.of e1, B, _, rfl, g2.bag, by omega, by omega, fun d H3 d0 d1 g3 => ?_⟩
      have nl := hB.away hl0
      have nr := hB.away r0
      have f1 := g3.keep nl.1 nl.2 e1
      have f2 := g3.keep nr.1 nr.2 e2
      obtain ⟨v, v1, v2, v3⟩ := at_pos d0 d1
      refine ⟨l, _, d, d.toNat, v, rfl, rfl, f1, by omega, by omega, (ixN_seq (ix_pos d0 d1)).1, v2, r, _, _, rfl, rfl, by rw [upd_ne nlr.symm]; exact f2, by rw [sizeLine_eq]; omega, ?_⟩
      refine ⟨ls.eraseIdx d.toNat, rs ++ [v], _, rfl, ((g2.trans g3).turn hB hl0).turn hB r0, ?_, upd_same, ?_, by rw [List.length_append, l1]; rfl, ?_⟩
      · rw [upd_ne nlr, upd_same]
      · have hd : d.toNat < ls.length := by omega
        have pm := er_perm ls d.toNat v v2
        rw [List.append_assoc]
        exact (List.Perm.append_left rs pm).trans s1
      · rw [List.length_eraseIdx, if_pos (by omega)]
        omega
    · rintro σ H2 ⟨ls, rs, x, rfl, g2, e1, e2, s1, l1, l2⟩
      have l0 : ls = [] := List.eq_nil_of_length_eq_zero (by omega)
      rw [l0, List.append_nil] at s1
      exact ⟨_, rfl, k r rs H2 s1 g2 r0 e2⟩
end
end Lw
namespace Lw
open PySem PySem.Spec PyProof.Rows L2 XV TL XM
abbrev sPut : Stmt := topOf "_law_put"
theorem scPut : FnScope ["box", "row", "x", "k"] ["box", "row", "x"] (defScope sPut) := ⟨rfl, rfl, rfl, by decide +kernel, rfl, by decide +kernel, by decide +kernel⟩
/-- the list with a thing put in somewhere -/
def spPut : Sp := fun vs H Q _ => ∃ (B : Bx) (p : Addr) (xs : List V) (x : V), vs = [.ref B.b, .ref p, x] ∧ BoxAt B H ∧ H p = some (.lst xs) ∧ p ≠ B.b ∧ p ≠ B.l ∧ xs.length ≤ 100 ∧
  ∀ (q : Addr) (k : Nat) (H' : Hp), k ≤ xs.length → Go B H H' → H q = none → H' q = some (.lst (xs.take k ++ [x] ++ xs.drop k)) → Q (.ref q) H'
abbrev sNumber : Stmt := topOf "_law_number"
theorem scNumber : FnScope ["box", "size"] ["box"] (defScope sNumber) := ⟨rfl, rfl, rfl, by decide +kernel, rfl, by decide +kernel, by decide +kernel⟩
def spNumber : Sp := fun vs H Q _ => ∃ B : Bx, vs = [.ref B.b] ∧ BoxAt B H ∧ ∀ (n : Int) (H' : Hp), -1000000000 < n → n < 1000000000 → Go B H H' → Q (.int n) H'
abbrev sPair : Stmt := topOf "_law_pair"
theorem scPair : FnScope ["box", "one", "two"] ["box"] (defScope sPair) := ⟨rfl, rfl, rfl, by decide +kernel, rfl, by decide +kernel, by decide +kernel⟩
def spPair : Sp := fun vs H Q _ => ∃ B : Bx, vs = [.ref B.b] ∧ BoxAt B H ∧ ∀ (t : Addr) (a b : Int) (H' : Hp), -1000000000 < a → a < b → b < 1000000000 → Go B H H' → H t = none → H' t = some (.tup [.int a, .int b]) → Q (.ref t) H'
section
variable {P : Program} {w : World} {K : PySem.W.Frag} {mg : Str → Option Value} {base : Heap}
theorem ok_number {f fD : Addr} {fd fdD : FuncData} (F : Fun K "_law_number" "_law_number" sNumber f fd) (T : Bt mg) (D_take : Df K mg "_law_take" sTake ["box", "limit"] fD fdD) : FnOk P w K mg base CX0 2 f fd ["box"] spNumber := by
  have G_take : FnOk P w K mg base CX0 1 fD fdD ["box", "limit"] spTake := ok_take D_take.fn T
  refine F.ok scNumber (fun vs H Q E h => ?_) (fun cdv A outer s H vs Q E hr h => ?_)
  · obtain ⟨B, rfl, _⟩ := h
    rfl
  · obtain ⟨B, rfl, hB, k⟩ := h
    refine ⟨_, pss_cons (ps_set (i := 1) scNumber.nd rfl (Or.inl rfl) (pe_ix ix_list (pe_lst (pa_cons (pe_int) (pa_cons (pe_int) (pa_cons (pe_int) (pa_cons (pe_op op_pow (pe_int) (pe_int)) pa_nil))))) (cal D_take G_take (hr.mono (by decide)) (pa_cons (pv 0) (pa_cons (pe_int) pa_nil))) (fun _ _ => rfl)))
 (pss_one (ps_ret (pe_op op_mul (cal D_take G_take (hr.mono (by decide)) (pa_cons (pv 0) (pa_cons (pv 1) pa_nil))) (pe_ix ix_list (pe_lst (pa_cons (pe_int) (pa_cons (pe_int) (pa_cons (pe_un un_neg (pe_int)) pa_nil)))) (cal D_take G_take (hr.mono (by decide)) (pa_cons (pv 0) (pa_cons (pe_int) pa_nil))) (fun _ _ => rfl))))), ?_⟩
    refine ⟨_, _, rfl, rfl, ⟨by decide, by decide, by decide⟩, (by show 4 ≤ sizeLine; decide), fun p hp => ⟨_, rfl, B, _, rfl, ?_, by decide, by decide, fun d H1 d0 d1 g1 => ?_⟩⟩
    · exact ((Go.refl hB).new hp).bag
    · have np := hB.away hp
      have gp := ((Go.refl hB).new (o := .lst [.int 2, .int 5, .int 20, .int (10 ^ 9)]) hp).trans g1
      have e1 := g1.keep np.1 np.2 (o := .lst [.int 2, .int 5, .int 20, .int (10 ^ 9)]) upd_same
      obtain ⟨v, h1, _, h3⟩ := at_pos (xs := [V.int 2, .int 5, .int 20, .int (10 ^ 9)]) d0 (by exact d1)
      obtain ⟨z, rfl, z0, z1⟩ : ∃ z, v = V.int z ∧ 0 < z ∧ z ≤ 1000000000 := by
        simp only [List.mem_cons, List.not_mem_nil, or_false] at h3
        rcases h3 with h3 | h3 | h3 | h3 <;> exact ⟨_, h3, by decide, by decide⟩
      refine ⟨p, _, d, _, rfl, rfl, SqL.of e1, h1, ?_⟩
      refine ⟨_, rfl, _, rfl, B, _, rfl, g1.bag, z0, by omega, fun x H2 x0 x1 g2 => ?_⟩
      refine ⟨_, rfl, (by show 3 ≤ sizeLine; decide), fun q hq => ⟨_, rfl, B, _, rfl, ?_, by decide, by decide, fun y H3 y0 y1 g3 => ?_⟩⟩
      · exact ((gp.trans g2).new hq).bag
      · have nq := g2.bag.away hq
        have e3 := g3.keep nq.1 nq.2 (o := .lst [.int 1, .int 1, .int (-1)]) upd_same
        have gq := (((gp.trans g2).new (o := .lst [.int 1, .int 1, .int (-1)]) hq).trans g3)
        obtain ⟨v, h1, _, h3⟩ := at_pos (xs := [V.int 1, .int 1, .int (-1)]) y0 (by exact y1)
        obtain ⟨s, rfl, hs⟩ : ∃ s, v = V.int s ∧ (s = 1 ∨ s = -1) := by
          simp only [List.mem_cons, List.not_mem_nil, or_false] at h3
          rcases h3 with h3 | h3 | h3
          · exact ⟨_, h3, .inl rfl⟩
          · exact ⟨_, h3, .inl rfl⟩
          · exact ⟨_, h3, .inr rfl⟩
        refine ⟨q, _, y, _, rfl, rfl, SqL.of e3, h1, x, s, rfl, rfl, .inr ⟨?_, ?_⟩, k _ H3 ?_ ?_ gq⟩
        · rcases hs with rfl | rfl <;> decide
        · rcases hs with rfl | rfl <;> decide
        · rcases hs with rfl | rfl <;> omega
        · rcases hs with rfl | rfl <;> omega
end
end Lw
namespace Lw
open PySem PySem.Spec PyProof.Rows L2 XV TL XM
theorem cut_to (xs : List V) (k : Nat) (h : k ≤ xs.length) : cutV xs none (some (k : Int)) = xs.take k := by
  show ((xs.drop 0).take (HT.sIx xs.length xs.length (some ((k : Nat) : Int)) - 0)) = _
  rw [HT.sIx_nat, Nat.min_eq_left h]
  rfl
theorem cut_from (xs : List V) (k : Nat) (h : k ≤ xs.length) : cutV xs (some (k : Int)) none = xs.drop k := by
  show ((xs.drop (HT.sIx xs.length 0 (some ((k : Nat) : Int)))).take (xs.length - HT.sIx xs.length 0 (some ((k : Nat) : Int)))) = _
  rw [HT.sIx_nat, Nat.min_eq_left h, List.take_of_length_le]
  rw [List.length_drop]
  omega
section
variable {P : Program} {w : World} {K : PySem.W.Frag} {mg : Str → Option Value} {base : Heap}
theorem ok_put {f fD : Addr} {fd fdD : FuncData} (F : Fun K "_law_put" "_law_put" sPut f fd) (T : Bt mg) (D_take : Df K mg "_law_take" sTake ["box", "limit"] fD fdD) : FnOk P w K mg base CX0 2 f fd ["box", "row", "x"] spPut := by
  have G_take : FnOk P w K mg base CX0 1 fD fdD ["box", "limit"] spTake := ok_take D_take.fn T
  refine F.ok scPut (fun vs H Q E h => ?_) (fun cdv A outer s H vs Q E hr h => ?_)
  · obtain ⟨B, p, xs, x, rfl, _⟩ := h
    rfl
  · obtain ⟨B, p, xs, x, rfl, hB, hp, np, npl, hl, k⟩ := h
    refine ⟨_, pss_cons (ps_set (i := 3) scPut.nd rfl (Or.inl rfl) (cal D_take G_take (hr.mono (by decide)) (pa_cons (pv 0) (pa_cons (pe_op op_add (pe_int) (pe_callB call_lenL (by rfl) T.len (by decide +kernel) (pa_cons (pv 1) pa_nil))) pa_nil))))
 (pss_one (ps_ret (pe_op op_cat (pe_op op_cat (pe_callTy call_listL (by rfl) T.list (by decide +kernel) (pa_cons (pe_slice sl_list (pv 1) (po_none) (po_some (pv 3))) pa_nil)) (pe_lst (pa_cons (pv 2) pa_nil))) (pe_callTy call_listL (by rfl) T.list (by decide +kernel) (pa_cons (pe_slice sl_list (pv 1) (po_some (pv 3)) (po_none)) pa_nil))))), ?_⟩
    refine ⟨_, rfl, _, rfl, p, _, rfl, SqL.of hp, _, _, rfl, rfl, B, _, rfl, hB, by omega, by omega, fun d H1 d0 d1 g1 => ?_⟩
    obtain ⟨n, rfl⟩ : ∃ n : Nat, d = n := ⟨d.toNat, by omega⟩
    have hn : n ≤ xs.length := by omega
    have e1 := g1.keep np npl hp
    refine ⟨_, rfl, _, rfl, _, rfl, p, _, rfl, SqL.of e1, fun q hq => ?_⟩
    rw [cut_to xs n hn]
    have s2 := same_new (o := .lst (xs.take n)) hq
    have e2 : upd H1 q (.lst (xs.take n)) q = some (.lst (xs.take n)) := upd_same
    generalize upd H1 q (.lst (xs.take n)) = H2 at s2 e2 ⊢
    refine ⟨q, _, rfl, SqL.of e2, fun r hr => ?_⟩
    have s3 := Same.trans s2 (same_new (o := .lst (xs.take n)) hr)
    have e3 : upd H2 r (.lst (xs.take n)) r = some (.lst (xs.take n)) := upd_same
    generalize upd H2 r (.lst (xs.take n)) = H3 at s3 e3 ⊢
    refine ⟨_, rfl, (by show 1 ≤ sizeLine; decide), fun t ht => ?_⟩
    have s4 := Same.trans s3 (same_new (o := .lst [x]) ht)
    have e4 : upd H3 t (.lst [x]) t = some (.lst [x]) := upd_same
    have r4 := (same_new (o := .lst [x]) ht) _ _ e3
    generalize upd H3 t (.lst [x]) = H4 at s4 e4 r4 ⊢
    refine ⟨r, t, _, _, rfl, rfl, r4, e4, by rw [sizeLine_eq, List.length_take]; show _ + 1 ≤ _; omega, fun u hu => ?_⟩
    have s5 := Same.trans s4 (same_new (o := .lst (xs.take n ++ [x])) hu)
    have e5 : upd H4 u (.lst (xs.take n ++ [x])) u = some (.lst (xs.take n ++ [x])) := upd_same
    generalize upd H4 u (.lst (xs.take n ++ [x])) = H5 at s5 e5 ⊢
    refine ⟨_, rfl, _, rfl, _, rfl, p, _, rfl, SqL.of (s5 _ _ e1), fun q2 hq2 => ?_⟩
    rw [cut_from xs n hn]
    have s6 := Same.trans s5 (same_new (o := .lst (xs.drop n)) hq2)
    have u6 := (same_new (o := .lst (xs.drop n)) hq2) _ _ e5
    have e6 : upd H5 q2 (.lst (xs.drop n)) q2 = some (.lst (xs.drop n)) := upd_same
    generalize upd H5 q2 (.lst (xs.drop n)) = H6 at s6 u6 e6 ⊢
    refine ⟨q2, _, rfl, SqL.of e6, fun r2 hr2 => ?_⟩
    have s7 := Same.trans s6 (same_new (o := .lst (xs.drop n)) hr2)
    have u7 := (same_new (o := .lst (xs.drop n)) hr2) _ _ u6
    have e7 : upd H6 r2 (.lst (xs.drop n)) r2 = some (.lst (xs.drop n)) := upd_same
    generalize upd H6 r2 (.lst (xs.drop n)) = H7 at s7 u7 e7 ⊢
    refine ⟨u, r2, _, _, rfl, rfl, u7, e7, by rw [List.length_append, List.length_take, List.length_drop, sizeLine_eq]; show _ + 1 + _ ≤ _; omega, fun y hy => ?_⟩
    exact k y n _ hn ((g1.same s7).new hy) (g1.free (sN s7 hy)) upd_same
theorem ok_pair {f fD fN : Addr} {fd fdD fdN : FuncData} (F : Fun K "_law_pair" "_law_pair" sPair f fd) (T : Bt mg) (D_take : Df K mg "_law_take" sTake ["box", "limit"] fD fdD) (D_number : Df K mg "_law_number" sNumber ["box"] fN fdN) : FnOk P w K mg base CX0 3 f fd ["box"] spPair := by
  have G_number : FnOk P w K mg base CX0 2 fN fdN ["box"] spNumber := ok_number D_number.fn T D_take
  refine F.ok scPair (fun vs H Q E h => ?_) (fun cdv A outer s H vs Q E hr h => ?_)
  · obtain ⟨B, rfl, _⟩ := h
    rfl
  · obtain ⟨B, rfl, hB, k⟩ := h
    refine ⟨_, pss_cons (ps_par (i := 1) (j := 2) rfl scPair.nd rfl rfl (by decide) rfl rfl (pa_cons (cal D_number G_number (hr.mono (by decide)) (pa_cons (pv 0) pa_nil)) (pa_cons (cal D_number G_number (hr.mono (by decide)) (pa_cons (pv 0) pa_nil)) pa_nil)) (by rfl))
 (pss_mid (ps_if (pt_cmpR op_eq (pv 1) (pv 2) (nomark _))
 (pss_one (ps_set (i := 2) scPair.nd rfl (Or.inl rfl) (pe_ifExp (pt_cmpR op_lt (pv 1) (pe_int) (nomark _)) (pe_op op_add (pv 1) (pe_int)) (pe_op op_sub (pv 1) (pe_int)))))
 (pss_nil))
 (pss_one (ps_ret (pe_tup (pa_cons (pe_callB (call_min2 rfl) (by rfl) T.min (by decide +kernel) (pa_cons (pv 1) (pa_cons (pv 2) pa_nil))) (pa_cons (pe_callB (call_max2 rfl) (by rfl) T.max (by decide +kernel) (pa_cons (pv 1) (pa_cons (pv 2) pa_nil))) pa_nil)))))), ?_⟩
    refine ⟨_, rfl, B, rfl, hB, fun a H1 a0 a1 g1 => ⟨_, rfl, B, rfl, g1.bag, fun b H2 b0 b1 g2 => ⟨_, _, rfl, ?_⟩⟩⟩
    have g := g1.trans g2
    refine ⟨fun σ H3 => H3 = H2 ∧ ∃ z : Int, σ = [some (.ref B.b), some (.int a), some (.int z)] ∧ a ≠ z ∧ -1000000000 < z ∧ z < 1000000000, ?_, ?_⟩
    · refine ⟨_, rfl, _, rfl, rfl, _, rfl, ite2 (fun c => ?_) (fun c => ?_)⟩
      · refine ⟨_, rfl, _, _, rfl, rfl, _, rfl, ite2 (fun c2 => ?_) (fun c2 => ?_)⟩
        · have c2' : a < 5 := of_decide_eq_true c2
          exact ⟨_, rfl, _, _, rfl, rfl, rfl, _, rfl, by omega, by omega, by omega⟩
        · have c2' : ¬ a < 5 := fun h => c2 (decide_eq_true h)
          exact ⟨_, rfl, _, _, rfl, rfl, rfl, _, rfl, by omega, by omega, by omega⟩
      · have c' : ¬ (V.int a = V.int b) := fun h => c (decide_eq_true h)
        exact ⟨rfl, b, rfl, fun e => c' (by rw [e]), b0, b1⟩
    · rintro σ H3 ⟨rfl, z, rfl, hz, z0, z1⟩
      refine ⟨_, rfl, _, rfl, a, z, rfl, _, rfl, _, rfl, a, z, rfl, (by show 2 ≤ sizeLine; decide), fun t ht => ?_⟩
      refine k t _ _ _ ?_ ?_ ?_ (g.new ht) (g.free ht) upd_same
      · split <;> omega
      · split <;> split <;> omega
      · split <;> omega
end
end Lw
namespace Lw
open PySem PySem.Spec PyProof.Rows L2 XV TL XM
/-! pairs, rows and lives as plain data -/
def pD (p : Pr) : PyData := .tuple [.int p.1, .int p.2]
theorem dp_pair {K : PySem.W.Frag} {M : Hp} {t : Addr} {p : Pr} (h : SqT K M t [.int p.1, .int p.2]) : Dp K M (.ref t) (pD p) := .tup h (.cons (.int _) (.cons (.int _) .nil))
theorem dp_pairs {K : PySem.W.Frag} {M : Hp} : ∀ {xs : List V} {ps : List Pr}, PairVs K M xs ps → DpAll K M xs (ps.map pD)
  | [], [], _ => .nil
  | [], _ :: _, h => absurd h.1 (by simp)
  | _ :: _, [], h => absurd h.1 (by simp)
  | x :: xs, p :: ps, h => by
    obtain ⟨t, q, e, rfl, ht⟩ := h.2 0 x rfl
    cases e
    exact .cons (dp_pair ht) (dp_pairs ⟨by have := h.1; simp only [List.length_cons] at this; omega, fun i y hy => h.2 (i + 1) y hy⟩)
theorem dp_ints {K : PySem.W.Frag} {M : Hp} : ∀ (ns : List Int), DpAll K M (ns.map V.int) (ns.map PyData.int)
  | [] => .nil
  | n :: ns => .cons (.int n) (dp_ints ns)
theorem can_pairs : ∀ ps : List Pr, PyData.canLayAll0 (ps.map pD) = true
  | [] => rfl
  | p :: ps => by
    show (PyData.canLay0 (pD p) && PyData.canLayAll0 (ps.map pD)) = true
    rw [can_pairs ps]
    rfl
theorem dep_pairs : ∀ ps : List Pr, PyData.depthAll (ps.map pD) ≤ 1
  | [] => by simp [PyData.depthAll]
  | p :: ps => by
    have h := dep_pairs ps
    show max (PyData.depth (pD p)) (PyData.depthAll (ps.map pD)) ≤ 1
    have e : PyData.depth (pD p) = 1 := by simp [pD, PyData.depth, PyData.depthAll]
    omega
theorem can_ints : ∀ ns : List Int, PyData.canLayAll0 (ns.map PyData.int) = true
  | [] => rfl
  | n :: ns => by
    show (PyData.canLay0 (.int n) && PyData.canLayAll0 (ns.map PyData.int)) = true
    rw [can_ints ns]
    rfl
theorem dep_ints : ∀ ns : List Int, PyData.depthAll (ns.map PyData.int) = 0
  | [] => by simp [PyData.depthAll]
  | n :: ns => by
    have h := dep_ints ns
    show max (PyData.depth (.int n)) (PyData.depthAll (ns.map PyData.int)) = 0
    have e : PyData.depth (.int n) = 0 := by simp [PyData.depth]
    omega
theorem shaped_pairs (ps : List Pr) : SeqAt.shaped (.list (ps.map pD)) = true := by
  unfold SeqAt.shaped
  rw [Bool.and_eq_true]
  refine ⟨can_pairs ps, decide_eq_true ?_⟩
  have h := dep_pairs ps
  show PyData.depthAll (ps.map pD) + 1 ≤ 64
  omega
theorem eqv_ints : ∀ ns ms : List Int, PyData.eqvAll (ns.map PyData.int) (ms.map PyData.int) = decide (ns = ms)
  | [], [] => rfl
  | [], _ :: _ => rfl
  | _ :: _, [] => rfl
  | n :: ns, m :: ms => by
    show ((n == m) && PyData.eqvAll (ns.map PyData.int) (ms.map PyData.int)) = _
    rw [eqv_ints ns ms, Bool.eq_iff_iff]
    simp only [Bool.and_eq_true, beq_iff_eq, decide_eq_true_eq, List.cons.injEq]
theorem eqv_pair (p q : Pr) : PyData.eqv (pD p) (pD q) = decide (p = q) := by
  obtain ⟨a, b⟩ := p
  obtain ⟨c, d⟩ := q
  show PyData.eqvAll ([a, b].map PyData.int) ([c, d].map PyData.int) = _
  rw [eqv_ints, Bool.eq_iff_iff]
  simp only [decide_eq_true_eq, List.cons.injEq, and_true, Prod.mk.injEq]
theorem eqv_pairs : ∀ ns ms : List Pr, PyData.eqvAll (ns.map pD) (ms.map pD) = decide (ns = ms)
  | [], [] => rfl
  | [], _ :: _ => rfl
  | _ :: _, [] => rfl
  | n :: ns, m :: ms => by
    show ((PyData.eqv (pD n) (pD m)) && PyData.eqvAll (ns.map pD) (ms.map pD)) = _
    rw [eqv_pairs ns ms, eqv_pair, Bool.eq_iff_iff]
    simp only [Bool.and_eq_true, decide_eq_true_eq, List.cons.injEq]
/-- lives as a list of five, and as the tuple that == builds -/
def fiveD (hs ss : List Pr) (ls : List Int) (lo hi : Int) : List PyData := [.tuple (hs.map pD), .tuple (ss.map pD), .tuple (ls.map PyData.int), .int lo, .int hi]
theorem can_five (hs ss : List Pr) (ls : List Int) (lo hi : Int) : PyData.canLayAll0 (fiveD hs ss ls lo hi) = true := by
  simp only [fiveD, PyData.canLayAll0, PyData.canLay0, can_pairs, can_ints, Bool.and_self]
theorem dep_five (hs ss : List Pr) (ls : List Int) (lo hi : Int) : PyData.depthAll (fiveD hs ss ls lo hi) ≤ 2 := by
  have h1 := dep_pairs hs
  have h2 := dep_pairs ss
  have h3 := dep_ints ls
  simp only [fiveD, PyData.depthAll, PyData.depth]
  omega
theorem shaped_fiveL (hs ss : List Pr) (ls : List Int) (lo hi : Int) : SeqAt.shaped (.list (fiveD hs ss ls lo hi)) = true := by
  unfold SeqAt.shaped
  rw [Bool.and_eq_true]
  refine ⟨can_five hs ss ls lo hi, decide_eq_true ?_⟩
  have h := dep_five hs ss ls lo hi
  show PyData.depthAll (fiveD hs ss ls lo hi) + 1 ≤ 64
  omega
theorem shaped_fiveT (hs ss : List Pr) (ls : List Int) (lo hi : Int) : SeqAt.shaped (.tuple (fiveD hs ss ls lo hi)) = true := by
  unfold SeqAt.shaped
  rw [Bool.and_eq_true]
  refine ⟨can_five hs ss ls lo hi, decide_eq_true ?_⟩
  have h := dep_five hs ss ls lo hi
  show PyData.depthAll (fiveD hs ss ls lo hi) + 1 ≤ 64
  omega
theorem eqv_five (hs ss hs' ss' : List Pr) (ls ls' : List Int) (lo hi lo' hi' : Int) : PyData.eqvAll (fiveD hs ss ls lo hi) (fiveD hs' ss' ls' lo' hi') = decide (hs = hs' ∧ ss = ss' ∧ ls = ls' ∧ lo = lo' ∧ hi = hi') := by
  show (PyData.eqvAll (hs.map pD) (hs'.map pD) && (PyData.eqvAll (ss.map pD) (ss'.map pD) && (PyData.eqvAll (ls.map PyData.int) (ls'.map PyData.int) && ((lo == lo') && ((hi == hi') && true))))) = _
  rw [eqv_pairs, eqv_pairs, eqv_ints, Bool.eq_iff_iff]
  simp only [Bool.and_eq_true, beq_iff_eq, decide_eq_true_eq, and_true]
end Lw
namespace Lw
open PySem PySem.Spec PyProof.Rows L2 XV TL XM
theorem un64 {k : Nat} {A : Around} (hr : Room k A) : A.units + 64 < cLine := by
  have := un65 hr
  omega
theorem Go.tup {B : Bx} {H H1 : Hp} {t : Addr} {ys : List V} (g : Go B H H1) (hB : BoxAt B H) (h : H t = some (.tup ys)) : H1 t = some (.tup ys) := by
  obtain ⟨i, m, c, h1, _⟩ := hB.ex
  obtain ⟨ns, h2, _⟩ := hB.ls
  exact g.keep (fun z => by rw [z, h1] at h; cases h) (fun z => by rw [z, h2] at h; cases h) h
theorem RawVs.turn {M M' : Hp} {xs : List V} {ps : List Pr} (h : RawVs M xs ps) (s : ∀ t ys, M t = some (.tup ys) → M' t = some (.tup ys)) : RawVs M' xs ps := ⟨h.1, fun i x hx => by
  obtain ⟨t, p, a, b, c⟩ := h.2 i x hx
  exact ⟨t, p, a, b, s _ _ c⟩⟩
theorem RawVs.snoc {M : Hp} {xs : List V} {ps : List Pr} {t : Addr} {p : Pr} (h : RawVs M xs ps) (e : M t = some (.tup [.int p.1, .int p.2])) : RawVs M (xs ++ [.ref t]) (ps ++ [p]) := by
  refine ⟨by rw [List.length_append, List.length_append, h.1]; rfl, fun i x hx => ?_⟩
  by_cases hi : i < xs.length
  · rw [List.getElem?_append_left hi] at hx
    obtain ⟨u, q, a, b, c⟩ := h.2 i x hx
    exact ⟨u, q, by rw [List.getElem?_append_left (by rw [← h.1]; exact hi)]; exact a, b, c⟩
  · rw [List.getElem?_append_right (by omega)] at hx
    obtain ⟨j, hj⟩ : ∃ j, i - xs.length = j := ⟨_, rfl⟩
    rw [hj] at hx
    cases j with
    | zero =>
      cases hx
      exact ⟨t, p, by rw [List.getElem?_append_right (by rw [← h.1]; omega), ← h.1, hj]; rfl, rfl, e⟩
    | succ j => cases hx
theorem RawVs.pairs {K : PySem.W.Frag} {M : Hp} {xs : List V} {ps : List Pr} (h : RawVs M xs ps) : PairVs K M xs ps := ⟨h.1, fun i x hx => by
  obtain ⟨t, p, a, b, c⟩ := h.2 i x hx
  exact ⟨t, p, a, b, SqT.of c⟩⟩
/-- a pair as the law makes it -/
def GoodP (p : Pr) : Prop := -1000000000 < p.1 ∧ p.1 < p.2 ∧ p.2 < 1000000000
abbrev sRow : Stmt := topOf "_law_row"
abbrev Nrow : List Str := ["box", "many", "found", "k"]
theorem scRow : FnScope Nrow ["box", "many"] (defScope sRow) := ⟨rfl, rfl, rfl, by decide +kernel, rfl, by decide +kernel, by decide +kernel⟩
def spRow : Sp := fun vs H Q _ => ∃ B : Bx, vs = [.ref B.b, .int 5] ∧ BoxAt B H ∧ ∀ (q : Addr) (xs : List V) (ps : List Pr) (H' : Hp), ps.length ≤ 5 → (∀ p ∈ ps, GoodP p) → Go B H H' → H q = none → H' q = some (.lst xs) → RawVs H' xs ps → Q (.ref q) H'
section
variable {P : Program} {w : World} {K : PySem.W.Frag} {mg : Str → Option Value} {base : Heap}
theorem ok_row {f fD fN fP : Addr} {fd fdD fdN fdP : FuncData} (F : Fun K "_law_row" "_law_row" sRow f fd) (T : Bt mg) (D_take : Df K mg "_law_take" sTake ["box", "limit"] fD fdD) (D_number : Df K mg "_law_number" sNumber ["box"] fN fdN) (D_pair : Df K mg "_law_pair" sPair ["box"] fP fdP) : FnOk P w K mg base CX0 4 f fd ["box", "many"] spRow := by
  have G_take : FnOk P w K mg base CX0 1 fD fdD ["box", "limit"] spTake := ok_take D_take.fn T
  have G_pair : FnOk P w K mg base CX0 3 fP fdP ["box"] spPair := ok_pair D_pair.fn T D_take D_number
  refine F.ok scRow (fun vs H Q E h => ?_) (fun cdv A outer s H vs Q E hr h => ?_)
  · obtain ⟨B, rfl, _⟩ := h
    rfl
  · obtain ⟨B, rfl, hB, k⟩ := h
    refine ⟨_, pss_cons (ps_setLc (i := 2) (own := [("k", 3)]) (g := gName 3) (tt := tYes) rfl scRow.nd rfl rfl (sw_true rfl rfl rfl (by decide +kernel)) (pi_range1 rfl T.range (pa_cons (cal D_take G_take (hr.mono (by decide)) (pa_cons (pv 0) (pa_cons (pv 1) pa_nil))) pa_nil)) (blkOk_by (N := Nrow) (sc := defScope sRow) (by decide +kernel)) (fun _ _ _ _ _ => pg_name (i := 3) scRow.nd rfl (Or.inl rfl)) (fun _ _ _ _ _ => pts_nil) (fun _ _ _ _ _ => cal D_pair G_pair (hr.mono (by decide)) (pa_cons (pv 0) pa_nil)))
 (pss_cons (ps_if (PW.pt (pw_and (pt_cmpR (op_neD (by exact un64 hr)) (pv 2) (pe_lst (pa_nil)) (nomark _)) (pw_and1 (pt_cmpR op_eq (cal D_take G_take (hr.mono (by decide)) (pa_cons (pv 0) (pa_cons (pe_int) pa_nil))) (pe_int) (nomark _)))))
 (pss_one (ps_expr (pe_bm PySem.F.plainAttrs_list PySem.F.slot_list_append PySem.F.type_list_append mt_append (pv 2) (pa_cons (pe_ix ix_list (pv 2) (pe_int) (fun _ _ => rfl)) pa_nil))))
 (pss_nil))
 (pss_one (ps_ret (pv 2)))), ?_⟩
    refine ⟨_, rfl, _, rfl, B, _, rfl, hB, by decide, by decide, fun d H1 d0 d1 g1 => ?_⟩
    obtain ⟨n, rfl⟩ : ∃ n : Nat, d = n := ⟨d.toNat, by omega⟩
    refine ⟨_, rfl, by omega, by omega, fun D hD => lc_range (lo := 0) (n := n) (g := gName 3) (tt := tYes) (fun i H2 => Go B H H2 ∧ ∃ xs ps, H2 D = some (.lst xs) ∧ RawVs H2 xs ps ∧ ps.length = i ∧ ∀ p ∈ ps, GoodP p) ⟨g1.new hD, [], [], upd_same, ⟨rfl, fun i x hx => by simp at hx⟩, rfl, fun _ h => by simp at h⟩ ?_ ?_⟩
    · rintro i H2 hi ⟨g2, xs, ps, e2, r2, l2, a2⟩
      refine ⟨rfl, _, rfl, B, rfl, g2.bag, fun t a b H3 a0 ab b1 g3 ht et => ?_⟩
      have nD := hB.away (g1.free hD)
      have e3 := g3.keep nD.1 nD.2 e2
      refine ⟨_, e3, by rw [r2.1, sizeLine_eq]; omega, (g2.trans g3).turn hB (g1.free hD), _, ps ++ [(a, b)], upd_same, ?_, by rw [List.length_append, l2]; rfl, fun p hp => ?_⟩
      · refine RawVs.turn (M := H3) (RawVs.snoc (p := (a, b)) (r2.turn fun u ys h => g3.tup g2.bag h) et) fun u ys h => ?_
        rw [upd_ne (fun z => by rw [z, e3] at h; cases h)]
        exact h
      · rcases List.mem_append.mp hp with h | h
        · exact a2 p h
        · rw [List.mem_singleton.mp h]
          exact ⟨a0, ab, b1⟩
    · rintro H2 ⟨g2, xs, ps, e2, r2, l2, a2⟩
      have fD := g1.free hD
      have nD := hB.away fD
      refine ⟨_, rfl, Nat.zero_le _, fun e he => ?_⟩
      have s3 := same_new (o := .lst []) he
      have g3 := g2.same s3
      have e3 := s3 _ _ e2
      have r3 := r2.turn fun u ys h => s3 _ _ h
      have n3 : upd H2 e (.lst []) e = some (.lst []) := upd_same
      generalize upd H2 e (.lst []) = H3 at s3 g3 e3 r3 n3 ⊢
      refine ⟨_, _, .lst (SqL.of e3) (dp_pairs r3.pairs), .lst (SqL.of n3) .nil, shaped_pairs ps, shaped_pairs [], _, rfl, ite2 (fun c => ?_) (fun c => ?_)⟩
      · refine ⟨_, rfl, B, _, rfl, g3.bag, by decide, by decide, fun d H4 d0 d1 g4 => ?_⟩
        have g5 := g3.trans g4
        have e4 := g4.keep nD.1 nD.2 e3
        have r4 := r3.turn fun u ys h => g4.tup g3.bag h
        refine ⟨rfl, _, rfl, ite2 (fun c2 => ?_) (fun c2 => ?_)⟩
        · obtain ⟨p, pr, rfl⟩ : ∃ p pr, ps = p :: pr := by
            cases ps with
            | nil => exact absurd c (by decide)
            | cons p pr => exact ⟨p, pr, rfl⟩
          obtain ⟨x, xr, rfl⟩ : ∃ x xr, xs = x :: xr := by
            cases xs with
            | nil => exact absurd r4.1 (by simp)
            | cons x xr => exact ⟨x, xr, rfl⟩
          obtain ⟨t, p', ep, rfl, et⟩ := r4.2 0 x rfl
          cases ep
          refine ⟨_, rfl, tyL e4, _, rfl, D, _, 0, _, rfl, rfl, SqL.of e4, atI_nat (xs := V.ref t :: xr) (j := 0) (v := .ref t) rfl, D, _, _, rfl, rfl, e4, by rw [r4.1, sizeLine_eq]; omega, ?_⟩
          refine ⟨_, rfl, k D _ (p :: pr ++ [p]) _ ?_ (fun q hq => ?_) (g5.turn hB fD) fD upd_same ?_⟩
          · rw [List.length_append, l2]
            show n + 1 ≤ 5
            omega
          · rcases List.mem_append.mp hq with h | h
            · exact a2 q h
            · rw [List.mem_singleton.mp h]
              exact a2 p (by simp)
          · refine RawVs.turn (M := H4) (r4.snoc et) fun u ys h => ?_
            rw [upd_ne (fun z => by rw [z, e4] at h; cases h)]
            exact h
        · exact ⟨_, rfl, k D xs ps _ (by omega) a2 g5 fD e4 r4⟩
      · exact iteF ⟨_, rfl, k D xs ps _ (by omega) a2 g3 fD e3 r3⟩
end
end Lw
namespace Lw
open PySem PySem.Spec PyProof.Rows L2 XV TL XM
abbrev sLenL : Stmt := inClass (topOf "Lives") 5
theorem scLenL : FnScope ["self"] ["self"] (defScope sLenL) := ⟨rfl, rfl, rfl, by decide +kernel, rfl, by decide +kernel, by decide +kernel⟩
def spLenL (K : PySem.W.Frag) (C : Addr) : Sp := fun vs H Q _ => ∃ (p : Addr) (hs ss : List Pr) (ls : List Int) (lo hi : Int), vs = [.ref p] ∧ LivesAt K C H p hs ss ls lo hi ∧ hs.length + ss.length ≤ 1000 ∧ ∀ H', Same H H' → Q (.int ((hs.length : Int) + ss.length)) H'
abbrev sTold : Stmt := topOf "_law_told_lives"
theorem scTold : FnScope ["told"] ["told"] (defScope sTold) := ⟨rfl, rfl, rfl, by decide +kernel, rfl, by decide +kernel, by decide +kernel⟩
/-- the list of the five attributes -/
def spTold (K : PySem.W.Frag) (C : Addr) : Sp := fun vs H Q _ => ∃ (p : Addr) (hs ss : List Pr) (ls : List Int) (lo hi : Int), vs = [.ref p] ∧ LivesAt K C H p hs ss ls lo hi ∧ ∀ q H', Same H H' → H q = none → Dp K H' (.ref q) (.list (fiveD hs ss ls lo hi)) → Q (.ref q) H'
section
variable {P : Program} {w : World} {K : PySem.W.Frag} {mg : Str → Option Value} {base : Heap}
theorem ok_told {f C : Addr} {fd : FuncData} (F : Fun K "_law_told_lives" "_law_told_lives" sTold f fd) (T : Bt mg) (L : LCls K C) (I : C8.InsC K C) (gC : mg "Lives" = some (.ref C)) : FnOk P w K mg base CX0 1 f fd ["told"] (spTold K C) := by
  refine F.ok scTold (fun vs H Q E h => ?_) (fun cdv A outer s H vs Q E hr h => ?_)
  · obtain ⟨p, hs, ss, ls, lo, hi, rfl, _⟩ := h
    rfl
  · obtain ⟨p, hs, ss, ls, lo, hi, rfl, lv, k⟩ := h
    refine ⟨_, pss_cons (ps_if (pt_not (pt_val (pe_callB (C8.call_isC I) (by rfl) T.isinstance (by decide +kernel) (pa_cons (pv 0) (pa_cons (C8.pe_gc (v := .ref C) (by rfl) ⟨_, gC, rfl⟩) pa_nil)))))
 (pss_one (ps_ret (pe_non)))
 (pss_nil))
 (pss_one (ps_ret (pe_lst (pa_cons (pe_fld (pv 0) rfl) (pa_cons (pe_fld (pv 0) rfl) (pa_cons (pe_fld (pv 0) rfl) (pa_cons (pe_fld (pv 0) rfl) (pa_cons (pe_fld (pv 0) rfl) pa_nil)))))))), ?_⟩
    obtain ⟨dx, a, b, l, xs, ys, h1, h2, h3, h4, h5, h6⟩ := lv.ex
    refine ⟨_, rfl, p, dx, _, rfl, h1, _, rfl, iteF ?_⟩
    refine ⟨_, rfl, p, C, dx, _, _, rfl, h1, L.cl, L.nH, lf_hollows, ?_⟩
    refine ⟨_, rfl, p, C, dx, _, _, rfl, h1, L.cl, L.nS, lf_summits, ?_⟩
    refine ⟨_, rfl, p, C, dx, _, _, rfl, h1, L.cl, L.nL, lf_loose, ?_⟩
    refine ⟨_, rfl, p, C, dx, _, _, rfl, h1, L.cl, L.nlo, lf_lowest, ?_⟩
    refine ⟨_, rfl, p, C, dx, _, _, rfl, h1, L.cl, L.nhi, lf_highest, (by show 5 ≤ sizeLine; decide), fun q hq => ?_⟩
    have s1 := same_new (o := .lst [.ref a, .ref b, .ref l, .int lo, .int hi]) hq
    exact k q _ s1 hq (.lst (SqL.of upd_same) (.cons (.tup (SqT.of (s1 _ _ h2)) (dp_pairs (h5.mono s1))) (.cons (.tup (SqT.of (s1 _ _ h3)) (dp_pairs (h6.mono s1))) (.cons (.tup (SqT.of (s1 _ _ h4)) (dp_ints ls)) (.cons (.int lo) (.cons (.int hi) .nil))))))
end
end Lw
namespace Lw
open PySem PySem.Spec PyProof.Rows L2 XV TL XM
abbrev sReprL : Stmt := inClass (topOf "Lives") 6
theorem scReprL : FnScope ["self"] ["self"] (defScope sReprL) := ⟨rfl, rfl, rfl, by decide +kernel, rfl, by decide +kernel, by decide +kernel⟩
/-- the name that repr gives -/
def lvR (n m k : Nat) : Str := ("Lives(" : Str) ++ sI n ++ (" hollows, " : Str) ++ sI m ++ (" summits, " : Str) ++ sI k ++ (" loose)" : Str)
def spReprL (K : PySem.W.Frag) (C : Addr) : Sp := fun vs H Q _ => ∃ (p : Addr) (hs ss : List Pr) (ls : List Int) (lo hi : Int), vs = [.ref p] ∧ LivesAt K C H p hs ss ls lo hi ∧ hs.length ≤ 1000 ∧ ss.length ≤ 1000 ∧ ls.length ≤ 1000 ∧ ∀ H', Same H H' → Q (.str (lvR hs.length ss.length ls.length)) H'
theorem pairVs_len {K : PySem.W.Frag} {M : Hp} {xs : List V} {ps : List Pr} (h : PairVs K M xs ps) : xs.length = ps.length := h.1
section
variable {P : Program} {w : World} {K : PySem.W.Frag} {mg : Str → Option Value} {base : Heap}
theorem ok_lenL {f C : Addr} {fd : FuncData} (F : Fun K "__len__" "Lives.__len__" sLenL f fd) (T : Bt mg) (L : LCls K C) : FnOk P w K mg base CX0 1 f fd ["self"] (spLenL K C) := by
  refine F.ok scLenL (fun vs H Q E h => ?_) (fun cdv A outer s H vs Q E hr h => ?_)
  · obtain ⟨p, hs, ss, ls, lo, hi, rfl, _⟩ := h
    rfl
  · obtain ⟨p, hs, ss, ls, lo, hi, rfl, lv, hle, k⟩ := h
    refine ⟨_, pss_one (ps_ret (pe_callB call_len_seq (by rfl) T.len (by decide +kernel) (pa_cons (pe_op op_catA (pe_fld (pv 0) rfl) (pe_fld (pv 0) rfl)) pa_nil))), ?_⟩
    obtain ⟨dx, a, b, l, xs, ys, h1, h2, h3, h4, h5, h6⟩ := lv.ex
    have lx := pairVs_len h5
    have ly := pairVs_len h6
    refine ⟨_, rfl, p, C, dx, _, _, rfl, h1, L.cl, L.nH, lf_hollows, _, rfl, p, C, dx, _, _, rfl, h1, L.cl, L.nS, lf_summits, a, b, xs, ys, rfl, rfl, SqT.of h2, SqT.of h3, by rw [sizeLine_eq]; omega, fun e => ?_, fun e e2 => ?_, fun e e2 q hq => ?_⟩
    · refine ⟨b, ys, rfl, .inr (SqT.of h3), ?_⟩
      have e0 : xs.length = 0 := by rw [e]; rfl
      have : ((ys.length : Nat) : Int) = (hs.length : Int) + ss.length := by omega
      rw [this]
      exact k _ (fun _ _ h => h)
    · refine ⟨a, xs, rfl, .inr (SqT.of h2), ?_⟩
      have e0 : ys.length = 0 := by rw [e2]; rfl
      have : ((xs.length : Nat) : Int) = (hs.length : Int) + ss.length := by omega
      rw [this]
      exact k _ (fun _ _ h => h)
    · refine ⟨q, _, rfl, .inr (SqT.of upd_same), ?_⟩
      have : (((xs ++ ys).length : Nat) : Int) = (hs.length : Int) + ss.length := by rw [List.length_append]; omega
      rw [this]
      exact k _ (same_new hq)
theorem ok_reprL {f C : Addr} {fd : FuncData} (F : Fun K "__repr__" "Lives.__repr__" sReprL f fd) (T : Bt mg) (L : LCls K C) : FnOk P w K mg base CX0 1 f fd ["self"] (spReprL K C) := by
  refine F.ok scReprL (fun vs H Q E h => ?_) (fun cdv A outer s H vs Q E hr h => ?_)
  · obtain ⟨p, hs, ss, ls, lo, hi, rfl, _⟩ := h
    rfl
  · obtain ⟨p, hs, ss, ls, lo, hi, rfl, lv, l1, l2, l3, k⟩ := h
    refine ⟨_, pss_one (ps_ret (pe_joined (.cons pe_str (.cons (pe_fmt (pe_callB call_len_seq (by rfl) T.len (by decide +kernel) (pa_cons (pe_fld (pv 0) rfl) pa_nil))) (.cons pe_str (.cons (pe_fmt (pe_callB call_len_seq (by rfl) T.len (by decide +kernel) (pa_cons (pe_fld (pv 0) rfl) pa_nil))) (.cons pe_str (.cons (pe_fmt (pe_callB call_len_seq (by rfl) T.len (by decide +kernel) (pa_cons (pe_fld (pv 0) rfl) pa_nil))) (.cons pe_str .nil))))))))), ?_⟩
    obtain ⟨dx, a, b, l, xs, ys, h1, h2, h3, h4, h5, h6⟩ := lv.ex
    have lx := pairVs_len h5
    have ly := pairVs_len h6
    have lz : (ls.map V.int).length = ls.length := List.length_map ..
    have sm : ∀ n : Nat, n ≤ 1000 → Sml (n : Int) := fun n hn => by unfold Sml; omega
    have b1 := sI_len (sm _ l1)
    have b2 := sI_len (sm _ l2)
    have b3 := sI_len (sm _ l3)
    have c1 : ("Lives(" : Str).length ≤ 24 ∧ (" hollows, " : Str).length ≤ 24 ∧ (" summits, " : Str).length ≤ 24 ∧ (" loose)" : Str).length ≤ 24 := by decide +kernel
    obtain ⟨c1, c2, c3, c4⟩ := c1
    refine ⟨"Lives(", rfl, by rw [len_add, sizeLine_eq]; show 0 + _ ≤ _; omega, _, rfl, p, C, dx, _, _, rfl, h1, L.cl, L.nH, lf_hollows, a, xs, rfl, .inr (SqT.of h2), ?_⟩
    rw [lx]
    refine .inr ⟨_, rfl, sml_log (sm _ l1), sI hs.length, rfl, by rw [len_add, len_add, sizeLine_eq]; show 0 + _ + _ ≤ _; omega, " hollows, ", rfl, by rw [len_add, len_add, len_add, sizeLine_eq]; show 0 + _ + _ + _ ≤ _; omega, ?_⟩
    refine ⟨_, rfl, p, C, dx, _, _, rfl, h1, L.cl, L.nS, lf_summits, b, ys, rfl, .inr (SqT.of h3), ?_⟩
    rw [ly]
    refine .inr ⟨_, rfl, sml_log (sm _ l2), sI ss.length, rfl, by rw [len_add, len_add, len_add, len_add, sizeLine_eq]; show 0 + _ + _ + _ + _ ≤ _; omega, " summits, ", rfl, by rw [len_add, len_add, len_add, len_add, len_add, sizeLine_eq]; show 0 + _ + _ + _ + _ + _ ≤ _; omega, ?_⟩
    refine ⟨_, rfl, p, C, dx, _, _, rfl, h1, L.cl, L.nL, lf_loose, l, _, rfl, .inr (SqT.of h4), ?_⟩
    rw [lz]
    refine .inr ⟨_, rfl, sml_log (sm _ l3), sI ls.length, rfl, by rw [len_add, len_add, len_add, len_add, len_add, len_add, sizeLine_eq]; show 0 + _ + _ + _ + _ + _ + _ ≤ _; omega, " loose)", rfl, by rw [len_add, len_add, len_add, len_add, len_add, len_add, len_add, sizeLine_eq]; show 0 + _ + _ + _ + _ + _ + _ + _ ≤ _; omega, ?_⟩
    rw [nil_add]
    exact k _ (fun _ _ h => h)
end
end Lw
namespace Lw
open PySem PySem.Spec PyProof.Rows L2 XV TL XM
abbrev sEqL : Stmt := inClass (topOf "Lives") 4
theorem scEqL : FnScope ["self", "other", "mine"] ["self", "other"] (defScope sEqL) := ⟨rfl, rfl, rfl, by decide +kernel, rfl, by decide +kernel, by decide +kernel⟩
/-- equal as their five attributes; a text is never equal -/
def spEqL (K : PySem.W.Frag) (C : Addr) : Sp := fun vs H Q _ => ∃ (p : Addr) (y : V) (hs ss : List Pr) (ls : List Int) (lo hi : Int), vs = [.ref p, y] ∧ LivesAt K C H p hs ss ls lo hi ∧
  ((∃ z, y = .str z ∧ ∀ H', Same H H' → Q (.bl false) H') ∨ ∃ (q : Addr) (hs' ss' : List Pr) (ls' : List Int) (lo' hi' : Int), y = .ref q ∧ LivesAt K C H q hs' ss' ls' lo' hi' ∧ ∀ H', Same H H' → Q (.bl (decide (hs = hs' ∧ ss = ss' ∧ ls = ls' ∧ lo = lo' ∧ hi = hi'))) H')
section
variable {P : Program} {w : World} {K : PySem.W.Frag} {mg : Str → Option Value} {base : Heap}
theorem ok_eqL {f C : Addr} {fd : FuncData} (F : Fun K "__eq__" "Lives.__eq__" sEqL f fd) (T : Bt mg) (L : LCls K C) (I : C8.InsC K C) (kS : PySem.W.kitOne K (.type "str") (.ref C) = some false) (gC : mg "Lives" = some (.ref C)) : FnOk P w K mg base CX0 1 f fd ["self", "other"] (spEqL K C) := by
  refine F.ok scEqL (fun vs H Q E h => ?_) (fun cdv A outer s H vs Q E hr h => ?_)
  · obtain ⟨p, y, hs, ss, ls, lo, hi, rfl, _⟩ := h
    rfl
  · obtain ⟨p, y, hs, ss, ls, lo, hi, rfl, lv, k⟩ := h
    refine ⟨_, pss_cons (ps_if (pt_not (pt_val (pe_callB call_isi (by rfl) T.isinstance (by decide +kernel) (pa_cons (pv 1) (pa_cons (C8.pe_gc (v := .ref C) (by rfl) ⟨_, gC, rfl⟩) pa_nil)))))
 (pss_one (ps_ret (pe_bl)))
 (pss_nil))
 (pss_cons (ps_set (i := 2) scEqL.nd rfl (Or.inl rfl) (pe_tup (pa_cons (pe_fld (pv 0) rfl) (pa_cons (pe_fld (pv 0) rfl) (pa_cons (pe_fld (pv 0) rfl) (pa_cons (pe_fld (pv 0) rfl) (pa_cons (pe_fld (pv 0) rfl) pa_nil)))))))
 (pss_one (ps_ret (pe_cmpR (op_eqD (by exact un64 hr)) (pv 2) (pe_tup (pa_cons (pe_fld (pv 1) rfl) (pa_cons (pe_fld (pv 1) rfl) (pa_cons (pe_fld (pv 1) rfl) (pa_cons (pe_fld (pv 1) rfl) (pa_cons (pe_fld (pv 1) rfl) pa_nil)))))) (nomark _)))))
 , ?_⟩
    rcases k with ⟨z, rfl, k⟩ | ⟨q, hs', ss', ls', lo', hi', rfl, lv', k⟩
    · exact ⟨_, rfl, _, _, _, _, false, rfl, .own C, .base (.str z), kS, _, rfl, iteT (k _ (fun _ _ h => h))⟩
    · obtain ⟨dx, a, b, l, xs, ys, h1, h2, h3, h4, h5, h6⟩ := lv.ex
      obtain ⟨dx', a', b', l', xs', ys', j1, j2, j3, j4, j5, j6⟩ := lv'.ex
      refine ⟨_, rfl, _, _, _, _, true, rfl, .own C, .base (.ins j1 L.cl I.ha I.hn I.htk I.hm), I.me, _, rfl, iteF ?_⟩
      refine ⟨_, rfl, p, C, dx, _, _, rfl, h1, L.cl, L.nH, lf_hollows, ?_⟩
      refine ⟨_, rfl, p, C, dx, _, _, rfl, h1, L.cl, L.nS, lf_summits, ?_⟩
      refine ⟨_, rfl, p, C, dx, _, _, rfl, h1, L.cl, L.nL, lf_loose, ?_⟩
      refine ⟨_, rfl, p, C, dx, _, _, rfl, h1, L.cl, L.nlo, lf_lowest, ?_⟩
      refine ⟨_, rfl, p, C, dx, _, _, rfl, h1, L.cl, L.nhi, lf_highest, (by show 5 ≤ sizeLine; decide), fun t ht => ?_⟩
      have s1 := same_new (o := .tup [.ref a, .ref b, .ref l, .int lo, .int hi]) ht
      have e1 : upd H t (.tup [.ref a, .ref b, .ref l, .int lo, .int hi]) t = some (.tup [.ref a, .ref b, .ref l, .int lo, .int hi]) := upd_same
      generalize upd H t (.tup [.ref a, .ref b, .ref l, .int lo, .int hi]) = H1 at s1 e1 ⊢
      have f1 := s1 _ _ j1
      refine ⟨_, rfl, ?_⟩
      refine ⟨_, rfl, q, C, dx', _, _, rfl, f1, L.cl, L.nH, lf_hollows, ?_⟩
      refine ⟨_, rfl, q, C, dx', _, _, rfl, f1, L.cl, L.nS, lf_summits, ?_⟩
      refine ⟨_, rfl, q, C, dx', _, _, rfl, f1, L.cl, L.nL, lf_loose, ?_⟩
      refine ⟨_, rfl, q, C, dx', _, _, rfl, f1, L.cl, L.nlo, lf_lowest, ?_⟩
      refine ⟨_, rfl, q, C, dx', _, _, rfl, f1, L.cl, L.nhi, lf_highest, (by show 5 ≤ sizeLine; decide), fun u hu => ?_⟩
      have s2 := same_new (o := .tup [.ref a', .ref b', .ref l', .int lo', .int hi']) hu
      have e2 := s2 _ _ e1
      have s12 := Same.trans s1 s2
      refine ⟨.tuple (fiveD hs ss ls lo hi), .tuple (fiveD hs' ss' ls' lo' hi'), ?_, ?_, shaped_fiveT .., shaped_fiveT .., ?_⟩
      · exact .tup (SqT.of e2) (.cons (.tup (SqT.of (s12 _ _ h2)) (dp_pairs (h5.mono s12))) (.cons (.tup (SqT.of (s12 _ _ h3)) (dp_pairs (h6.mono s12))) (.cons (.tup (SqT.of (s12 _ _ h4)) (dp_ints ls)) (.cons (.int lo) (.cons (.int hi) .nil)))))
      · exact .tup (SqT.of upd_same) (.cons (.tup (SqT.of (s12 _ _ j2)) (dp_pairs (j5.mono s12))) (.cons (.tup (SqT.of (s12 _ _ j3)) (dp_pairs (j6.mono s12))) (.cons (.tup (SqT.of (s12 _ _ j4)) (dp_ints ls')) (.cons (.int lo') (.cons (.int hi') .nil)))))
      · show Q (.bl (PyData.eqvAll _ _)) _
        rw [eqv_five]
        exact k _ s12
end
end Lw
namespace Lw
open PySem PySem.Spec PyProof.Rows L2 XV TL XM
section
variable {X : Cx} {CX : CXT} {k : Nat} {f C : Addr} {fd : FuncData} {ps : List Str} {sp : Sp} {E : XK}
/-- the call of a def from within a built-in -/
theorem run_fnA {A : Around} {pins : List (Addr × Obj)} {σ : L2.St} {H : Hp} {s : Shared} {Q : VK} {us : List Value} {vs : List V} (F : FnOk X.prog X.w X.K X.mg X.base CX k f fd ps sp) (hr : Room k A) (hfr : A.frames = X.A.frames) (hb : Binds X.K fd ps []) (hx : Passes CX X E)
    (I : Inv X pins σ H s) (r : Vals vs us) (h : sp vs H Q E) : wpAny (model X.prog X.w) A (call (.ref f) us) (EP X pins σ Q) X.xe s := by
  have hl : us.length = ps.length := by rw [← r.length]; exact F.len _ _ _ _ h
  have e0 : Env0 X.prog X.w X.K X.mg X.base A X.stack s H := by
    have e := I.env0
    exact ⟨by rw [hfr]; exact e.frames, e.mod, e.bs, e.bsz, e.funs, e.frf, e.hok, e.bare⟩
  refine wpAny_call (codeAny_mono (F.run A X.stack s H ⟨us, []⟩ us vs Q E hr e0 (by
    have := hb s us I.kIn (by simpa using hl)
    simpa using this) r h) fun r s' hq => ?_)
  cases r with
  | error e => exact hx pins σ H s e s' I hq
  | ok fl =>
    cases fl with
    | ret u => exact I.after hq
    | next => exact False.elim hq
    | brk => exact False.elim hq
    | cont => exact False.elim hq
/-- len(x), x an instance of a class with its own __len__ -/
theorem call_lenI (F : FnOk X.prog X.w X.K X.mg X.base CX k f fd ps sp) (hr : Room (k + 1) X.A) (hs : PySem.W.findIn X.K (.ref C) "__len__" = some (some (.ref f))) (hf : PySem.W.isFn X.K (.ref f) = true) (hb : Binds X.K fd ps []) (hx : Passes CX X E) :
    CallR X (.builtin "len") (fun xs H Q => ∃ p dx fs, xs = [.ref p] ∧ H p = some (.ins C dx fs) ∧ sp [.ref p] H (fun v H' => ∃ n : Int, v = .int n ∧ (0 ≤ n ∧ n < 2 ^ 63) ∧ Q (.int n) H') E) := by
  intro pins s σ H xs us Q I r h
  obtain ⟨p, dx, fs, rfl, hp, h⟩ := h
  obtain ⟨u, rfl, ru⟩ : ∃ u, us = [u] ∧ RelV (.ref p) u := by
    cases r with
    | cons a b => cases b; exact ⟨_, rfl, a⟩
  cases ru
  obtain ⟨mA, J, _⟩ := ins_get I.hok hp
  obtain ⟨od, J, _⟩ := J.look
  obtain ⟨m, hF⟩ := I.fr
  refine PySem.W.len_K hF I.ok.mod.kin J hs hf (wpAny_mono (run_fnA (vs := [.ref p]) F hr.in1 rfl hb hx I (.cons (by rfl) .nil) h) (fun r s' q => ?_) fun _ _ y => y)
  obtain ⟨y, H', I', ry, n, rfl, hn, q⟩ := q
  obtain ⟨t, rfl⟩ := ry
  exact ⟨hn, .int n, H', I'.tok _, ⟨_, rfl⟩, q⟩
/-- repr(x), x an instance of a class with its own __repr__ -/
theorem call_reprI (F : FnOk X.prog X.w X.K X.mg X.base CX k f fd ps sp) (hr : Room (k + 1) X.A) (hs : PySem.W.findIn X.K (.ref C) "__repr__" = some (some (.ref f))) (hf : PySem.W.isFn X.K (.ref f) = true) (hb : Binds X.K fd ps []) (hx : Passes CX X E) :
    CallR X (.builtin "repr") (fun xs H Q => ∃ p dx fs, xs = [.ref p] ∧ H p = some (.ins C dx fs) ∧ sp [.ref p] H (fun v H' => ∃ z : Str, v = .str z ∧ Q (.str z) H') E) := by
  intro pins s σ H xs us Q I r h
  obtain ⟨p, dx, fs, rfl, hp, h⟩ := h
  obtain ⟨u, rfl, ru⟩ : ∃ u, us = [u] ∧ RelV (.ref p) u := by
    cases r with
    | cons a b => cases b; exact ⟨_, rfl, a⟩
  cases ru
  obtain ⟨mA, J, _⟩ := ins_get I.hok hp
  obtain ⟨od, J, _⟩ := J.look
  obtain ⟨m, hF⟩ := I.fr
  refine PySem.W.repr_K hr.in1.units0 hF I.ok.mod.kin J hs hf (wpAny_mono (run_fnA (vs := [.ref p]) F hr.in1 rfl hb hx I (.cons (by rfl) .nil) h) (fun r s' q => ?_) fun _ _ y => y)
  obtain ⟨y, H', I', ry, z, rfl, q⟩ := q
  obtain ⟨t, rfl⟩ := ry
  exact ⟨.str z, H', I', ⟨_, rfl⟩, q⟩
/-- x == y, x an instance of a class with its own __eq__, y one too or a text -/
theorem op_eqI (F : FnOk X.prog X.w X.K X.mg X.base CX k f fd ps sp) (hr : Room k X.A) (hs : PySem.W.findIn X.K (.ref C) "__eq__" = some (some (.ref f))) (hf : PySem.W.isFn X.K (.ref f) = true) (hb : Binds X.K fd ps []) (hx : Passes CX X E) (hn : PySem.W.notFirst X.K C (.type "str") = true) :
    OpR X (compareOp .Eq) (fun x y H Q => ∃ p dx fs, x = .ref p ∧ H p = some (.ins C dx fs) ∧ ((∃ q dy gs, y = .ref q ∧ H q = some (.ins C dy gs)) ∨ ∃ z, y = .str z) ∧ sp [x, y] H (fun v H' => ∃ b : Bool, v = .bl b ∧ Q (.bl b) H') E) := by
  intro pins s σ H x y v u Q I rx ry h
  obtain ⟨p, dx, fs, rfl, hp, hy, h⟩ := h
  cases rx
  obtain ⟨mA, J, _⟩ := ins_get I.hok hp
  obtain ⟨od, J, _⟩ := J.look
  obtain ⟨m, hF⟩ := I.fr
  have go : ∀ tb : Value, PySem.W.Looks (model X.prog X.w) s.heap (typeOf u) tb → PySem.W.notFirst X.K C tb = true → wpAny (model X.prog X.w) X.A (richCompare .Eq (.ref p) u) (EP X pins σ Q) X.xe s := fun tb ht hnf => by
    refine PySem.W.cmp_K (op := .Eq) (tb := tb) hr.units0 hF I.ok.mod.kin J ht hnf hs hf (wpAny_mono (run_fnA (vs := [.ref p, y]) F hr rfl hb hx I (.cons (by rfl) (.cons ry .nil)) h) (fun r s' q => ?_) fun _ _ y => y)
    obtain ⟨y2, H', I', ry2, z, rfl, q⟩ := q
    cases ry2
    exact ⟨.bl z, H', I', rfl, q⟩
  show wpAny (model X.prog X.w) X.A (richCompare .Eq (.ref p) u) (EP X pins σ Q) X.xe s
  rcases hy with ⟨q, dy, gs, rfl, hq⟩ | ⟨z, rfl⟩
  · have ry' := ry
    cases ry'
    obtain ⟨mB, J', _⟩ := ins_get I.hok hq
    obtain ⟨od', J', _⟩ := J'.look
    exact go (.ref C) J'.type (by simp [PySem.W.notFirst])
  · have ry' := ry
    obtain ⟨t, rfl⟩ := ry'
    exact go (.type "str") (PySem.W.looks_typeIn I.kIn (by rfl)) hn
end
end Lw
namespace Lw
open PySem PySem.Spec PyProof.Rows L2 XV TL XM PySem.W
section
variable {K : PySem.W.Frag} {s : Shared} {A : Around} {E : Value → Shared → Prop} {x C f : Addr} {ox : Obj} {od : Option Obj} {prog : Program} {w : World} {u : Value}
theorem bound_ne {M : Model} {args : List Value} {Q : Option Value → Shared → Prop} (X : K.In s.heap) (I : PySem.W.InstAt s.heap x ox C od) (hs : findIn K (.ref C) "__ne__" = some (some (.builtin "object.__ne__")))
    (h : wpAny M A (call (.builtin "object.__ne__") (.ref x :: args)) (fun v => Q (some v)) E s) : wpAny M A (callSpecialIfBound? (.ref x) "__ne__" args) Q E s := by
  simp only [callSpecialIfBound?, bindSpecialIfBound?]
  refine wpAny_holding (wpAny_bind (wpAny_bind (wpAny_bind (I.type.here ((looks_findIn X hs).here ?_)))))
  simp only [PySem.F.slot_tuple_iterator_ne.bind]
  refine wpAny_bind (wpAny_askSetting (wpAny_ite ?_))
  have fin : wpAny M A (call (.builtin "object.__ne__") ([.ref x] ++ args) >>= fun v => pure (some v)) Q E s := wpAny_bind (wpAny_mono h (fun v s' h' => wpAny_pure h') fun _ _ h' => h')
  split
  · exact wpAny_bind (wpAny_pure (wpAny_pure fin))
  · exact wpAny_tryCatch (wpAny_bind (wpAny_pure (wpAny_pure fin)))
theorem entry_ne (X : K.In s.heap) (I : PySem.W.InstAt s.heap x ox C od) (hs : findIn K (.ref C) "__eq__" = some (some (.ref f))) (hf : isFn K (.ref f) = true) (hu : A.units < cLine) {Q : Fin → Shared → Prop}
    (hcall : wpAny (model prog w) A (call (.ref f) [.ref x, u]) (fun v s' => ∃ b, v = .bool b ∧ Q (.done (.ret (.bool (!b)))) s') E s) :
    wpAny (model prog w) A (Builtin.«object.__ne__» ⟨[.ref x, u], []⟩) Q E s := by
  unfold Builtin.«object.__ne__»
  repeat (first
    | with_reducible refine wpAny_cRoomFor hu ?_
    | (refine wpAny_bind (m := callSpecialIfBound? (.ref x) (Str.ofString "__eq__") [u])
        (ifBound_K X I hs hf (wpAny_mono hcall (fun r s' hr => by
          obtain ⟨b, rfl, hq⟩ := hr
          repeat (first | exact hq | exact wpAny_pure hq | exact wpAny_truthy_bool hq | (refine wpAny_bind (m := truthy (.bool _)) (wpAny_truthy_bool ?_)) | wp_step)) fun _ _ e => e)))
    | wp_step)
theorem ne_own {Q : Value → Shared → Prop} {tb : Value} (X : K.In s.heap) (I : PySem.W.InstAt s.heap x ox C od) (hb : Looks (model prog w) s.heap (typeOf u) tb) (hn : notFirst K C tb = true) (hs : findIn K (.ref C) "__eq__" = some (some (.ref f))) (hf : isFn K (.ref f) = true)
    (hne : findIn K (.ref C) "__ne__" = some (some (.builtin "object.__ne__"))) (hm : mroIn K C (.type "object") = some true) (hu : A.units + 1 < cLine)
    (hcall : wpAny (model prog w) A.in1 (call (.ref f) [.ref x, u]) (fun v s' => ∃ b, v = .bool b ∧ Q (.bool (!b)) s') E s) :
    wpAny (model prog w) A (richCompare .NotEq (.ref x) u) Q E s := by
  have inst : Looks (model prog w) s.heap (isInstance (.ref x) (.type "object")) true := I.type.andThen (looks_mroIn X hm)
  have one : wpAny (model prog w) A (tryCompare (.ref x) "__ne__" u) (fun r s' => ∃ v, r = some v ∧ Q v s') E s := by
    unfold tryCompare
    refine wpAny_bind (bound_ne X I hne (wpAny_call (codeAny_call_builtin PySem.F.slot_tuple_iterator_ne.plain PySem.F.cmpEntry_ne
      (check_slot PySem.F.cmpKind_ne PySem.F.cmpSplit_ne inst (PySem.F.cmpArgs_ne _ _) (entry_ne (A := A.in1) X I hs hf hu (wpAny_mono hcall (fun v s' hv => ?_) fun _ _ e => e))))))
    obtain ⟨b, rfl, hq⟩ := hv
    first | exact ⟨b, rfl, wpAny_pure ⟨_, rfl, hq⟩⟩ | exact ⟨b, rfl, wpAny_pure (wpAny_pure ⟨_, rfl, hq⟩)⟩ | exact ⟨b, rfl, _, rfl, hq⟩
  unfold richCompare
  simp only [oneThing_ref]
  refine wpAny_holding (wpAny_bind (wpAny_cRoomFor (Nat.lt_of_succ_lt hu) ?_))
  refine wpAny_bind (I.type.here (wpAny_bind (hb.here ?_)))
  split
  · rename_i q
    have e : subIn K tb (.ref C) = some false := by
      rcases Bool.or_eq_true_iff.mp hn with e | e
      · rw [beq_iff_eq.mp e] at q; simp at q
      · exact beq_iff_eq.mp e
    refine wpAny_bind ((looks_subIn X e).here ?_)
    simp only [Bool.false_eq_true, if_false]
    refine wpAny_bind (wpAny_mono one (fun r s' z => ?_) fun _ _ e => e)
    obtain ⟨v, rfl, hq⟩ := z
    exact wpAny_pure hq
  · refine wpAny_bind (wpAny_pure ?_)
    simp only [Bool.false_eq_true, if_false]
    refine wpAny_bind (wpAny_mono one (fun r s' z => ?_) fun _ _ e => e)
    obtain ⟨v, rfl, hq⟩ := z
    exact wpAny_pure hq
end
end Lw
namespace Lw
open PySem PySem.Spec PyProof.Rows L2 XV TL XM
section
variable {X : Cx} {CX : CXT} {k : Nat} {f C : Addr} {fd : FuncData} {ps : List Str} {sp : Sp} {E : XK}
/-- x != y, x an instance of a class with its own __eq__ alone, y one too or a text -/
theorem op_neI (F : FnOk X.prog X.w X.K X.mg X.base CX k f fd ps sp) (hr : Room (k + 1) X.A) (hs : PySem.W.findIn X.K (.ref C) "__eq__" = some (some (.ref f))) (hf : PySem.W.isFn X.K (.ref f) = true) (hb : Binds X.K fd ps []) (hx : Passes CX X E) (hn : PySem.W.notFirst X.K C (.type "str") = true)
    (hne : PySem.W.findIn X.K (.ref C) "__ne__" = some (some (.builtin "object.__ne__"))) (hm : PySem.W.mroIn X.K C (.type "object") = some true) :
    OpR X (compareOp .NotEq) (fun x y H Q => ∃ p dx fs, x = .ref p ∧ H p = some (.ins C dx fs) ∧ ((∃ q dy gs, y = .ref q ∧ H q = some (.ins C dy gs)) ∨ ∃ z, y = .str z) ∧ sp [x, y] H (fun v H' => ∃ b : Bool, v = .bl b ∧ Q (.bl (!b)) H') E) := by
  intro pins s σ H x y v u Q I rx ry h
  obtain ⟨p, dx, fs, rfl, hp, hy, h⟩ := h
  cases rx
  obtain ⟨mA, J, _⟩ := ins_get I.hok hp
  obtain ⟨od, J, _⟩ := J.look
  have hu : X.A.units + 1 < cLine := by
    have := hr.un
    omega
  have go : ∀ tb : Value, PySem.W.Looks (model X.prog X.w) s.heap (typeOf u) tb → PySem.W.notFirst X.K C tb = true → wpAny (model X.prog X.w) X.A (richCompare .NotEq (.ref p) u) (EP X pins σ Q) X.xe s := fun tb ht hnf => by
    refine ne_own I.kIn J ht hnf hs hf hne hm hu (wpAny_mono (run_fnA (vs := [.ref p, y]) F hr.in1 rfl hb hx I (.cons (by rfl) (.cons ry .nil)) h) (fun r s' q => ?_) fun _ _ y => y)
    obtain ⟨y2, H', I', ry2, z, rfl, q⟩ := q
    cases ry2
    exact ⟨z, rfl, .bl (!z), H', I', rfl, q⟩
  show wpAny (model X.prog X.w) X.A (richCompare .NotEq (.ref p) u) (EP X pins σ Q) X.xe s
  rcases hy with ⟨q, dy, gs, rfl, hq⟩ | ⟨z, rfl⟩
  · have ry' := ry
    cases ry'
    obtain ⟨mB, J', _⟩ := ins_get I.hok hq
    obtain ⟨od', J', _⟩ := J'.look
    exact go (.ref C) J'.type (by simp [PySem.W.notFirst])
  · have ry' := ry
    obtain ⟨t, rfl⟩ := ry'
    exact go (.type "str") (PySem.W.looks_typeIn I.kIn (by rfl)) hn
end
/-- what == and != ask of Lives, besides LCls -/
structure LEq (K : PySem.W.Frag) (C f : Addr) : Prop where
  eq : PySem.W.findIn K (.ref C) "__eq__" = some (some (.ref f))
  isf : PySem.W.isFn K (.ref f) = true
  ne : PySem.W.findIn K (.ref C) "__ne__" = some (some (.builtin "object.__ne__"))
  nf : PySem.W.notFirst K C (.type "str") = true
  kS : PySem.W.kitOne K (.type "str") (.ref C) = some false
end Lw
namespace Lw
open PySem PySem.Spec PyProof.Rows L2 XV TL XM
/-- a def's promise where no repr is under way -/
structure FnOkG (P : Program) (w : World) (K : PySem.W.Frag) (mg : Str → Option Value) (base : Heap) (CX : CXT) (k : Nat) (f : Addr) (fd : FuncData) (ps : List Str) (sp : Sp) : Prop where
  len : ∀ vs H Q E, sp vs H Q E → vs.length = ps.length
  run : ∀ (A : Around) (outer : List Env) (s : Shared) (H : Hp) (args : Args) (us : List Value) (vs : List V) (Q : VK) (E : XK), A.guards = some [] → Room k A → Env0 P w K mg base A outer s H → BindsTo s fd args (ps.zip us) → Vals vs us → sp vs H Q E →
    codeAny (model P w) A (.call (.ref f) args) (CR CX outer P w H s Q E) s
section
variable {P : Program} {w : World} {K : PySem.W.Frag} {mg : Str → Option Value} {base : Heap}
/-- as L2.Fun.ok, the body walked where no repr is under way -/
theorem okG {x qual : Str} {st : Stmt} {f : Addr} {fd : FuncData} {N ps : List Str} {k : Nat} {sp : Sp} (F : L2.Fun K x qual st f fd) (S : FnScope N ps (defScope st)) (len : ∀ vs H Q E, sp vs H Q E → vs.length = ps.length)
    (hbody : ∀ (cdv : Value) (A : Around) (outer : List Env) (s : Shared) (H : Hp) (vs : List V) (Q : VK) (E : XK), A.guards = some [] → Room k (A.deeper (envOfC qual (defScope st) s.heap.objs.size f cdv)) → sp vs H Q E →
      ∃ t, PSs (cxOf CX0 P w K mg base N qual (defScope st) f cdv A outer s H E).nox (defBody st) t ∧ t { nx := fun _ H' => Q .non H', rt := Q } (start N vs) H) : FnOkG P w K mg base CX0 (k + 1) f fd ps sp := by
  obtain ⟨oc, od, kV, doc, pm, an, cdv, ct, osl, rfl, lk, hcd⟩ := F.ex
  refine ⟨len, fun A outer s H args us vs Q E hg hr e0 hb r hsp => ?_⟩
  have hl := len _ _ _ _ hsp
  have KX : K.In s.heap := e0.mod.kin.keeps fun b o e => (e0.bs b o e).1
  have lim : s.heap.NoLimit := e0.mod.nolimit.keeps fun b o e => (e0.bs b o e).1
  have hkind : ∀ y ∈ ps.zip us, (defScope st).names.lookup y.1 = some .local ∨ ((defScope st).names.lookup y.1 = some .cell ∧ ((cellsFrom (s.heap.objs.size + 1) (defScope st).names []).lookup y.1).isSome = true) := fun ⟨n, v⟩ hy => by
    rcases S.par n (List.of_mem_zip hy).1 with q | q
    · exact .inl q
    · exact .inr ⟨q, PySem.W.cellsFrom_some _ _ _ (.inl q)⟩
  refine codeAny_call_function hr.depth (KX _ _ lk) rfl S.co S.gen rfl (PySem.W.codeRec_of KX hcd) (hb _ _ _ _ ?_)
  refine wpAny_newFunctionEnv_cells S.kind hkind fun env he s1 x => ?_
  subst he
  refine ⟨lim.keeps x.toInCall.keep, codeAny_func ?_⟩
  obtain ⟨t, ht, hq⟩ := hbody cdv A outer s H vs Q E hg (hr.deeper _) hsp
  have I : Inv (cxOf CX0 P w K mg base N qual (defScope st) f cdv A outer s H E) [] (start N vs) H s1 := inv_start S hr.hd e0 hl r x
  refine wpAny_mono (ht.nox.run [] s1 (start N vs) H _ I hq) (fun fl s' hs => ?_) fun e s' hs => hs
  have fin : ∀ {σ' : L2.St} {H' : Hp} {v : V} {u : Value}, Inv (cxOf CX0 P w K mg base N qual (defScope st) f cdv A outer s H E) [] σ' H' s' → RelV v u → Q v H' → CE outer P w H s Q u s' :=
    fun {σ' H' v u} J rv q => ⟨v, H', J.os, J.bare, J.base, J.hok, rv, q⟩
  cases fl with
  | ret u =>
    obtain ⟨v, σ', H', J, rv, q⟩ := hs
    exact fin J rv q
  | next =>
    obtain ⟨σ', H', J, q⟩ := hs
    exact fin (v := V.non) (u := Value.none) J rfl q
  | brk =>
    obtain ⟨_, _, _, q⟩ := hs
    exact False.elim q
  | cont =>
    obtain ⟨_, _, _, q⟩ := hs
    exact False.elim q
end
section
variable {X : Cx} {CX : CXT} {k : Nat} {f : Addr} {fd : FuncData} {ps : List Str} {sp : Sp} {E : XK} {x : Str} {p pos : Pos} {e : Expr} {es : List Expr} {t : TA}
theorem run_fnG {pins : List (Addr × Obj)} {σ : L2.St} {H : Hp} {s : Shared} {Q : VK} {us : List Value} {vs : List V} (F : FnOkG X.prog X.w X.K X.mg X.base CX k f fd ps sp) (hg : X.A.guards = some []) (hr : Room k X.A) (hb : Binds X.K fd ps []) (hx : Passes CX X E)
    (I : Inv X pins σ H s) (r : Vals vs us) (h : sp vs H Q E) : wpAny (model X.prog X.w) X.A (call (.ref f) us) (EP X pins σ Q) X.xe s := by
  have hl : us.length = ps.length := by rw [← r.length]; exact F.len _ _ _ _ h
  refine wpAny_call (codeAny_mono (F.run X.A X.stack s H ⟨us, []⟩ us vs Q E hg hr I.env0 (by
    have := hb s us I.kIn (by simpa using hl)
    simpa using this) r h) fun r s' hq => ?_)
  cases r with
  | error e => exact hx pins σ H s e s' I hq
  | ok fl =>
    cases fl with
    | ret u => exact I.after hq
    | next => exact False.elim hq
    | brk => exact False.elim hq
    | cont => exact False.elim hq
/-- f(e, ..), f such a def -/
theorem pe_callG {nm : Str} {st : Stmt} (D : Df X.K X.mg nm st ps f fd) (F : FnOkG X.prog X.w X.K X.mg X.base CX0 k f fd ps sp) (hgd : X.A.guards = some []) (hr : Room k X.A) (ha : PA X (e :: es) t) (hg : Gl X nm := by rfl)
    (hdb : (nm == ("__debug__" : Str)) = false := by decide) (he : starEach (e :: es) X.env = (false, eval e X.env) :: starEach es X.env := by rfl) (hpl : (backTo pos (starEach es X.env)).any (·.1) = false := by rfl) :
    PE X (.Call (.Name nm p) (e :: es) [] pos) (tCall sp [] E0 t) := by
  refine ⟨fun pins s σ H Q I h => ?_⟩
  refine wpAny_Call_Name_kw (ld_glob I hg D.g ?_ hdb)
  refine PySem.W.callWith_K (h₀ := X.base) I.ok.mod.kin D.fn.kp (thn (ha.run pos pins s σ H _ I h) fun us s1 ⟨vs, H1, I1, r, q⟩ => ⟨I1.kIn, ?_⟩) he hpl
  exact run_fnG F hgd hr D.bd pass0 I1 r (by have q2 : sp (vs ++ []) H1 Q E0 := q; rw [List.append_nil] at q2; exact q2)
end
end Lw
namespace Lw
open PySem PySem.Spec PyProof.Rows L2 XV TL XM
section
variable {X : Cx}
/-- repr of a list or a tuple of plain data, no repr under way -/
theorem call_reprD (hg : X.A.guards = some []) (hu : X.A.units + 66 < cLine) : CallR X (.builtin "repr") (fun xs H Q => ∃ a d, xs = [.ref a] ∧ Dp X.K H (.ref a) d ∧ d.showable = true ∧ SeqAt.shaped d = true ∧ d.shown.length ≤ sizeLine ∧ Q (.str d.shown) H) := by
  intro pins s σ H xs us Q I r h
  obtain ⟨a, d, rfl, hd, hs, hsh, hsz, q⟩ := h
  obtain ⟨u, rfl, ru⟩ : ∃ u, us = [u] ∧ RelV (.ref a) u := by
    cases r with
    | cons a b => cases b; exact ⟨_, rfl, a⟩
  obtain ⟨as, rd⟩ := Dp.reads I d _ _ hd ru
  cases ru
  have hdep := SeqAt.depth_of_shaped hsh
  exact PySem.repr_of_reads' rd hs (PyData.noDict_hsm (PyData.hasDict_of_canLay d (SeqAt.canLay_of_shaped hsh))) hg (by omega) (fun _ _ h => h) (fun h' t tk hk => ⟨.str d.shown, H, I.kept hk, ⟨_, rfl⟩, q⟩) hsz
end
end Lw
namespace Lw
open PySem PySem.Builtin PySem.Spec PyProof.Rows L2 XV TL XM
def rRepr (K : PySem.W.Frag) : List V → Hp → VK → Prop := fun xs H Q =>
  (∃ a d, xs = [.ref a] ∧ Dp K H (.ref a) d ∧ d.showable = true ∧ SeqAt.shaped d = true ∧ d.shown.length ≤ sizeLine ∧ Q (.str d.shown) H) ∨
  ∃ z, xs = [.str z] ∧ (reprText z).length ≤ sizeLine ∧ Q (.str (reprText z)) H
section
variable {X : Cx}
theorem call_reprW (hg : X.A.guards = some []) (hu : X.A.units + 66 < cLine) : CallR X (.builtin "repr") (rRepr X.K) := by
  intro pins s σ H xs us Q I r h
  rcases h with h | ⟨z, rfl, hz, q⟩
  · exact call_reprD hg hu pins s σ H xs us Q I r h
  · obtain ⟨u, rfl, ru⟩ : ∃ u, us = [u] ∧ RelV (.str z) u := by
      cases r with
      | cons a b => cases b; exact ⟨_, rfl, a⟩
    obtain ⟨t, rfl⟩ := ru
    exact PySem.P.repr_of_str ⟨.str _, H, I.tok _, ⟨_, rfl⟩, q⟩ hz
theorem op_eqW (hu : X.A.units + 64 < cLine) : OpR X (compareOp .Eq) (fun x y H Q => rEq x y H Q ∨ rEqD X.K x y H Q) := fun pins s σ H x y v u Q I rx ry h => h.elim (op_eq pins s σ H x y v u Q I rx ry) (op_eqD hu pins s σ H x y v u Q I rx ry)
end
abbrev sJust : Stmt := topOf "_law_just"
theorem scJust : FnScope ["told", "due"] ["told", "due"] (defScope sJust) := ⟨rfl, rfl, rfl, by decide +kernel, rfl, by decide +kernel, by decide +kernel⟩
/-- what is told is just so: one datum read from both -/
def spJust (K : PySem.W.Frag) : Sp := fun vs H Q _ =>
  (∃ a b d, vs = [.ref a, .ref b] ∧ Dp K H (.ref a) d ∧ Dp K H (.ref b) d ∧ d.showable = true ∧ SeqAt.shaped d = true ∧ d.shown.length ≤ sizeLine ∧ PyData.eqv d d = true ∧ Q (.bl true) H) ∨
  ∃ z, vs = [.str z, .str z] ∧ (reprText z).length ≤ sizeLine ∧ Q (.bl true) H
section
variable {P : Program} {w : World} {K : PySem.W.Frag} {mg : Str → Option Value} {base : Heap}
theorem ok_just {f : Addr} {fd : FuncData} (F : L2.Fun K "_law_just" "_law_just" sJust f fd) (T : Bt mg) : FnOkG P w K mg base CX0 1 f fd ["told", "due"] (spJust K) := by
  refine okG F scJust (fun vs H Q E h => ?_) (fun cdv A outer s H vs Q E hg hr h => ?_)
  · rcases h with ⟨a, b, d, rfl, _⟩ | ⟨z, rfl, _⟩ <;> rfl
  · have hu : (A.deeper (envOfC "_law_just" (defScope sJust) s.heap.objs.size f cdv)).units + 66 < cLine := by
      have := hr.un
      omega
    refine ⟨_, pss_one (ps_ret (pe_and (pe_cmpR op_eq (pe_callB (call_reprW (by exact hg) (by exact hu)) (by rfl) T.repr (by decide +kernel) (pa_cons (pv 0) pa_nil)) (pe_callB (call_reprW (by exact hg) (by exact hu)) (by rfl) T.repr (by decide +kernel) (pa_cons (pv 1) pa_nil)) (nomark _)) (pe_one (pe_cmpR (op_eqW (by exact un64 hr)) (pv 0) (pv 1) (nomark _))))), ?_⟩
    rcases h with ⟨a, b, d, rfl, hd, hd', hs, hsh, hsz, he, k⟩ | ⟨z, rfl, hz, k⟩
    · refine ⟨_, rfl, .inl ⟨a, d, rfl, hd, hs, hsh, hsz, _, rfl, .inl ⟨b, d, rfl, hd', hs, hsh, hsz, rfl, _, rfl, ?_⟩⟩⟩
      rw [if_pos (decide_eq_true rfl)]
      exact ⟨_, rfl, _, rfl, .inr ⟨d, d, hd, hd', hsh, hsh, by rw [he]; exact k⟩⟩
    · refine ⟨_, rfl, .inr ⟨z, rfl, hz, _, rfl, .inr ⟨z, rfl, hz, rfl, _, rfl, ?_⟩⟩⟩
      rw [if_pos (decide_eq_true rfl)]
      refine ⟨_, rfl, _, rfl, .inl ⟨rfl, ?_⟩⟩
      show Q (.bl (decide (V.str z = V.str z))) H
      rw [decide_eq_true rfl]
      exact k
end
end Lw
namespace Lw
open PySem PySem.Spec PyProof.Rows L2 XV TL XM
theorem show_int {i : Int} (h : Sml i) : PyData.showable (.int i) = true := by
  show decide (i.natAbs.log2 < 1920) = true
  exact decide_eq_true (sml_log h)
theorem show_pair {p : Pr} (h : SmlP p) : PyData.showable (pD p) = true := by
  show (PyData.showable (.int p.1) && (PyData.showable (.int p.2) && true)) = true
  rw [show_int h.1, show_int h.2]
  rfl
theorem show_pairs : ∀ {ps : List Pr}, (∀ p ∈ ps, SmlP p) → PyData.showableAll (ps.map pD) = true
  | [], _ => rfl
  | p :: ps, h => by
    show (PyData.showable (pD p) && PyData.showableAll (ps.map pD)) = true
    rw [show_pair (h p (by simp)), show_pairs fun q hq => h q (by simp [hq])]
    rfl
theorem show_ints : ∀ {ns : List Int}, (∀ n ∈ ns, Sml n) → PyData.showableAll (ns.map PyData.int) = true
  | [], _ => rfl
  | n :: ns, h => by
    show (PyData.showable (.int n) && PyData.showableAll (ns.map PyData.int)) = true
    rw [show_int (h n (by simp)), show_ints fun q hq => h q (by simp [hq])]
    rfl
theorem show_five {hs ss : List Pr} {ls : List Int} {lo hi : Int} (sm : SmlL hs ss ls lo hi) : PyData.showable (.list (fiveD hs ss ls lo hi)) = true := by
  show (PyData.showableAll (hs.map pD) && (PyData.showableAll (ss.map pD) && (PyData.showableAll (ls.map PyData.int) && (PyData.showable (.int lo) && (PyData.showable (.int hi) && true))))) = true
  rw [show_pairs sm.h, show_pairs sm.s, show_ints sm.l, show_int sm.lo, show_int sm.hi]
  rfl
theorem eqv_self_five (hs ss : List Pr) (ls : List Int) (lo hi : Int) : PyData.eqv (.list (fiveD hs ss ls lo hi)) (.list (fiveD hs ss ls lo hi)) = true := by
  show PyData.eqvAll _ _ = true
  rw [eqv_five]
  exact decide_eq_true ⟨rfl, rfl, rfl, rfl, rfl⟩
end Lw
namespace Lw
open PySem PySem.Spec PyProof.Rows L2 XV TL XM
theorem shl_int {i : Int} (h : Sml i) : (PyData.shown (.int i)).length ≤ 11 := sI_len h
theorem shl_pair {p : Pr} (h : SmlP p) : (PyData.shown (pD p)).length ≤ 29 := by
  have h1 := shl_int h.1
  have h2 := shl_int h.2
  have h3 := tupleText_len_le [PyData.shown (.int p.1), PyData.shown (.int p.2)]
  have e : (([PyData.shown (.int p.1), PyData.shown (.int p.2)] : List Str).map (·.length)).sum = (PyData.shown (.int p.1)).length + ((PyData.shown (.int p.2)).length + 0) := rfl
  have e2 : ([PyData.shown (.int p.1), PyData.shown (.int p.2)] : List Str).length = 2 := rfl
  show (tupleText [PyData.shown (.int p.1), PyData.shown (.int p.2)]).length ≤ 29
  omega
theorem shownAll_map {α : Type} (g : α → PyData) : ∀ xs : List α, PyData.shownAll (xs.map g) = xs.map fun x => PyData.shown (g x)
  | [] => rfl
  | x :: xs => by
    show PyData.shown (g x) :: PyData.shownAll (xs.map g) = _
    rw [shownAll_map g xs]
    rfl
theorem shl_row {α : Type} {n : Nat} (g : α → PyData) {xs : List α} (h : ∀ x ∈ xs, (PyData.shown (g x)).length ≤ n) : (PyData.shown (.tuple (xs.map g))).length ≤ xs.length * n + 2 * xs.length + 3 := by
  have h1 := tupleText_len_le (PyData.shownAll (xs.map g))
  rw [shownAll_map] at h1
  have h2 := sum_le (n := n) (ys := xs.map fun x => PyData.shown (g x)) fun y hy => by
    obtain ⟨x, hx, rfl⟩ := List.mem_map.mp hy
    exact h x hx
  rw [List.length_map] at h1 h2
  show (tupleText (PyData.shownAll (xs.map g))).length ≤ _
  rw [shownAll_map]
  omega
theorem shl_five {hs ss : List Pr} {ls : List Int} {lo hi : Int} (sm : SmlL hs ss ls lo hi) : (PyData.shown (.list (fiveD hs ss ls lo hi))).length ≤ 12000 := by
  have a := shl_row (n := 29) pD (xs := hs) fun p hp => shl_pair (sm.h p hp)
  have b := shl_row (n := 29) pD (xs := ss) fun p hp => shl_pair (sm.s p hp)
  have c := shl_row (n := 11) PyData.int (xs := ls) fun p hp => shl_int (sm.l p hp)
  have d := shl_int sm.lo
  have e := shl_int sm.hi
  have h := listText_len_le (PyData.shownAll (fiveD hs ss ls lo hi))
  have e1 : ((PyData.shownAll (fiveD hs ss ls lo hi)).map (·.length)).sum = (PyData.shown (.tuple (hs.map pD))).length + ((PyData.shown (.tuple (ss.map pD))).length + ((PyData.shown (.tuple (ls.map PyData.int))).length + ((PyData.shown (.int lo)).length + ((PyData.shown (.int hi)).length + 0)))) := rfl
  have e2 : (PyData.shownAll (fiveD hs ss ls lo hi)).length = 5 := rfl
  have n1 := sm.nh
  have n2 := sm.ns
  have n3 := sm.nl
  show (listText (PyData.shownAll (fiveD hs ss ls lo hi))).length ≤ 12000
  omega
theorem spJust_five {K : PySem.W.Frag} {H : Hp} {a b : Addr} {hs ss : List Pr} {ls : List Int} {lo hi : Int} {Q : VK} {E : XK} (sm : SmlL hs ss ls lo hi) (h1 : Dp K H (.ref a) (.list (fiveD hs ss ls lo hi))) (h2 : Dp K H (.ref b) (.list (fiveD hs ss ls lo hi))) (k : Q (.bl true) H) : spJust K [.ref a, .ref b] H Q E :=
  .inl ⟨a, b, _, rfl, h1, h2, show_five sm, shaped_fiveL .., by have := shl_five sm; rw [sizeLine_eq]; omega, eqv_self_five .., k⟩
end Lw
namespace Lw
open PySem PySem.Spec PyProof.Rows L2 XV TL XM
/-- a short plain word -/
structure Wd (z : Str) : Prop where
  ok : PyData.canLay0 (.str z) = true
  sh : (PyData.shown (.str z)).length ≤ 40
  eq : PyData.eqv (.str z) (.str z) = true
theorem wd_form : Wd "form" := ⟨by decide +kernel, by decide +kernel, by decide +kernel⟩
theorem wd_pair : Wd "pair" := ⟨by decide +kernel, by decide +kernel, by decide +kernel⟩
theorem wd_missing : Wd "missing" := ⟨by decide +kernel, by decide +kernel, by decide +kernel⟩
theorem wd_lives : Wd "lives" := ⟨by decide +kernel, by decide +kernel, by decide +kernel⟩
theorem wd_hollows : Wd "hollows" := ⟨by decide +kernel, by decide +kernel, by decide +kernel⟩
theorem wd_summits : Wd "summits" := ⟨by decide +kernel, by decide +kernel, by decide +kernel⟩
theorem wd_BadText : Wd "BadText" := ⟨by decide +kernel, by decide +kernel, by decide +kernel⟩
theorem wd_BadValue : Wd "BadValue" := ⟨by decide +kernel, by decide +kernel, by decide +kernel⟩
/-- ('BadText', 'BadText', 'lives', n, why) -/
def btD (n : Int) (z : Str) : PyData := .tuple [.str "BadText", .str "BadText", .str "lives", .int n, .str z]
/-- ('BadValue', 'BadValue', what) -/
def bvD (z : Str) : PyData := .tuple [.str "BadValue", .str "BadValue", .str z]
theorem spJust_bt {K : PySem.W.Frag} {H : Hp} {a b : Addr} {n : Int} {z : Str} {Q : VK} {E : XK} (hn : Sml n) (hz : Wd z) (h1 : SqT K H a [.str "BadText", .str "BadText", .str "lives", .int n, .str z]) (h2 : SqT K H b [.str "BadText", .str "BadText", .str "lives", .int n, .str z]) (k : Q (.bl true) H) : spJust K [.ref a, .ref b] H Q E := by
  have dp : ∀ {c : Addr}, SqT K H c [.str "BadText", .str "BadText", .str "lives", .int n, .str z] → Dp K H (.ref c) (btD n z) := fun h => .tup h (.cons (.str _) (.cons (.str _) (.cons (.str _) (.cons (.int _) (.cons (.str _) .nil)))))
  refine .inl ⟨a, b, btD n z, rfl, dp h1, dp h2, ?_, ?_, ?_, ?_, k⟩
  · show (true && (true && (true && (PyData.showable (.int n) && (true && true))))) = true
    rw [show_int hn]
    rfl
  · unfold SeqAt.shaped
    rw [Bool.and_eq_true]
    refine ⟨?_, decide_eq_true ?_⟩
    · show (PyData.canLay0 (.str "BadText") && (PyData.canLay0 (.str "BadText") && (PyData.canLay0 (.str "lives") && (true && (PyData.canLay0 (.str z) && true))))) = true
      rw [wd_BadText.ok, wd_lives.ok, hz.ok]
      rfl
    · simp only [btD, PyData.depth, PyData.depthAll]
      decide
  · have h := tupleText_len_le (PyData.shownAll [.str "BadText", .str "BadText", .str "lives", .int n, .str z])
    have e1 : ((PyData.shownAll [.str "BadText", .str "BadText", .str "lives", .int n, .str z]).map (·.length)).sum = (PyData.shown (.str "BadText")).length + ((PyData.shown (.str "BadText")).length + ((PyData.shown (.str "lives")).length + ((PyData.shown (.int n)).length + ((PyData.shown (.str z)).length + 0)))) := rfl
    have e2 : (PyData.shownAll [.str "BadText", .str "BadText", .str "lives", .int n, .str z]).length = 5 := rfl
    have h1 := wd_BadText.sh
    have h2 := wd_lives.sh
    have h3 := hz.sh
    have h4 := shl_int hn
    show (tupleText (PyData.shownAll [.str "BadText", .str "BadText", .str "lives", .int n, .str z])).length ≤ sizeLine
    rw [sizeLine_eq]
    omega
  · show (PyData.eqv (.str "BadText") (.str "BadText") && (PyData.eqv (.str "BadText") (.str "BadText") && (PyData.eqv (.str "lives") (.str "lives") && ((n == n) && (PyData.eqv (.str z) (.str z) && true))))) = true
    rw [wd_BadText.eq, wd_lives.eq, hz.eq, beq_self_eq_true]
    rfl
theorem spJust_bv {K : PySem.W.Frag} {H : Hp} {a b : Addr} {z : Str} {Q : VK} {E : XK} (hz : Wd z) (h1 : SqT K H a [.str "BadValue", .str "BadValue", .str z]) (h2 : SqT K H b [.str "BadValue", .str "BadValue", .str z]) (k : Q (.bl true) H) : spJust K [.ref a, .ref b] H Q E := by
  have dp : ∀ {c : Addr}, SqT K H c [.str "BadValue", .str "BadValue", .str z] → Dp K H (.ref c) (bvD z) := fun h => .tup h (.cons (.str _) (.cons (.str _) (.cons (.str _) .nil)))
  refine .inl ⟨a, b, bvD z, rfl, dp h1, dp h2, rfl, ?_, ?_, ?_, k⟩
  · unfold SeqAt.shaped
    rw [Bool.and_eq_true]
    refine ⟨?_, decide_eq_true ?_⟩
    · show (PyData.canLay0 (.str "BadValue") && (PyData.canLay0 (.str "BadValue") && (PyData.canLay0 (.str z) && true))) = true
      rw [wd_BadValue.ok, hz.ok]
      rfl
    · simp only [bvD, PyData.depth, PyData.depthAll]
      decide
  · have h := tupleText_len_le (PyData.shownAll [.str "BadValue", .str "BadValue", .str z])
    have e1 : ((PyData.shownAll [.str "BadValue", .str "BadValue", .str z]).map (·.length)).sum = (PyData.shown (.str "BadValue")).length + ((PyData.shown (.str "BadValue")).length + ((PyData.shown (.str z)).length + 0)) := rfl
    have e2 : (PyData.shownAll [.str "BadValue", .str "BadValue", .str z]).length = 3 := rfl
    have h1 := wd_BadValue.sh
    have h3 := hz.sh
    show (tupleText (PyData.shownAll [.str "BadValue", .str "BadValue", .str z])).length ≤ sizeLine
    rw [sizeLine_eq]
    omega
  · show (PyData.eqv (.str "BadValue") (.str "BadValue") && (PyData.eqv (.str "BadValue") (.str "BadValue") && (PyData.eqv (.str z) (.str z) && true))) = true
    rw [wd_BadValue.eq, hz.eq]
    rfl
end Lw
namespace Lw
open PySem PySem.Spec PyProof.Rows L2 XV TL XM
/-- signs that repr writes in at most ten -/
def Lo (z : Str) : Prop := ∀ c ∈ tl z, c < 16 ^ 8
theorem lo_of (s : String) : Lo (Str.ofString s) := fun c hc => by
  rw [tl_ofString] at hc
  obtain ⟨x, _, rfl⟩ := List.mem_map.mp hc
  have h : x.toNat < 16 ^ 8 := Nat.lt_of_lt_of_le x.val.toNat_lt (by decide)
  exact h
theorem lo_add {x y : Str} (hx : Lo x) (hy : Lo y) : Lo (x ++ y) := fun c hc => by
  rw [tl_append] at hc
  exact (List.mem_append.mp hc).elim (hx c) (hy c)
theorem lo_joinL {S : List Nat} (hS : ∀ c ∈ S, c < 16 ^ 8) : ∀ {ps : List (List Nat)}, (∀ p ∈ ps, ∀ c ∈ p, c < 16 ^ 8) → ∀ c ∈ joinL S ps, c < 16 ^ 8
  | [], _, c, hc => absurd hc (by simp [joinL])
  | [p], h, c, hc => h p (by simp) c hc
  | p :: q :: r, h, c, hc => by
    have e : joinL S (p :: q :: r) = p ++ (S ++ joinL S (q :: r)) := rfl
    rw [e, List.mem_append, List.mem_append] at hc
    rcases hc with hc | hc | hc
    · exact h p (by simp) c hc
    · exact hS c hc
    · exact lo_joinL hS (fun p' hp' => h p' (List.mem_cons_of_mem _ hp')) c hc
theorem lo_join {y : Str} {ys : List Str} (hy : Lo y) (h : ∀ z ∈ ys, Lo z) : Lo (Txt.join y ys) := fun c hc => by
  have e : tl (Txt.join y ys) = joinL (tl y) (ys.map tl) := by rw [join_eq]; exact tl_join y ys
  rw [e] at hc
  refine lo_joinL hy (fun p hp => ?_) c hc
  obtain ⟨z, hz, rfl⟩ := List.mem_map.mp hp
  exact h z hz
theorem lo_pr (p : Pr) : Lo (sPr p) := lo_add (lo_add (lo_of _) (lo_of _)) (lo_of _)
theorem lo_sp (z : String) (ps : List Pr) : Lo (wSp (Str.ofString z) ps) := lo_join (lo_of _) fun y hy => by
  rcases List.mem_cons.mp hy with rfl | hy
  · exact lo_of _
  · obtain ⟨p, _, rfl⟩ := List.mem_map.mp hy
    exact lo_pr p
theorem lo_he (z : String) (ns : List Int) : Lo (wHe (Str.ofString z) ns) := lo_join (lo_of _) fun y hy => by
  rcases List.mem_cons.mp hy with rfl | hy
  · exact lo_of _
  · obtain ⟨p, _, rfl⟩ := List.mem_map.mp hy
    exact lo_of _
theorem lo_lvT (hs ss : List Pr) (ls : List Int) (lo hi : Int) : Lo (lvT hs ss ls lo hi) := lo_join (lo_of _) fun y hy => by
  simp only [lvL, List.cons_append, List.nil_append, List.mem_cons, List.not_mem_nil, or_false] at hy
  rcases hy with rfl | rfl | rfl | rfl | rfl | rfl | rfl | rfl
  · exact lo_of _
  · exact lo_sp _ _
  · exact lo_sp _ _
  · exact lo_he _ _
  · exact lo_add (lo_of _) (lo_of _)
  · exact lo_add (lo_of _) (lo_of _)
  · exact lo_of _
  · exact lo_of _
theorem spJust_str {K : PySem.W.Frag} {H : Hp} {z : Str} {Q : VK} {E : XK} (hz : Lo z) (hl : z.length ≤ 60000) (k : Q (.bl true) H) : spJust K [.str z, .str z] H Q E :=
  .inr ⟨z, rfl, by have := PySem.StrLaws.reprText_len z hz; rw [sizeLine_eq]; omega, k⟩
end Lw
namespace Lw
open PySem PySem.Spec PyProof.Rows L2 XV TL XM
theorem spJust_two {K : PySem.W.Frag} {H : Hp} {a b : Addr} {m n : Int} {Q : VK} {E : XK} (hm : Sml m) (hn : Sml n) (h1 : SqL K H a [.int m, .int n]) (h2 : SqL K H b [.int m, .int n]) (k : Q (.bl true) H) : spJust K [.ref a, .ref b] H Q E := by
  have dp : ∀ {c : Addr}, SqL K H c [.int m, .int n] → Dp K H (.ref c) (.list [.int m, .int n]) := fun h => .lst h (.cons (.int _) (.cons (.int _) .nil))
  refine .inl ⟨a, b, .list [.int m, .int n], rfl, dp h1, dp h2, ?_, ?_, ?_, ?_, k⟩
  · show (PyData.showable (.int m) && (PyData.showable (.int n) && true)) = true
    rw [show_int hm, show_int hn]
    rfl
  · unfold SeqAt.shaped
    rw [Bool.and_eq_true]
    refine ⟨rfl, decide_eq_true ?_⟩
    simp only [PyData.depth, PyData.depthAll]
    decide
  · have h := listText_len_le (PyData.shownAll [.int m, .int n])
    have e1 : ((PyData.shownAll [.int m, .int n]).map (·.length)).sum = (PyData.shown (.int m)).length + ((PyData.shown (.int n)).length + 0) := rfl
    have e2 : (PyData.shownAll [.int m, .int n]).length = 2 := rfl
    have h3 := shl_int hm
    have h4 := shl_int hn
    show (listText (PyData.shownAll [.int m, .int n])).length ≤ sizeLine
    rw [sizeLine_eq]
    omega
  · show ((m == m) && ((n == n) && true)) = true
    rw [beq_self_eq_true, beq_self_eq_true]
    rfl
end Lw
namespace Lw
open PySem PySem.Spec PyProof.Rows L2 XV TL XM
/-! what is written is read back -/
/-- a number of at most nine digits -/
def N9 (i : Int) : Prop := -1000000000 < i ∧ i < 1000000000
theorem numL_head : ∀ n : Nat, 0 < n → (numL n).head? ≠ some 48 := fun n => by
  induction n using Nat.strongRecOn with
  | ind n ih =>
    intro h0
    by_cases h : n < 10
    · rw [numL_lt h]
      simp
      omega
    · rw [numL_step (by omega)]
      have := ih (n / 10) (by omega) (by omega)
      cases e : numL (n / 10) with
      | nil => exact absurd e (numL_ne _)
      | cons c r =>
        rw [e] at this
        exact this
theorem numL_dg (n : Nat) : (numL n).all isDg = true := List.all_eq_true.mpr fun c hc => by
  have h := numL_digits n c hc
  refine decide_eq_true ?_
  have e : zDig.cps.toList = [48, 49, 50, 51, 52, 53, 54, 55, 56, 57] := by decide +kernel
  rw [e]
  simp only [List.mem_cons, List.not_mem_nil, or_false]
  omega
theorem dgL_num (n : Nat) : dgL (numL n) = numL n := by
  unfold dgL
  split
  · rename_i r e
    exact absurd (by rw [e]; exact List.mem_cons_self .. : (45 : Nat) ∈ numL n) (numL_free (Or.inl (by decide)))
  · rfl
theorem valL_num (n : Nat) : valL (numL n) = n := by
  unfold valL
  split
  · rename_i r e
    exact absurd (by rw [e]; exact List.mem_cons_self .. : (45 : Nat) ∈ numL n) (numL_free (Or.inl (by decide)))
  · rw [numL_val]
theorem numOk_of {l : List Nat} {n : Nat} (e : dgL l = numL n) (h0 : 0 < n) (h : n < 10 ^ 9) : numOk l = true := by
  have h1 := numL_len (k := 9) (by decide) h
  have h2 : 1 ≤ (numL n).length := by
    cases e : numL n with
    | nil => exact absurd e (numL_ne n)
    | cons c r => simp
  rw [numOk, e, numL_dg, decide_eq_true h1, decide_eq_true h2, bne_iff_ne.mpr (numL_head n h0)]
  simp
theorem tl_sI_nat (n : Nat) : tl (sI (n : Int)) = numL n := tl_num n
theorem tl_sI_neg (n : Nat) : tl (sI (-((n + 1 : Nat) : Int))) = 45 :: numL (n + 1) := by
  have e : toString (-((n + 1 : Nat) : Int)) = "-" ++ toString ((n + 1 : Nat) : Int) := rfl
  have e2 := tl_num (n + 1)
  rw [tl_ofString] at e2
  rw [sI, e, tl_ofString, String.toList_append, List.map_append, e2]
  rfl
theorem sI_cases (i : Int) : (∃ n : Nat, i = n ∧ tl (sI i) = numL n) ∨ ∃ n : Nat, i = -((n + 1 : Nat) : Int) ∧ tl (sI i) = 45 :: numL (n + 1) := by
  rcases Int.lt_or_le i 0 with h | h
  · obtain ⟨n, rfl⟩ : ∃ n : Nat, i = -((n + 1 : Nat) : Int) := ⟨(-i).toNat - 1, by omega⟩
    exact .inr ⟨n, rfl, tl_sI_neg n⟩
  · obtain ⟨n, rfl⟩ : ∃ n : Nat, i = n := ⟨i.toNat, by omega⟩
    exact .inl ⟨n, rfl, tl_sI_nat n⟩
theorem sI_num {i : Int} (h : N9 i) : numOk (tl (sI i)) = true ∧ valL (tl (sI i)) = i := by
  obtain ⟨h1, h2⟩ := h
  rcases sI_cases i with ⟨n, rfl, e⟩ | ⟨n, rfl, e⟩
  · rw [e]
    refine ⟨?_, valL_num n⟩
    by_cases h0 : n = 0
    · subst h0
      decide +kernel
    · exact numOk_of (dgL_num n) (by omega) (by omega)
  · rw [e]
    refine ⟨numOk_of (n := n + 1) rfl (by omega) (by omega), ?_⟩
    show -((NumText.digitsVal (numL (n + 1)) : Nat) : Int) = _
    rw [numL_val]
theorem sI_free {i : Int} {s : Nat} (h : s < 45 ∨ 57 < s ∨ s = 46 ∨ s = 47) : s ∉ tl (sI i) := by
  rcases sI_cases i with ⟨n, rfl, e⟩ | ⟨n, rfl, e⟩ <;> rw [e]
  · exact numL_free (by omega)
  · intro hm
    rcases List.mem_cons.mp hm with hm | hm
    · omega
    · exact numL_free (by omega) hm
theorem tl_sPr (p : Pr) : tl (sPr p) = tl (sI p.1) ++ ([46, 46] ++ tl (sI p.2)) := by
  have e : tl (".." : Str) = [46, 46] := by decide +kernel
  rw [sPr, tl_append, tl_append, e, List.append_assoc]
theorem sPr_free {p : Pr} {s : Nat} (h : s < 45 ∨ 57 < s) : s ∉ tl (sPr p) := by
  rw [tl_sPr]
  intro hm
  rcases List.mem_append.mp hm with hm | hm
  · exact sI_free (by omega) hm
  · rcases List.mem_append.mp hm with hm | hm
    · simp at hm
      omega
    · exact sI_free (by omega) hm
theorem span_sPr {p : Pr} (h1 : N9 p.1) (h2 : N9 p.2) : spanV (tl (sPr p)) = some p := by
  have e : spl [46, 46] 0 [] (tl (sPr p)) = [tl (sI p.1), tl (sI p.2)] := by
    rw [tl_sPr]
    have a := spl_part1 (s := 46) (S := [46]) (p := tl (sI p.1)) (rest := tl (sI p.2)) (acc := []) (sI_free (by omega))
    have b := spl_last1 (s := 46) (S := [46]) (p := tl (sI p.2)) (acc := []) (sI_free (by omega))
    rw [List.nil_append] at a b
    rw [a, b]
  rw [spanV, e]
  show (if (numOk (tl (sI p.1)) && numOk (tl (sI p.2))) = true then some (valL (tl (sI p.1)), valL (tl (sI p.2))) else none) = _
  rw [(sI_num h1).1, (sI_num h2).1, (sI_num h1).2, (sI_num h2).2]
  rfl
/-- a line of words -/
theorem line_of {w : Str} {ys : List Str} (hw : 32 ∉ tl w) (h : ∀ y ∈ ys, 32 ∉ tl y) : whead (tl (Txt.join " " (w :: ys))) = tl w ∧ wtail (tl (Txt.join " " (w :: ys))) = ys.map tl := by
  have e0 : tl (" " : Str) = [32] := by decide +kernel
  have e : spl [32] 0 [] (tl (Txt.join " " (w :: ys))) = tl w :: ys.map tl := by
    rw [join_eq, tl_join, e0]
    refine spl_join (s := 32) (S := []) (parts := (w :: ys).map tl) (by simp) fun p hp => ?_
    obtain ⟨y, hy, rfl⟩ := List.mem_map.mp hp
    rcases List.mem_cons.mp hy with rfl | hy
    · exact hw
    · exact h y hy
  exact ⟨by rw [whead, e]; rfl, by rw [wtail, e]; rfl⟩
theorem join_free {s : Nat} {S : List Nat} (hS : s ∉ S) : ∀ {ps : List (List Nat)}, (∀ p ∈ ps, s ∉ p) → s ∉ joinL S ps
  | [], _ => by simp [joinL]
  | [p], h => h p (by simp)
  | p :: q :: r, h => fun hm => by
    have e : joinL S (p :: q :: r) = p ++ (S ++ joinL S (q :: r)) := rfl
    rw [e, List.mem_append, List.mem_append] at hm
    rcases hm with hm | hm | hm
    · exact h p (by simp) hm
    · exact hS hm
    · exact join_free hS (fun p' hp' => h p' (List.mem_cons_of_mem _ hp')) hm
theorem words_free {w : Str} {ys : List Str} (hw : 10 ∉ tl w) (h : ∀ y ∈ ys, 10 ∉ tl y) : 10 ∉ tl (Txt.join " " (w :: ys)) := by
  have e0 : tl (" " : Str) = [32] := by decide +kernel
  rw [join_eq, tl_join, e0]
  refine join_free (by decide) fun p hp => ?_
  obtain ⟨y, hy, rfl⟩ := List.mem_map.mp hp
  rcases List.mem_cons.mp hy with rfl | hy
  · exact hw
  · exact h y hy
theorem nl_lvT (hs ss : List Pr) (ls : List Int) (lo hi : Int) : nl (lvT hs ss ls lo hi) = (lvL hs ss ls lo hi ++ [("" : Str)]).map tl := by
  have e0 : tl ("\n" : Str) = [10] := by decide +kernel
  have k : (10 ∉ tl ("lives" : Str) ∧ 10 ∉ tl ("hollows" : Str) ∧ 10 ∉ tl ("summits" : Str)) ∧ (10 ∉ tl ("loose" : Str) ∧ 10 ∉ tl ("lowest " : Str) ∧ 10 ∉ tl ("highest " : Str)) ∧ 10 ∉ tl ("done" : Str) ∧ 10 ∉ tl ("" : Str) := by decide +kernel
  rw [nl, lvT, join_eq, tl_join, e0]
  refine spl_join (s := 10) (S := []) (by simp [lvL]) fun p hp => ?_
  obtain ⟨y, hy, rfl⟩ := List.mem_map.mp hp
  simp only [lvL, List.cons_append, List.nil_append, List.mem_cons, List.not_mem_nil, or_false] at hy
  have sp : ∀ (w : Str) (ps : List Pr), 10 ∉ tl w → 10 ∉ tl (wSp w ps) := fun w ps hw => words_free hw fun y hy => by
    obtain ⟨p, _, rfl⟩ := List.mem_map.mp hy
    exact sPr_free (by omega)
  have he : ∀ (w : Str) (ps : List Int), 10 ∉ tl w → 10 ∉ tl (wHe w ps) := fun w ps hw => words_free hw fun y hy => by
    obtain ⟨p, _, rfl⟩ := List.mem_map.mp hy
    exact sI_free (by omega)
  have ap : ∀ (w : Str) (i : Int), 10 ∉ tl w → 10 ∉ tl (w ++ sI i) := fun w i hw hm => by
    rw [tl_append, List.mem_append] at hm
    exact hm.elim hw (sI_free (by omega))
  rcases hy with rfl | rfl | rfl | rfl | rfl | rfl | rfl | rfl
  · exact k.1.1
  · exact sp _ _ k.1.2.1
  · exact sp _ _ k.1.2.2
  · exact he _ _ k.2.1.1
  · exact ap _ _ k.2.1.2.1
  · exact ap _ _ k.2.1.2.2
  · exact k.2.2.1
  · exact k.2.2.2
structure Good5 (hs ss : List Pr) (ls : List Int) (lo hi : Int) : Prop where
  h : ∀ p ∈ hs, GoodP p
  s : ∀ p ∈ ss, GoodP p
  l : ∀ n ∈ ls, N9 n
  lo : N9 lo
  hi : N9 hi
theorem prs_of {ps : List Pr} (h : ∀ p ∈ ps, GoodP p) : (∀ x ∈ (ps.map sPr).map tl, (spanV x).isNone = false ∧ badP x = false) ∧ prs ((ps.map sPr).map tl) = ps := by
  have g : ∀ p ∈ ps, spanV (tl (sPr p)) = some p := fun p hp => by
    have := h p hp
    obtain ⟨a, b, c⟩ := this
    exact span_sPr ⟨a, by omega⟩ ⟨by omega, c⟩
  refine ⟨fun x hx => ?_, ?_⟩
  · obtain ⟨y, hy, rfl⟩ := List.mem_map.mp hx
    obtain ⟨p, hp, rfl⟩ := List.mem_map.mp hy
    obtain ⟨a, b, c⟩ := h p hp
    refine ⟨by rw [g p hp]; rfl, ?_⟩
    rw [badP, g p hp]
    exact decide_eq_false (by omega)
  · rw [prs, List.map_map, List.map_map]
    have : ps.map ((fun x => (spanV x).getD (0, 0)) ∘ tl ∘ sPr) = ps.map id := List.map_congr_left fun p hp => by
      show (spanV (tl (sPr p))).getD (0, 0) = p
      rw [g p hp]
      rfl
    rw [List.map_id] at this
    exact this
theorem nums_of' {ns : List Int} (h : ∀ n ∈ ns, N9 n) : (∀ x ∈ (ns.map sI).map tl, numOk x = true) ∧ ((ns.map sI).map tl).map valL = ns := by
  refine ⟨fun x hx => ?_, ?_⟩
  · obtain ⟨y, hy, rfl⟩ := List.mem_map.mp hx
    obtain ⟨p, hp, rfl⟩ := List.mem_map.mp hy
    exact (sI_num (h p hp)).1
  · rw [List.map_map, List.map_map]
    have : ns.map (valL ∘ tl ∘ sI) = ns.map id := List.map_congr_left fun p hp => (sI_num (h p hp)).2
    rw [List.map_id] at this
    exact this
theorem line_sp {w : Str} {ps : List Pr} {k : Nat} (hk : k = 1 ∨ k = 2) (e : w = wdN k) (hw : 32 ∉ tl w) (h : ∀ p ∈ ps, GoodP p) : lineF k (tl (wSp w ps)) = none ∧ prs (wtail (tl (wSp w ps))) = ps := by
  obtain ⟨a, b⟩ := line_of (w := w) (ys := ps.map sPr) hw fun y hy => by
    obtain ⟨p, _, rfl⟩ := List.mem_map.mp hy
    exact sPr_free (by omega)
  obtain ⟨c, d⟩ := prs_of h
  refine ⟨?_, by rw [wSp, b, d]⟩
  rw [lineF, if_neg (by omega), if_neg (by rw [wSp, a, e]; simp), if_pos (by omega), if_neg, if_neg]
  · rw [wSp, b]
    intro z
    obtain ⟨x, hx, hb⟩ := List.any_eq_true.mp z
    rw [(c x hx).2] at hb
    cases hb
  · rw [wSp, b]
    intro z
    obtain ⟨x, hx, hb⟩ := List.any_eq_true.mp z
    rw [(c x hx).1] at hb
    cases hb
theorem line_he {w : Str} {ns : List Int} {k : Nat} (hk : k = 3 ∨ (k = 4 ∨ k = 5) ∧ ns.length = 1) (e : w = wdN k) (hw : 32 ∉ tl w) (h : ∀ p ∈ ns, N9 p) : lineF k (tl (wHe w ns)) = none ∧ wtail (tl (wHe w ns)) = (ns.map sI).map tl := by
  obtain ⟨a, b⟩ := line_of (w := w) (ys := ns.map sI) hw fun y hy => by
    obtain ⟨p, _, rfl⟩ := List.mem_map.mp hy
    exact sI_free (by omega)
  obtain ⟨c, d⟩ := nums_of' h
  refine ⟨?_, by rw [wHe, b]⟩
  rw [lineF, if_neg (by omega), if_neg (by rw [wHe, a, e]; simp), if_neg (by omega), if_neg]
  rw [wHe, b]
  rintro (z | ⟨z, z2⟩)
  · obtain ⟨x, hx, hb⟩ := List.any_eq_true.mp z
    rw [c x hx] at hb
    cases hb
  · rw [List.length_map, List.length_map] at z2
    omega
theorem one_word (w : Str) (i : Int) : wHe w [i] = w ++ " " ++ sI i := by
  rw [wHe, join_eq]
  exact ext_tl (by rw [tl_join, tl_append, tl_append]; show tl w ++ (tl (" " : Str) ++ tl (sI i)) = _; rw [List.append_assoc])
theorem told_written {hs ss : List Pr} {ls : List Int} {lo hi : Int} (g : Good5 hs ss ls lo hi) : livesF (nl (lvT hs ss ls lo hi)) = none ∧ ∀ hs' ss' ls' lo' hi', Told5 (nl (lvT hs ss ls lo hi)) hs' ss' ls' lo' hi' → SortP hs hs' ∧ SortP ss ss' ∧ SortI ls ls' ∧ lo' = lo ∧ hi' = hi := by
  have k : (32 ∉ tl (wdN 1) ∧ 32 ∉ tl (wdN 2) ∧ 32 ∉ tl (wdN 3)) ∧ 32 ∉ tl (wdN 4) ∧ 32 ∉ tl (wdN 5) := by decide +kernel
  obtain ⟨a1, b1⟩ := line_sp (k := 1) (.inl rfl) rfl k.1.1 g.h
  obtain ⟨a2, b2⟩ := line_sp (k := 2) (.inr rfl) rfl k.1.2.1 g.s
  obtain ⟨a3, b3⟩ := line_he (k := 3) (.inl rfl) rfl k.1.2.2 g.l
  have one : ∀ {i : Int}, N9 i → ∀ p ∈ [i], N9 p := fun h p hp => by rw [List.mem_singleton.mp hp]; exact h
  obtain ⟨a4, b4⟩ := line_he (k := 4) (ns := [lo]) (.inr ⟨.inl rfl, rfl⟩) rfl k.2.1 (one g.lo)
  obtain ⟨a5, b5⟩ := line_he (k := 5) (ns := [hi]) (.inr ⟨.inr rfl, rfl⟩) rfl k.2.2 (one g.hi)
  have e4 : (wHe (wdN 4) [lo] : Str) = "lowest " ++ sI lo := by
    rw [one_word, show (wdN 4 ++ " " : Str) = "lowest " from by decide +kernel]
  have e5 : (wHe (wdN 5) [hi] : Str) = "highest " ++ sI hi := by
    rw [one_word, show (wdN 5 ++ " " : Str) = "highest " from by decide +kernel]
  rw [e4] at a4 b4
  rw [e5] at a5 b5
  have en : nl (lvT hs ss ls lo hi) = [tl ("lives" : Str), tl (wSp (wdN 1) hs), tl (wSp (wdN 2) ss), tl (wHe (wdN 3) ls), tl ("lowest " ++ sI lo), tl ("highest " ++ sI hi), tl ("done" : Str), []] := nl_lvT hs ss ls lo hi
  have a0 : lineF 0 (tl ("lives" : Str)) = none := by decide +kernel
  have a6 : lineF 6 (tl ("done" : Str)) = none := by decide +kernel
  rw [en]
  refine ⟨?_, ?_⟩
  · unfold livesF
    have : linesF 0 ([tl ("lives" : Str), tl (wSp (wdN 1) hs), tl (wSp (wdN 2) ss), tl (wHe (wdN 3) ls), tl ("lowest " ++ sI lo), tl ("highest " ++ sI hi), tl ("done" : Str), []] : List (List Nat)).dropLast = none := by
      show linesF 0 [tl ("lives" : Str), tl (wSp (wdN 1) hs), tl (wSp (wdN 2) ss), tl (wHe (wdN 3) ls), tl ("lowest " ++ sI lo), tl ("highest " ++ sI hi), tl ("done" : Str)] = none
      simp only [linesF, a0, a1, a2, a3, a4, a5, a6]
    rw [this]
    rfl
  · rintro hs' ss' ls' lo' hi' ⟨l1, l2, l3, l4, l5, w4, w5, h1, h2, h3, h4, h5, s1, s2, s3, t4, t5, rfl, rfl⟩
    cases h1
    cases h2
    cases h3
    cases h4
    cases h5
    rw [b1] at s1
    rw [b2] at s2
    rw [b3, (nums_of' g.l).2] at s3
    rw [b4] at t4
    rw [b5] at t5
    cases t4
    cases t5
    exact ⟨s1, s2, s3, (sI_num g.lo).2, (sI_num g.hi).2⟩
end Lw
namespace Lw
open PySem PySem.Spec PyProof.Rows L2 XV TL XM
theorem del_of {H : Hp} {D q : Addr} {o u : HO} (h : H D = some u) (hq : H q = none) : delH (upd H q o) D q = some o := by
  rw [delH_ne (fun e => by rw [e, h] at hq; cases hq), upd_same]
theorem del_same {H : Hp} {D : Addr} : Same (delH H D) H := fun a u h => by
  by_cases e : a = D
  · rw [e, delH_same] at h
    cases h
  · rw [delH_ne e] at h
    exact h
/-- a comprehension over a list, thing by thing -/
theorem lc_made {K : PySem.W.Frag} {a : Addr} {xs : List V} {g : TG} {tt : TT} {te : TE} {vs : List Nat} {σ : L2.St} {H1 : Hp} {D : Addr} {Qd : Hp → Prop} (R : Nat → V → Hp → Prop) (mono : ∀ i y M M', Same M M' → R i y M → R i y M') (hD : H1 D = none) (ha : SqL K H1 a xs) (hn : xs.length < sizeLine)
    (hs : ∀ i x H, xs[i]? = some x → Same H1 H → (∃ acc, H D = some (.lst acc)) → ∀ (Qn : V → Hp → Prop) (Z : Hp → Prop), (∀ y H4, Same H H4 → R i y (delH H4 D) → Qn y H4) → g x (wipe σ vs) H fun σ2 H2 => wipe σ2 vs = wipe σ vs ∧ tt σ2 H2 fun b H3 => if b = true then te σ2 H3 Qn else Z H3)
    (hd : ∀ H ys, Same H1 H → H D = some (.lst ys) → ys.length = xs.length → (∀ j y, ys[j]? = some y → R j y H) → Qd H) :
    ∃ W : Nat → Nat → Hp → Prop, (∃ m, W 0 m (upd H1 D (.lst []))) ∧ ∀ i m H, W i m H →
      ((Itl K a).stop i H ∧ Qd H) ∨ ((Itl K a).go i H ∧ ∃ Nx : Hp → Prop, (∀ H', Nx H' → ∃ m', m' < m ∧ W (i + 1) m' H') ∧ ∀ x H', (Itl K a).yld i H x H' → g x (wipe σ vs) H' fun σ2 H2 => wipe σ2 vs = wipe σ vs ∧ tt σ2 H2 fun b H3 =>
        if b = true then te σ2 H3 fun y H4 => ∃ acc, H4 D = some (.lst acc) ∧ acc.length < sizeLine ∧ Nx (upd H4 D (.lst (acc ++ [y]))) else Nx H3) := by
  refine lc_list (K := K) (a := a) (xs := xs) (fun i H => Same H1 H ∧ ∃ ys, H D = some (.lst ys) ∧ ys.length = i ∧ ∀ j y, ys[j]? = some y → R j y (delH H D)) ⟨same_new hD, [], upd_same, rfl, fun j y h => by cases h⟩ (fun i H _ h => h.1.seq ha) (fun i x H hx h => ?_) fun H h => ?_
  · obtain ⟨s1, ys, e1, l1, o1⟩ := h
    refine hs i x H hx s1 ⟨ys, e1⟩ _ _ fun y H4 s4 r4 => ?_
    have hi := (List.getElem?_eq_some_iff.mp hx).1
    have e4 := s4 _ _ e1
    have dd : Same (delH H D) (delH (upd H4 D (.lst (ys ++ [y]))) D) := fun b o h => by
      by_cases e : b = D
      · rw [e, delH_same] at h
        cases h
      · rw [delH_ne e] at h ⊢
        rw [upd_ne e]
        exact s4 _ _ h
    have d4 : Same (delH H4 D) (delH (upd H4 D (.lst (ys ++ [y]))) D) := fun b o h => by
      by_cases e : b = D
      · rw [e, delH_same] at h
        cases h
      · rw [delH_ne e] at h ⊢
        rw [upd_ne e]
        exact h
    refine ⟨ys, e4, by omega, fun b o h => ?_, ys ++ [y], upd_same, by rw [List.length_append, l1]; rfl, fun j w hj => ?_⟩
    · rw [upd_ne (ne_of_none h hD)]
      exact s4 _ _ (s1 _ _ h)
    · by_cases c : j < ys.length
      · rw [List.getElem?_append_left c] at hj
        exact mono _ _ _ _ dd (o1 j w hj)
      · rw [List.getElem?_append_right (by omega)] at hj
        have hj0 : j - ys.length = 0 := by
          have := (List.getElem?_eq_some_iff.mp hj).1
          simp at this
          omega
        rw [hj0] at hj
        cases hj
        have : j = i := by omega
        subst this
        exact mono _ _ _ _ d4 r4
  · obtain ⟨s1, ys, e1, l1, o1⟩ := h
    exact hd H ys s1 e1 l1 fun j y hj => mono _ _ _ _ del_same (o1 j y hj)
theorem num_sml {l : List Nat} (h : numOk l = true) : Sml (valL l) := by
  have key : ∀ r : List Nat, r.length ≤ 9 → r.all isDg = true → NumText.digitsVal r < 10 ^ 9 := fun r hr hd => by
    have : ∀ (r : List Nat) (a : Nat), r.all isDg = true → r.foldl (fun acc c => acc * 10 + (c - 48)) a < (a + 1) * 10 ^ r.length := fun r => by
      induction r with
      | nil => intro a _; simp
      | cons c r ih =>
        intro a h
        rw [List.all_cons, Bool.and_eq_true] at h
        have hc := dig_mem h.1
        have := ih (a * 10 + (c - 48)) h.2
        rw [List.foldl_cons, List.length_cons, Nat.pow_succ]
        refine Nat.lt_of_lt_of_le this ?_
        have : (a * 10 + (c - 48) + 1) ≤ (a + 1) * 10 := by omega
        calc (a * 10 + (c - 48) + 1) * 10 ^ r.length ≤ ((a + 1) * 10) * 10 ^ r.length := Nat.mul_le_mul_right _ this
          _ = (a + 1) * (10 ^ r.length * 10) := by rw [Nat.mul_assoc, Nat.mul_comm 10]
    have h2 := this r 0 hd
    have h3 : 10 ^ r.length ≤ 10 ^ 9 := Nat.pow_le_pow_right (by decide) hr
    have h4 : NumText.digitsVal r < (0 + 1) * 10 ^ r.length := h2
    omega
  unfold numOk at h
  rcases Bool.or_eq_true_iff.mp h with h | h
  · rw [eq_of_beq h]
    unfold Sml
    decide +kernel
  · simp only [Bool.and_eq_true, decide_eq_true_eq] at h
    obtain ⟨h1, h2, h3, h4⟩ := h
    unfold Sml
    unfold dgL at h1 h2 h4
    split at h2
    · rename_i r
      have := key r h2 h4
      show (-((NumText.digitsVal r : Nat) : Int)).natAbs < _
      omega
    · rename_i hne
      have h4 : l.all isDg = true := by
        split at h4
        · exact absurd rfl (hne _)
        · exact h4
      have := key l h2 h4
      unfold valL
      split
      · exact absurd rfl (hne _)
      · omega
end Lw
namespace Lw
open PySem PySem.Spec PyProof.Rows L2 XV TL XM
abbrev sMeant : Stmt := topOf "_law_meant"
abbrev Nmeant : List Str := ["words", "lines", "found", "line", "k", "pairs", "x", "two"]
theorem scMeant : FnScope Nmeant ["words"] (defScope sMeant) := ⟨rfl, rfl, rfl, by decide +kernel, rfl, by decide +kernel, by decide +kernel⟩
def spMeant (K : PySem.W.Frag) : Sp := fun vs H Q _ => ∃ z : Str, vs = [.str z] ∧ z.length ≤ 60000 ∧ livesF (nl z) = none ∧ ∀ (q : Addr) (hs ss : List Pr) (li : List Int) (lo hi : Int) (H' : Hp), Same H H' → H q = none → Told5 (nl z) hs ss li lo hi → Dp K H' (.ref q) (.list (fiveD hs ss li lo hi)) → Q (.ref q) H'
/-- the words of line i stand there as a list -/
def Row (ls : List (List Nat)) (i : Nat) (y : V) (M : Hp) : Prop := ∃ (q : Addr) (ys : List Str) (l : List Nat), y = .ref q ∧ M q = some (.lst (ys.map V.str)) ∧ ls[i]? = some l ∧ ys.map tl = wtail l ∧ ys.length ≤ 60001 ∧ ∀ s ∈ ys, s.length ≤ 60000
theorem Row.mono (ls : List (List Nat)) (i : Nat) (y : V) (M M' : Hp) (s : Same M M') (h : Row ls i y M) : Row ls i y M' := by
  obtain ⟨q, ys, l, a, b, c⟩ := h
  exact ⟨q, ys, l, a, s _ _ b, c⟩
abbrev rIntS : List V → Hp → VK → Prop := fun xs H Q => ∃ a n, xs = [.str a] ∧ PySem.intText? a = some n ∧ a.length ≤ 640 ∧ Q (.int n) H
abbrev rSplit : V → List V → Hp → VK → Prop := fun x xs H Q => ∃ a b, x = .str a ∧ xs = [.str b] ∧ (b.length == 0) = false ∧ a.length + 2 ≤ sizeLine ∧ rNewStrs (Txt.split a b) H Q
section
variable {P : Program} {w : World} {K : PySem.W.Frag} {mg : Str → Option Value} {base : Heap}
theorem ok_meant {f : Addr} {fd : FuncData} (F : Fun K "_law_meant" "_law_meant" sMeant f fd) (T : Bt mg) : FnOk P w K mg base CX0 1 f fd ["words"] (spMeant K) := by
  refine F.ok scMeant (fun vs H Q E h => ?_) (fun cdv A outer s H vs Q E hr h => ?_)
  · obtain ⟨z, rfl, _⟩ := h
    rfl
  · obtain ⟨z, rfl, hz, hn, k⟩ := h
    refine ⟨_, pss_cons (ps_par (i := 1) (j := 2) rfl scMeant.nd rfl rfl (by decide) rfl rfl (pa_cons (pe_lc (own := [("line", 3)]) (g := gName 3) (tt := tYes) (te := tSl (rSlL K) (tM1 rSplit (tVar 3) (tC (.str " "))) (tPart (tC (.int 1))) tNoPart) rfl scMeant.nd (pi_list (pe_split (pv 0) (pe_str))) (blkOk_by (N := Nmeant) (sc := defScope sMeant) (by decide +kernel)) (fun _ _ _ _ _ => pg_name (i := 3) scMeant.nd rfl (Or.inl rfl)) (fun _ _ _ _ _ => pts_nil) (fun _ _ _ _ _ => pe_slice sl_list (pe_split (pv 3) (pe_str)) (po_some (pe_int)) (po_none))) (pa_cons (pe_lst (pa_nil)) pa_nil)) (by rfl))
 (pss_cons (ps_for PassesOwn.never rfl (pi_list (pe_lst (pa_cons (pe_int) (pa_cons (pe_int) pa_nil)))) (pg_name (i := 4) scMeant.nd rfl (Or.inl rfl))
 (pss_mid (ps_setLc (i := 5) (own := [("x", 6)]) (g := gName 6) (tt := tYes) rfl scMeant.nd rfl rfl (sw_true rfl rfl rfl (by decide +kernel)) (pi_list (pe_ix ix_list (pv 1) (pv 4) (fun _ _ => rfl))) (blkOk_by (N := Nmeant) (sc := defScope sMeant) (by decide +kernel)) (fun _ _ _ _ _ => pg_name (i := 6) scMeant.nd rfl (Or.inl rfl)) (fun _ _ _ _ _ => pts_nil) (fun _ _ _ _ _ => pe_split (pv 6) (pe_str)))
 (pss_one (ps_expr (pe_bm PySem.F.plainAttrs_list PySem.F.slot_list_append PySem.F.type_list_append mt_append (pv 2) (pa_cons (pe_callTy call_tuple_of (by rfl) T.tuple (by decide +kernel) (pa_cons (pe_callB cr_sortedPO (by rfl) T.sorted (by decide +kernel) (pa_cons (pe_lc (own := [("two", 7)]) (g := gName 7) (tt := tYes) (te := tTup (tCons (tCB rIntS (tCons (tOp (rIxL K) (tVar 7) (tC (.int 0))) tNil)) (tCons (tCB rIntS (tCons (tOp (rIxL K) (tVar 7) (tC (.int 1))) tNil)) tNil))) rfl scMeant.nd (pi_list (pv 5)) (blkOk_by (N := Nmeant) (sc := defScope sMeant) (by decide +kernel)) (fun _ _ _ _ _ => pg_name (i := 7) scMeant.nd rfl (Or.inl rfl)) (fun _ _ _ _ _ => pts_nil) (fun _ _ _ _ _ => pe_tup (pa_cons (pe_callTy call_int_str (by rfl) T.int (by decide +kernel) (pa_cons (pe_ix ix_list (pv 7) (pe_int) (fun _ _ => rfl)) pa_nil)) (pa_cons (pe_callTy call_int_str (by rfl) T.int (by decide +kernel) (pa_cons (pe_ix ix_list (pv 7) (pe_int) (fun _ _ => rfl)) pa_nil)) pa_nil)))) pa_nil)) pa_nil)) pa_nil))))))
 (pss_one (ps_ret (pe_op op_cat (pv 2) (pe_lst (pa_cons (pe_callTy call_tuple_of (by rfl) T.tuple (by decide +kernel) (pa_cons (pe_callB cr_sortedI (by rfl) T.sorted (by decide +kernel) (pa_cons (pe_lc (own := [("x", 6)]) (g := gName 6) (tt := tYes) rfl scMeant.nd (pi_list (pe_ix ix_list (pv 1) (pe_int) (fun _ _ => rfl))) (blkOk_by (N := Nmeant) (sc := defScope sMeant) (by decide +kernel)) (fun _ _ _ _ _ => pg_name (i := 6) scMeant.nd rfl (Or.inl rfl)) (fun _ _ _ _ _ => pts_nil) (fun _ _ _ _ _ => pe_callTy call_int_str (by rfl) T.int (by decide +kernel) (pa_cons (pv 6) pa_nil))) pa_nil)) pa_nil)) (pa_cons (pe_callTy call_int_str (by rfl) T.int (by decide +kernel) (pa_cons (pe_ix ix_list (pe_ix ix_list (pv 1) (pe_int) (fun _ _ => rfl)) (pe_int) (fun _ _ => rfl)) pa_nil)) (pa_cons (pe_callTy call_int_str (by rfl) T.int (by decide +kernel) (pa_cons (pe_ix ix_list (pe_ix ix_list (pv 1) (pe_int) (fun _ _ => rfl)) (pe_int) (fun _ _ => rfl)) pa_nil)) pa_nil)))))))), ?_⟩
    have en := split_nl z
    have eln := split_len en
    have hlz : ∀ y ∈ Txt.split z "\n", y.length ≤ 60000 := fun y hy => Nat.le_trans (split_mem en hy) hz
    have hnl : nl z = (Txt.split z "\n").map tl := en.symm
    obtain ⟨l8, _⟩ := lives_len hn
    have lx8 : (Txt.split z "\n").length = 8 := by rw [hnl, List.length_map] at l8; exact l8
    refine ⟨_, rfl, ⟨_, rfl⟩, z, "\n", rfl, rfl, by decide +kernel, by rw [sizeLine_eq]; omega, fun ws hws => ?_⟩
    have s1 := same_new (o := .lst ((Txt.split z "\n").map V.str)) hws
    have e1 : upd H ws (.lst ((Txt.split z "\n").map V.str)) ws = some (.lst ((Txt.split z "\n").map V.str)) := upd_same
    generalize upd H ws (.lst ((Txt.split z "\n").map V.str)) = H1 at s1 e1 ⊢
    refine ⟨ws, rfl, ⟨_, SqL.of e1⟩, fun D hD => lc_made (K := K) (a := ws) (Row (nl z)) (Row.mono (nl z)) hD (SqL.of e1) (by rw [List.length_map, lx8, sizeLine_eq]; decide) ?_ ?_⟩
    · rintro i x H2 hi s2 ⟨acc, eD⟩ Qn Z kk
      obtain ⟨q, rfl, hq⟩ := str_at hi
      have hql := hlz q (List.mem_of_getElem? hq)
      have es := split_sp q
      have esl := split_len es
      refine ⟨rfl, _, rfl, ⟨_, rfl⟩, q, " ", rfl, rfl, by decide +kernel, by rw [sizeLine_eq]; omega, fun r hr => ?_⟩
      have s3 := same_new (o := .lst ((Txt.split q " ").map V.str)) hr
      have e3 : upd H2 r (.lst ((Txt.split q " ").map V.str)) r = some (.lst ((Txt.split q " ").map V.str)) := upd_same
      have eD3 := s3 _ _ eD
      generalize upd H2 r (.lst ((Txt.split q " ").map V.str)) = H3 at s3 e3 eD3 ⊢
      refine ⟨_, rfl, r, _, rfl, SqL.of e3, fun p hp => ?_⟩
      rw [cutV1, ← List.map_drop]
      refine kk _ _ (Same.trans s3 (same_new hp)) ⟨p, (Txt.split q " ").drop 1, tl q, rfl, del_of eD3 hp, ?_, ?_, ?_, ?_⟩
      · rw [hnl, List.getElem?_map, hq]
        rfl
      · rw [List.map_drop, es, wtail]
      · rw [List.length_drop]
        omega
      · exact fun s hs => Nat.le_trans (split_mem es (List.mem_of_mem_drop hs)) hql
    rintro H2 rows s2 eD lr hrow
    have s02 := Same.trans s1 s2
    refine ⟨Nat.zero_le _, fun fo hfo => ⟨_, _, rfl, ?_⟩⟩
    have s3 := same_new (o := .lst []) hfo
    have eD3 := s3 _ _ eD
    have eF3 : upd H2 fo (.lst []) fo = some (.lst []) := upd_same
    have fo0 : H fo = none := sN s02 hfo
    have hrow3 : ∀ (j : Nat) (y : V), rows[j]? = some y → Row (nl z) j y (upd H2 fo (.lst [])) := fun j y h => Row.mono _ _ _ _ _ s3 (hrow j y h)
    have s03 := Same.trans s02 s3
    have nDF : D ≠ fo := ne_of_none eD hfo
    have hrowF : ∀ (j : Nat) (y : V), rows[j]? = some y → Row (nl z) j y (delH (upd H2 fo (.lst [])) fo) := fun j y h => by
      rw [delH_new hfo]
      exact hrow j y h
    generalize upd H2 fo (.lst []) = H3 at s3 eD3 eF3 hrow3 s03 hrowF ⊢
    have ll : rows.length = 8 := by rw [lr, List.length_map, lx8]
    have get : ∀ j, j < 8 → ∃ (l : List Nat) (q : Addr) (ys : List Str), rows[j]? = some (.ref q) ∧ q ≠ fo ∧ H3 q = some (.lst (ys.map V.str)) ∧ (nl z)[j]? = some l ∧ ys.map tl = wtail l ∧ ys.length ≤ 60001 ∧ ∀ s ∈ ys, s.length ≤ 60000 := fun j hj => by
      obtain ⟨y, hy⟩ : ∃ y, rows[j]? = some y := ⟨_, List.getElem?_eq_getElem (by omega)⟩
      obtain ⟨q, ys, l, rfl, b, c, d, e, f⟩ := hrowF j y hy
      by_cases eq : q = fo
      · rw [eq, delH_same] at b
        cases b
      · rw [delH_ne eq] at b
        exact ⟨l, q, ys, hy, eq, b, c, d, e, f⟩
    refine ⟨(by show 2 ≤ sizeLine; decide), fun pk hpk => ?_⟩
    have s4 := same_new (o := .lst [.int 1, .int 2]) hpk
    have eF4 := s4 _ _ eF3
    have eK4 : upd H3 pk (.lst [.int 1, .int 2]) pk = some (.lst [.int 1, .int 2]) := upd_same
    have nKF : pk ≠ fo := (ne_of_none eF3 hpk).symm
    generalize upd H3 pk (.lst [.int 1, .int 2]) = H4 at s4 eF4 eK4 ⊢
    have d34 : Same (delH H3 fo) (delH H4 fo) := fun b o h => by
      by_cases e : b = fo
      · rw [e, delH_same] at h
        cases h
      · rw [delH_ne e] at h ⊢
        exact s4 _ _ h
    refine ⟨pk, rfl, ⟨_, SqL.of eK4⟩, for_list (K := K) (a := pk) (xs := [.int 1, .int 2]) (fun i σ H5 => ∃ (x4 x5 : Option V) (fs : List V), σ = [some (.str z), some (.ref D), some (.ref fo), none, x4, x5, none, none] ∧ Same (delH H4 fo) (delH H5 fo) ∧ H5 fo = some (.lst fs) ∧ fs.length = i ∧
      ∀ (j : Nat) (x : V), fs[j]? = some x → ∃ (t : Addr) (ys : List V) (l : List Nat) (hs : List Pr), x = .ref t ∧ delH H5 fo t = some (.tup ys) ∧ (nl z)[j + 1]? = some l ∧ SortP (prs (wtail l)) hs ∧ PairVs K (delH H5 fo) ys hs) ⟨none, none, [], rfl, Same.refl _, eF4, rfl, fun j x h => by cases h⟩ (fun i σ H5 _ h => ?_) ?_ ?_⟩
    · obtain ⟨_, _, _, _, s5, _⟩ := h
      exact SqL.of (del_same _ _ (s5 _ _ (by rw [delH_ne nKF]; exact eK4)))
    · rintro i x σ H5 hi ⟨x4, x5, fs, rfl, s5, eF5, lf5, o5⟩
      obtain ⟨hi2, rfl⟩ : i < 2 ∧ x = .int ((i + 1 : Nat) : Int) := by
        match i, hi with
        | 0, h => cases h; exact ⟨by decide, rfl⟩
        | 1, h => cases h; exact ⟨by decide, rfl⟩
      obtain ⟨l, q, ys, g1, g2, g3, g4, g5, g6, g7⟩ := get (i + 1) (by omega)
      have g5' := lives_at hn (by omega) g4
      have q1 := line_pairs (by omega) g5'
      have g3' : H5 q = some (.lst (ys.map V.str)) := del_same _ _ (s5 _ _ (by rw [delH_ne g2]; exact s4 _ _ g3))
      have eD5 : H5 D = some (.lst rows) := del_same _ _ (s5 _ _ (by rw [delH_ne nDF]; exact s4 _ _ eD3))
      refine ⟨fun σ' H' => ∃ (pl : Addr) (xs : List V), σ' = [some (.str z), some (.ref D), some (.ref fo), none, some (.int ((i + 1 : Nat) : Int)), some (.ref pl), none, none] ∧ Same H5 H' ∧ H' pl = some (.lst xs) ∧ xs.length = ys.length ∧ ∀ (j : Nat) (x : V), xs[j]? = some x → ∃ (q : Addr) (y : Str), x = .ref q ∧ ys[j]? = some y ∧ H' q = some (.lst ((Txt.split y "..").map V.str)), ?_, ?_⟩
      · refine ⟨_, rfl, _, rfl, D, rows, ((i + 1 : Nat) : Int), .ref q, rfl, rfl, SqL.of eD5, atI_nat g1, q, rfl, ⟨_, SqL.of g3'⟩, fun D2 hD2 => lc_made (K := K) (a := q) (fun j x M => ∃ (r : Addr) (y : Str), x = .ref r ∧ ys[j]? = some y ∧ M r = some (.lst ((Txt.split y "..").map V.str))) (fun j x M M' s h => ?_) hD2 (SqL.of g3') (by rw [List.length_map, sizeLine_eq]; omega) ?_ ?_⟩
        · obtain ⟨r, y, a, b, c⟩ := h
          exact ⟨r, y, a, b, s _ _ c⟩
        · rintro j x H6 hj s6 ⟨acc, eD6⟩ Qn Z kk
          obtain ⟨w0, rfl, hw⟩ := str_at hj
          have hwl := g7 w0 (List.mem_of_getElem? hw)
          refine ⟨rfl, _, rfl, ⟨_, rfl⟩, w0, "..", rfl, rfl, by decide +kernel, by rw [sizeLine_eq]; omega, fun r hr => ?_⟩
          exact kk _ _ (same_new hr) ⟨r, w0, rfl, hw, del_of eD6 hr⟩
        · intro H6 xs s6 e6 l6 o6
          exact ⟨D2, xs, rfl, s6, e6, by rw [l6, List.length_map], o6⟩
      · rintro σ' H6 ⟨pl, xs, rfl, s6, e6, l6, o6⟩
        have eF6 := s6 _ _ eF5
        refine ⟨_, rfl, tyL eF6, _, rfl, pl, rfl, ⟨_, SqL.of e6⟩, fun D2 hD2 => lc_made (K := K) (a := pl) (fun j x M => ∃ (r : Addr) (p : Pr), x = .ref r ∧ (prs (wtail l))[j]? = some p ∧ M r = some (.tup [.int p.1, .int p.2])) (fun j x M M' s h => ?_) hD2 (SqL.of e6) (by rw [l6, sizeLine_eq]; omega) ?_ ?_⟩
        · obtain ⟨r, y, a, b, c⟩ := h
          exact ⟨r, y, a, b, s _ _ c⟩
        · rintro j x H7 hj s7 ⟨acc, eD7⟩ Qn Z kk
          obtain ⟨r, y, rfl, hy, er⟩ := o6 j x hj
          have hwm : tl y ∈ wtail l := by
            rw [← g5]
            exact List.mem_map_of_mem (List.mem_of_getElem? hy)
          obtain ⟨ab, hab⟩ : ∃ ab, spanV (tl y) = some ab := by
            have := q1.1 _ hwm
            cases e : spanV (tl y) with
            | none => rw [e] at this; cases this
            | some ab => exact ⟨ab, rfl⟩
          obtain ⟨a, b⟩ := ab
          obtain ⟨u, v, e2, n1, n2, rfl, rfl⟩ := span_some hab
          rw [e2] at er
          have er7 := s7 _ _ er
          have i1 := num_int n1
          have i2 := num_int n2
          refine ⟨rfl, _, rfl, r, _, 0, .str u, rfl, rfl, SqL.of er7, rfl, u, _, rfl, i1.1, i1.2, _, rfl, r, _, 1, .str v, rfl, rfl, SqL.of er7, rfl, v, _, rfl, i2.1, i2.2, (by show 2 ≤ sizeLine; decide), fun t ht => ?_⟩
          refine kk _ _ (same_new ht) ⟨t, (valL (tl u), valL (tl v)), rfl, ?_, del_of eD7 ht⟩
          rw [prs, List.getElem?_map, ← g5, List.getElem?_map, hy]
          show some ((spanV (tl y)).getD (0, 0)) = _
          rw [hab]
          rfl
        · intro H7 zs s7 e7 l7 o7
          have raw : RawVs H7 zs (prs (wtail l)) := ⟨by rw [l7, l6, prs, List.length_map, ← g5, List.length_map], fun j x hj => by
            obtain ⟨r, p, a, b, c⟩ := o7 j x hj
            exact ⟨r, p, b, a, c⟩⟩
          refine ⟨D2, zs, keyIn H7, rfl, SqL.of e7, fun z hz => raw.mem hz, fun ys' p h1 h2 hp => ⟨p, ys', rfl, .inl ⟨SqL.of upd_same, fun t ht => ?_⟩⟩⟩
          have s8 := Same.trans (same_new (o := .lst ys') hp) (same_new (o := .tup ys') ht)
          have e8 : upd (upd H7 p (.lst ys')) t (.tup ys') t = some (.tup ys') := upd_same
          have v8 := (raw.sorted (K := K) h2.perm).mono s8
          have so := sort_keys raw.keys h1 h2
          have s68 := Same.trans (Same.trans s6 s7) s8
          generalize upd (upd H7 p (.lst ys')) t (.tup ys') = H8 at s8 e8 v8 s68 ⊢
          have eF8 := s68 _ _ eF5
          have ntF : t ≠ fo := fun e => by
            rw [e, eF8] at e8
            cases e8
          have dd : ∀ o, Same (delH H5 fo) (delH (upd H8 fo o) fo) := fun o b u h => by
            by_cases e : b = fo
            · rw [e, delH_same] at h
              cases h
            · rw [delH_ne e] at h ⊢
              rw [upd_ne e]
              exact s68 _ _ h
          have d8 : ∀ o, (∀ b xs, H8 b = some (.tup xs) → delH (upd H8 fo o) fo b = some (.tup xs)) := fun o b u h => by
            by_cases e : b = fo
            · rw [e, eF8] at h
              cases h
            · rw [delH_ne e, upd_ne e]
              exact h
          refine ⟨fo, fs, _, rfl, rfl, eF8, by rw [lf5, sizeLine_eq]; omega, _, _, fs ++ [.ref t], rfl, fun b u h => dd _ _ _ (s5 _ _ h), upd_same, by rw [List.length_append, lf5]; rfl, fun j x hj => ?_⟩
          by_cases c : j < fs.length
          · rw [List.getElem?_append_left c] at hj
            obtain ⟨t', ys2, l2, hs2, a1, a2, a3, a4, a5⟩ := o5 j x hj
            exact ⟨t', ys2, l2, hs2, a1, dd _ _ _ a2, a3, a4, a5.mono (dd _)⟩
          · rw [List.getElem?_append_right (by omega)] at hj
            have hj0 : j - fs.length = 0 := by
              have := (List.getElem?_eq_some_iff.mp hj).1
              simp at this
              omega
            rw [hj0] at hj
            cases hj
            have : j = i := by omega
            subst this
            refine ⟨t, ys', l, _, rfl, d8 _ _ _ e8, g4, so, ⟨v8.1, fun j' x' hx' => ?_⟩⟩
            obtain ⟨t', p', a1, a2, a3⟩ := v8.2 j' x' hx'
            refine ⟨t', p', a1, a2, ?_⟩
            rcases a3 with (a3 | ⟨o, a3⟩) | a3
            · exact .inl (.inl (d8 _ _ _ a3))
            · refine .inl (.inr ⟨o, ?_⟩)
              by_cases e : t' = fo
              · rw [e, eF8] at a3
                cases a3
              · rw [delH_ne e, upd_ne e]
                exact a3
            · exact .inr a3
    · rintro σ H5 ⟨x4, x5, fs, rfl, s5, eF5, lf5, o5⟩
      obtain ⟨x1, x2, rfl⟩ : ∃ x1 x2, fs = [x1, x2] := by
        match fs, lf5 with
        | [x1, x2], _ => exact ⟨x1, x2, rfl⟩
      obtain ⟨t1, y1, l1, hs, rfl, f1, m1, so1, v1⟩ := o5 0 x1 rfl
      obtain ⟨t2, y2, l2, ss, rfl, f2, m2, so2, v2⟩ := o5 1 x2 rfl
      have eD5 : H5 D = some (.lst rows) := del_same _ _ (s5 _ _ (by rw [delH_ne nDF]; exact s4 _ _ eD3))
      have st : ∀ {q : Addr} {o : HO}, q ≠ fo → H3 q = some o → H5 q = some o := fun hq h => del_same _ _ (s5 _ _ (by rw [delH_ne hq]; exact s4 _ _ h))
      have s05 : Same H H5 := fun b o h => st (fun e => by rw [e, fo0] at h; cases h) (s03 _ _ h)
      obtain ⟨l3, q3, z3, a1, a2, a3, a4, a5, a6, a7⟩ := get 3 (by decide)
      obtain ⟨l4, q4, z4, b1, b2, b3, b4, b5, b6, b7⟩ := get 4 (by decide)
      obtain ⟨l5, q5, z5, c1, c2, c3, c4, c5, c6, c7⟩ := get 5 (by decide)
      have a3 := st a2 a3
      have b3 := st b2 b3
      have c3 := st c2 c3
      have n3 := line_nums (lives_at hn (by decide) a4)
      obtain ⟨w4, g4, o4, _⟩ := line_one (.inl rfl) (lives_at hn (by decide) b4)
      obtain ⟨w5, g5, o5', _⟩ := line_one (.inr rfl) (lives_at hn (by decide) c4)
      obtain ⟨u4, rfl, rfl⟩ : ∃ u, z4 = [u] ∧ tl u = w4 := by
        rw [g4] at b5
        match z4, b5 with
        | [u], h => cases h; exact ⟨u, rfl, rfl⟩
      obtain ⟨u5, rfl, rfl⟩ : ∃ u, z5 = [u] ∧ tl u = w5 := by
        rw [g5] at c5
        match z5, c5 with
        | [u], h => cases h; exact ⟨u, rfl, rfl⟩
      have i4 := num_int o4
      have i5 := num_int o5'
      refine ⟨_, rfl, _, rfl, D, rows, 3, .ref q3, rfl, rfl, SqL.of eD5, atI_nat a1, q3, rfl, ⟨_, SqL.of a3⟩, fun D2 hD2 => lc_made (K := K) (a := q3) (fun j x M => ∃ n, ((wtail l3).map valL)[j]? = some n ∧ x = .int n) (fun j x M M' s h => h) hD2 (SqL.of a3) (by rw [List.length_map, sizeLine_eq]; omega) ?_ ?_⟩
      · rintro j x H6 hj s6 ⟨acc, eD6⟩ Qn Z kk
        obtain ⟨w0, rfl, hw⟩ := str_at hj
        have hwm : tl w0 ∈ wtail l3 := by
          rw [← a5]
          exact List.mem_map_of_mem (List.mem_of_getElem? hw)
        have i1 := num_int (n3 _ hwm)
        refine ⟨rfl, _, rfl, w0, _, rfl, i1.1, i1.2, kk _ _ (Same.refl _) ⟨_, ?_, rfl⟩⟩
        rw [List.getElem?_map, ← a5, List.getElem?_map, hw]
        rfl
      · intro H6 xs s6 e6 l6 o6
        have ex : xs = ((wtail l3).map valL).map V.int := by
          refine List.ext_getElem? fun j => ?_
          have hl : xs.length = (((wtail l3).map valL).map V.int).length := by rw [l6, List.length_map, List.length_map, List.length_map, ← a5, List.length_map]
          cases e : xs[j]? with
          | none => rw [List.getElem?_eq_none_iff.mpr (by have := List.getElem?_eq_none_iff.mp e; omega)]
          | some x =>
            obtain ⟨n, h1, rfl⟩ := o6 j x e
            rw [List.getElem?_map, h1]
            rfl
        subst ex
        refine ⟨D2, _, rfl, SqL.of e6, fun li p2 pe2 sr2 hp2 => ⟨p2, _, rfl, .inl ⟨SqL.of upd_same, fun p3 hp3 => ?_⟩⟩⟩
        have s7 := Same.trans s6 (Same.trans (same_new (o := .lst (li.map V.int)) hp2) (same_new (o := .tup (li.map V.int)) hp3))
        have e7 : upd (upd H6 p2 (.lst (li.map V.int))) p3 (.tup (li.map V.int)) p3 = some (.tup (li.map V.int)) := upd_same
        generalize upd (upd H6 p2 (.lst (li.map V.int))) p3 (.tup (li.map V.int)) = H7 at s7 e7 ⊢
        refine ⟨_, rfl, D, rows, 4, .ref q4, rfl, rfl, SqL.of (s7 _ _ eD5), atI_nat b1, q4, _, 0, .str u4, rfl, rfl, SqL.of (s7 _ _ b3), rfl, u4, _, rfl, i4.1, i4.2, ?_⟩
        refine ⟨_, rfl, D, rows, 5, .ref q5, rfl, rfl, SqL.of (s7 _ _ eD5), atI_nat c1, q5, _, 0, .str u5, rfl, rfl, SqL.of (s7 _ _ c3), rfl, u5, _, rfl, i5.1, i5.2, (by show 3 ≤ sizeLine; decide), fun p4 hp4 => ?_⟩
        have s8 := same_new (o := .lst [.ref p3, .int (valL (tl u4)), .int (valL (tl u5))]) hp4
        have e8 : upd H7 p4 (.lst [.ref p3, .int (valL (tl u4)), .int (valL (tl u5))]) p4 = some (.lst [.ref p3, .int (valL (tl u4)), .int (valL (tl u5))]) := upd_same
        have s78 := Same.trans s7 s8
        have t8 := s8 _ _ e7
        generalize upd H7 p4 (.lst [.ref p3, .int (valL (tl u4)), .int (valL (tl u5))]) = H8 at s8 e8 s78 t8 ⊢
        refine ⟨fo, p4, _, _, rfl, rfl, s78 _ _ eF5, e8, (by show 5 ≤ sizeLine; decide), fun q hq => ?_⟩
        have s9 := same_new (o := .lst [.ref t1, .ref t2, .ref p3, .int (valL (tl u4)), .int (valL (tl u5))]) hq
        have s59 := Same.trans s78 s9
        have d9 := Same.trans (del_same (H := H5) (D := fo)) s59
        refine k q hs ss li _ _ _ (Same.trans s05 s59) (sN s05 (sN s78 hq)) ⟨l1, l2, l3, l4, l5, tl u4, tl u5, m1, m2, a4, b4, c4, so1, so2, ⟨pe2, sr2⟩, g4, g5, rfl, rfl⟩ ?_
        exact .lst (SqL.of upd_same) (.cons (.tup (SqT.of (d9 _ _ f1)) (dp_pairs (v1.mono d9))) (.cons (.tup (SqT.of (d9 _ _ f2)) (dp_pairs (v2.mono d9))) (.cons (.tup (SqT.of (s9 _ _ t8)) (dp_ints li)) (.cons (.int _) (.cons (.int _) .nil)))))
end
end Lw
namespace Lw
open PySem PySem.Spec PyProof.Rows L2 XV TL XM
/-- the lengths of texts, and their number -/
def tot (ys : List Str) : Nat := (ys.map (·.length)).sum + ys.length
theorem tot_cons (y : Str) (ys : List Str) : tot (y :: ys) = y.length + 1 + tot ys := by
  unfold tot
  rw [List.map_cons, List.sum_cons, List.length_cons]
  omega
theorem tot_app : ∀ (ys zs : List Str), tot (ys ++ zs) = tot ys + tot zs
  | [], zs => by rw [List.nil_append]; show _ = 0 + 0 + _; omega
  | y :: ys, zs => by rw [List.cons_append, tot_cons, tot_cons, tot_app ys zs]; omega
theorem tot_sub {ys zs : List Str} (h : List.Sublist ys zs) : tot ys ≤ tot zs := by
  induction h with
  | slnil => exact Nat.le_refl _
  | cons _ _ ih => rw [tot_cons]; omega
  | cons_cons _ _ ih => rw [tot_cons, tot_cons]; omega
theorem tot_mem {y : Str} {ys : List Str} (h : y ∈ ys) : y.length + 1 ≤ tot ys := by
  have := tot_sub (List.singleton_sublist.mpr h)
  rw [tot_cons] at this
  omega
theorem tot_set (v : Str) : ∀ (ys : List Str) (k : Nat), tot (ys.set k v) ≤ tot ys + v.length
  | [], k => by rw [List.set_nil]; omega
  | y :: ys, 0 => by rw [List.set_cons_zero, tot_cons, tot_cons]; omega
  | y :: ys, k + 1 => by rw [List.set_cons_succ, tot_cons, tot_cons]; have := tot_set v ys k; omega
theorem spl_tot : ∀ (l acc : List Nat), (((spl [10] 0 acc l).map (·.length)).sum + (spl [10] 0 acc l).length) = acc.length + l.length + 1
  | [], acc => by rw [spl_nil]; simp
  | c :: r, acc => by
    by_cases h : pre [10] (c :: r) = true
    · rw [spl_hit h]
      have := spl_tot r []
      show (acc.length :: (spl [10] 0 [] r).map (·.length)).sum + ((spl [10] 0 [] r).length + 1) = _
      simp only [List.length_nil, List.sum_cons, List.length_cons] at this ⊢
      omega
    · rw [spl_miss (by simpa using h), spl_tot r (acc ++ [c]), List.length_append, List.length_cons]
      simp
      omega
theorem split_tot (z : Str) : tot (Txt.split z "\n") = z.length + 1 := by
  have e := split_nl z
  have h := spl_tot (tl z) []
  rw [← e, List.map_map, List.length_map] at h
  have h2 : (Txt.split z "\n").map ((fun x : List Nat => x.length) ∘ tl) = (Txt.split z "\n").map (·.length) := List.map_congr_left fun y _ => (len_tl y).symm
  rw [h2, ← len_tl] at h
  unfold tot
  simp only [List.length_nil] at h
  omega
theorem nl_len1 : ("\n" : Str).length = 1 := by decide +kernel
theorem join_tot (ys : List Str) : (Txt.join "\n" ys).length ≤ tot ys := by
  have := join_len "\n" ys
  rw [nl_len1] at this
  unfold tot
  omega
theorem join_ok {ys : List Str} (h : tot ys ≤ 1000000) : (ys.map (·.length)).sum + ys.length * ("\n" : Str).length ≤ 16777216 := by
  rw [nl_len1]
  unfold tot at h
  omega
theorem at_str {ys : List Str} {i : Int} (h0 : 0 ≤ i) (h1 : i < ys.length) : ∃ y, atI (ys.map V.str) i = some (.str y) ∧ y ∈ ys ∧ ixN (ys.map V.str).length i = some i.toNat := by
  obtain ⟨v, a, b, c⟩ := at_pos (xs := ys.map V.str) h0 (by rw [List.length_map]; exact h1)
  obtain ⟨y, hy, rfl⟩ := List.mem_map.mp c
  exact ⟨y, a, hy, ix_pos h0 (by rw [List.length_map]; exact h1)⟩
theorem set_str (ys : List Str) (k : Nat) (v : Str) : (ys.map V.str).set k (.str v) = (ys.set k v).map V.str := (List.map_set).symm
theorem cut_strs (ys : List Str) (lo hi : Option Int) : ∃ zs, cutV (ys.map V.str) lo hi = zs.map V.str ∧ tot zs ≤ tot ys := by
  refine ⟨(ys.drop (HT.sIx ys.length 0 lo)).take (HT.sIx ys.length ys.length hi - HT.sIx ys.length 0 lo), ?_, ?_⟩
  · unfold cutV
    rw [List.length_map, List.map_take, List.map_drop]
  · exact tot_sub ((List.take_sublist _ _).trans (List.drop_sublist _ _))
abbrev sBent : Stmt := topOf "_law_bent"
abbrev Nbent : List Str := ["box", "words", "way", "place", "lines", "k", "j"]
theorem scBent : FnScope Nbent ["box", "words"] (defScope sBent) := ⟨rfl, rfl, rfl, by decide +kernel, rfl, by decide +kernel, by decide +kernel⟩
/-- some text, not too long -/
def spBent : Sp := fun vs H Q _ => ∃ (B : Bx) (z : Str), vs = [.ref B.b, .str z] ∧ BoxAt B H ∧ 0 < z.length ∧ z.length ≤ 10000 ∧ ∀ (y : Str) (H' : Hp), y.length ≤ 4 * z.length + 40 → Go B H H' → Q (.str y) H'
section
variable {P : Program} {w : World} {K : PySem.W.Frag} {mg : Str → Option Value} {base : Heap}
theorem ok_bent {f fD fO : Addr} {fd fdD fdO : FuncData} (F : Fun K "_law_bent" "_law_bent" sBent f fd) (T : Bt mg) (D_take : Df K mg "_law_take" sTake ["box", "limit"] fD fdD) (D_of : Df K mg "_law_of" sOf ["box", "things"] fO fdO) : FnOk P w K mg base CX0 3 f fd ["box", "words"] spBent := by
  have G_take : FnOk P w K mg base CX0 1 fD fdD ["box", "limit"] spTake := ok_take D_take.fn T
  have G_of : FnOk P w K mg base CX0 2 fO fdO ["box", "things"] (spOf K) := Lw.ok_of D_of.fn T D_take
  refine F.ok scBent (fun vs H Q E h => ?_) (fun cdv A outer s H vs Q E hr h => ?_)
  · obtain ⟨B, z, rfl, _⟩ := h
    rfl
  · obtain ⟨B, z, rfl, hB, hz0, hz, k⟩ := h
    refine ⟨_, pss_cons (ps_par (i := 2) (j := 3) rfl scBent.nd rfl rfl (by decide) rfl rfl (pa_cons (cal D_take G_take (hr.mono (by decide)) (pa_cons (pv 0) (pa_cons (pe_int) pa_nil))) (pa_cons (cal D_take G_take (hr.mono (by decide)) (pa_cons (pv 0) (pa_cons (pe_callB call_len (by rfl) T.len (by decide +kernel) (pa_cons (pv 1) pa_nil)) pa_nil))) pa_nil)) (by rfl))
 (pss_cons (ps_set (i := 4) scBent.nd rfl (Or.inl rfl) (pe_slice sl_list (pe_split (pv 1) (pe_str)) (po_none) (po_some (pe_un un_neg (pe_int)))))
 (pss_cons (ps_if (pt_cmpR op_lt (pe_callB call_lenL (by rfl) T.len (by decide +kernel) (pa_cons (pv 4) pa_nil)) (pe_int) (nomark _))
 (pss_one (ps_ret (pe_op op_add_str (pe_op op_add_str (pe_slice sl_str (pv 1) (po_none) (po_some (pv 3))) (pe_str)) (pe_slice sl_str (pv 1) (po_some (pv 3)) (po_none)))))
 (pss_nil))
 (pss_cons (ps_set (i := 5) scBent.nd rfl (Or.inl rfl) (cal D_take G_take (hr.mono (by decide)) (pa_cons (pv 0) (pa_cons (pe_callB call_lenL (by rfl) T.len (by decide +kernel) (pa_cons (pv 4) pa_nil)) pa_nil))))
 (pss_cons (ps_set (i := 6) scBent.nd rfl (Or.inl rfl) (cal D_take G_take (hr.mono (by decide)) (pa_cons (pv 0) (pa_cons (pe_callB call_lenL (by rfl) T.len (by decide +kernel) (pa_cons (pv 4) pa_nil)) pa_nil))))
 (pss_cons (ps_if (pt_cmpR op_eq (pv 2) (pe_int) (nomark _))
 (pss_one (ps_ret (pe_slice sl_str (pv 1) (po_none) (po_some (pv 3)))))
 (pss_nil))
 (pss_cons (ps_if (pt_cmpR op_eq (pv 2) (pe_int) (nomark _))
 (pss_one (ps_ret (pe_op op_add_str (pe_join (pe_str) (pe_op op_cat (pe_slice sl_list (pv 4) (po_none) (po_some (pv 5))) (pe_slice sl_list (pv 4) (po_some (pe_op op_add (pv 5) (pe_int))) (po_none)))) (pe_str))))
 (pss_nil))
 (pss_cons (ps_if (pt_cmpR op_eq (pv 2) (pe_int) (nomark _))
 (pss_one (ps_ret (pe_op op_add_str (pe_join (pe_str) (pe_op op_cat (pe_op op_cat (pe_slice sl_list (pv 4) (po_none) (po_some (pv 5))) (pe_lst (pa_cons (pe_ix ix_list (pv 4) (pv 6) (fun _ _ => rfl)) pa_nil))) (pe_slice sl_list (pv 4) (po_some (pv 5)) (po_none)))) (pe_str))))
 (pss_nil))
 (pss_cons (ps_if (pt_cmpR op_eq (pv 2) (pe_int) (nomark _))
 (pss_cons (ps_asg (pe_tup (pa_cons (pe_ix ix_list (pv 4) (pv 6) (fun _ _ => rfl)) (pa_cons (pe_ix ix_list (pv 4) (pv 5) (fun _ _ => rfl)) pa_nil))) (pg_tup rfl (pgs_cons (pg_sub (pv 4) (pv 5) set_list) (pgs_cons (pg_sub (pv 4) (pv 6) set_list) (pgs_nil)))))
 (pss_one (ps_ret (pe_op op_add_str (pe_join (pe_str) (pv 4)) (pe_str)))))
 (pss_nil))
 (pss_cons (ps_if (pt_cmpR op_eq (pv 2) (pe_int) (nomark _))
 (pss_one (ps_ret (pe_op op_add_str (pe_op op_add_str (pe_slice sl_str (pv 1) (po_none) (po_some (pv 3))) (cal D_of G_of (hr.mono (by decide)) (pa_cons (pv 0) (pa_cons (pe_lst (pa_cons (pe_str) (pa_cons (pe_str) (pa_cons (pe_str) (pa_cons (pe_str) (pa_cons (pe_str) (pa_cons (pe_str) (pa_cons (pe_str) (pa_cons (pe_str) pa_nil))))))))) pa_nil)))) (pe_slice sl_str (pv 1) (po_some (pv 3)) (po_none)))))
 (pss_nil))
 (pss_cons (ps_if (pt_cmpR op_eq (pv 2) (pe_int) (nomark _))
 (pss_one (ps_ret (pe_op op_add_str (pe_slice sl_str (pv 1) (po_none) (po_some (pv 3))) (pe_slice sl_str (pv 1) (po_some (pe_op op_add (pv 3) (pe_int))) (po_none)))))
 (pss_nil))
 (pss_cons (ps_if (pt_cmpR op_eq (pv 2) (pe_int) (nomark _))
 (pss_one (ps_ret (pe_op op_add_str (pv 1) (cal D_of G_of (hr.mono (by decide)) (pa_cons (pv 0) (pa_cons (pe_lst (pa_cons (pe_str) (pa_cons (pe_str) (pa_cons (pe_str) (pa_cons (pe_str) pa_nil))))) pa_nil))))))
 (pss_nil))
 (pss_cons (ps_if (pt_cmpR op_eq (pv 2) (pe_int) (nomark _))
 (pss_cons (ps_asg (pe_op op_add_str (pe_ix ix_list (pv 4) (pv 5) (fun _ _ => rfl)) (cal D_of G_of (hr.mono (by decide)) (pa_cons (pv 0) (pa_cons (pe_lst (pa_cons (pe_str) (pa_cons (pe_str) (pa_cons (pe_str) (pa_cons (pe_str) (pa_cons (pe_str) (pa_cons (pe_str) (pa_cons (pe_str) (pa_cons (pe_str) pa_nil))))))))) pa_nil)))) (pg_sub (pv 4) (pv 5) set_list))
 (pss_one (ps_ret (pe_op op_add_str (pe_join (pe_str) (pv 4)) (pe_str)))))
 (pss_nil))
 (pss_cons (ps_if (pt_cmpR op_eq (pv 2) (pe_int) (nomark _))
 (pss_cons (ps_asg (pe_op op_add_str (pe_ix ix_list (pv 4) (pe_op op_add (pe_int) (pe_op op_mod (pe_callTy call_intI (by rfl) T.int (by decide +kernel) (pa_cons (pv 5) pa_nil)) (pe_int))) (fun _ _ => rfl)) (pe_str)) (pg_sub (pv 4) (pe_op op_add (pe_int) (pe_op op_mod (pe_callTy call_intI (by rfl) T.int (by decide +kernel) (pa_cons (pv 5) pa_nil)) (pe_int))) set_list))
 (pss_cons (ps_asg (pe_op op_add_str (pe_ix ix_list (pv 4) (pv 6) (fun _ _ => rfl)) (pe_ix ix_list (pe_lst (pa_cons (pe_str) (pa_cons (pe_str) (pa_cons (pe_str) pa_nil)))) (pe_op op_mod (pe_callTy call_intI (by rfl) T.int (by decide +kernel) (pa_cons (pv 3) pa_nil)) (pe_int)) (fun _ _ => rfl))) (pg_sub (pv 4) (pv 6) set_list))
 (pss_one (ps_ret (pe_op op_add_str (pe_join (pe_str) (pv 4)) (pe_str))))))
 (pss_nil))
 (pss_one (ps_ret (pe_op op_add_str (pe_slice sl_str (pv 1) (po_none) (po_some (pv 3))) (pe_m0 PySem.F.slot_str_upper PySem.F.type_str_upper mt_upper (pe_slice sl_str (pv 1) (po_some (pv 3)) (po_none))))))))))))))))))), ?_⟩
    have nl1 := nl_len1
    have lz : z.length ≤ sizeLine := by rw [sizeLine_eq]; omega
    have cl : ∀ lo hi, (cutS z lo hi).length ≤ z.length := fun lo hi => cutS_length _ _ _
    refine ⟨_, rfl, B, _, rfl, hB, by decide, by decide, fun way H1 w0 w1 g1 => ?_⟩
    refine ⟨_, rfl, _, rfl, _, z.length, rfl, ⟨lz, rfl⟩, B, _, rfl, g1.bag, by omega, by omega, fun place H2 p0 p1 g2 => ⟨_, _, rfl, ?_⟩⟩
    have g12 := g1.trans g2
    have et := split_tot z
    have el := split_len (split_nl z)
    refine ⟨_, rfl, ⟨_, rfl⟩, z, "\n", rfl, rfl, by decide +kernel, by rw [sizeLine_eq]; omega, fun ws hws => ?_⟩
    have s1 := same_new (o := .lst ((Txt.split z "\n").map V.str)) hws
    have e1 : upd H2 ws (.lst ((Txt.split z "\n").map V.str)) ws = some (.lst ((Txt.split z "\n").map V.str)) := upd_same
    generalize upd H2 ws (.lst ((Txt.split z "\n").map V.str)) = H3 at s1 e1 ⊢
    refine ⟨_, rfl, _, rfl, ws, _, rfl, SqL.of e1, fun pl hpl => ?_⟩
    rw [cutVm, ← List.map_dropLast]
    have tl0 : tot (Txt.split z "\n").dropLast ≤ z.length + 1 := by
      have := tot_sub (List.dropLast_sublist (Txt.split z "\n"))
      omega
    generalize (Txt.split z "\n").dropLast = ys at tl0 ⊢
    have g3 := (g12.same s1).new (o := .lst (ys.map V.str)) hpl
    have pl0 : H pl = none := (g12.same s1).free hpl
    have e3 : upd H3 pl (.lst (ys.map V.str)) pl = some (.lst (ys.map V.str)) := upd_same
    have ap := hB.away pl0
    generalize upd H3 pl (.lst (ys.map V.str)) = H4 at g3 e3 ⊢
    have lm : (ys.map V.str).length = ys.length := List.length_map ..
    have lyt : ys.length ≤ tot ys := Nat.le_add_left _ _
    refine ⟨_, rfl, pl, _, rfl, SqL.of e3, _, _, rfl, rfl, _, rfl, ite_b (fun c => ?_) (fun c => ?_)⟩
    · refine ⟨_, rfl, _, rfl, _, rfl, z, rfl, lz, _, _, rfl, rfl, ?_, _, rfl, _, rfl, _, rfl, z, rfl, lz, _, _, rfl, rfl, ?_, k _ _ ?_ g3⟩
      · have := cl none (some place)
        rw [sizeLine_eq]
        omega
      · have := cl none (some place)
        have := cl (some place) none
        rw [len_add, sizeLine_eq]
        omega
      · have := cl none (some place)
        have := cl (some place) none
        rw [len_add, len_add]
        omega
    have c := of_decide_eq_false c
    rw [lm] at c
    refine ⟨_, rfl, _, rfl, pl, _, rfl, SqL.of e3, B, _, rfl, g3.bag, by omega, by omega, fun kx H5 k0 k1 g4 => ?_⟩
    have e5 := g4.keep ap.1 ap.2 e3
    refine ⟨_, rfl, _, rfl, pl, _, rfl, SqL.of e5, B, _, rfl, g4.bag, by omega, by omega, fun jx H6 j0 j1 g5 => ?_⟩
    have e6 := g5.keep ap.1 ap.2 e5
    have g6 := (g3.trans g4).trans g5
    rw [lm] at k1 j1
    have g6' : Go B H6 H6 := Go.refl g5.bag
    obtain ⟨yk, ak, mk, xk⟩ := at_str k0 k1
    obtain ⟨yj, aj, mj, xj⟩ := at_str j0 j1
    have lk := tot_mem mk
    have lj := tot_mem mj
    clear e1 e3 e5 s1 g1 g2 g3 g4 g5 g12
    -- 0
    refine ⟨_, rfl, rfl, _, rfl, ite_b (fun c0 => ?_) (fun c0 => ?_)⟩
    · exact ⟨_, rfl, _, rfl, _, rfl, z, rfl, lz, k _ _ (by have := cl none (some place); omega) g6⟩
    clear c0
    -- 1
    refine ⟨_, rfl, rfl, _, rfl, ite_b (fun c0 => ?_) (fun c0 => ?_)⟩
    · refine ⟨⟨_, rfl⟩, _, rfl, _, rfl, _, rfl, pl, _, rfl, SqL.of e6, fun p1 hp1 => ?_⟩
      obtain ⟨za, ea, ta⟩ := cut_strs ys none (some kx)
      rw [ea]
      have s7 := same_new (o := .lst (za.map V.str)) hp1
      refine ⟨_, rfl, _, rfl, _, _, rfl, rfl, _, rfl, pl, _, rfl, SqL.of (s7 _ _ e6), fun p2 hp2 => ?_⟩
      obtain ⟨zb, eb, tb⟩ := cut_strs ys (some (kx + 1)) none
      rw [eb]
      have s8 := same_new (o := .lst (zb.map V.str)) hp2
      refine ⟨p1, p2, _, _, rfl, rfl, s8 _ _ upd_same, upd_same, ?_, fun p3 hp3 => ?_⟩
      · have : za.length ≤ tot za := Nat.le_add_left _ _
        have : zb.length ≤ tot zb := Nat.le_add_left _ _
        rw [List.length_map, List.length_map, sizeLine_eq]
        omega
      rw [← List.map_append]
      have tj := tot_app za zb
      have jl := join_tot (za ++ zb)
      refine ⟨"\n", p3, za ++ zb, rfl, rfl, .inl (SqL.of upd_same), join_ok (by omega), _, _, rfl, rfl, by rw [sizeLine_eq]; omega, k _ _ (by rw [len_add]; omega) (((g6.same s7).same s8).new hp3)⟩
    clear c0
    -- 2
    refine ⟨_, rfl, rfl, _, rfl, ite_b (fun c0 => ?_) (fun c0 => ?_)⟩
    · refine ⟨⟨_, rfl⟩, _, rfl, _, rfl, _, rfl, pl, _, rfl, SqL.of e6, fun p1 hp1 => ?_⟩
      obtain ⟨za, ea, ta⟩ := cut_strs ys none (some kx)
      rw [ea]
      have s7 := same_new (o := .lst (za.map V.str)) hp1
      refine ⟨_, rfl, _, rfl, pl, _, jx, _, rfl, rfl, SqL.of (s7 _ _ e6), aj, (by show 1 ≤ sizeLine; decide), fun p2 hp2 => ?_⟩
      have s8 := Same.trans s7 (same_new (o := .lst [.str yj]) hp2)
      refine ⟨p1, p2, _, _, rfl, rfl, same_new hp2 _ _ upd_same, upd_same, ?_, fun p3 hp3 => ?_⟩
      · have : za.length ≤ tot za := Nat.le_add_left _ _
        rw [List.length_map, sizeLine_eq]
        show _ + 1 ≤ _
        omega
      have s9 := Same.trans s8 (same_new (o := .lst (za.map V.str ++ [.str yj])) hp3)
      refine ⟨_, rfl, _, rfl, _, rfl, pl, _, rfl, SqL.of (s9 _ _ e6), fun p4 hp4 => ?_⟩
      obtain ⟨zb, eb, tb⟩ := cut_strs ys (some kx) none
      rw [eb]
      have s10 := Same.trans s9 (same_new (o := .lst (zb.map V.str)) hp4)
      refine ⟨p3, p4, _, _, rfl, rfl, same_new hp4 _ _ upd_same, upd_same, ?_, fun p5 hp5 => ?_⟩
      · have : za.length ≤ tot za := Nat.le_add_left _ _
        have : zb.length ≤ tot zb := Nat.le_add_left _ _
        rw [List.length_append, List.length_map, List.length_map, sizeLine_eq]
        show _ + 1 + _ ≤ _
        omega
      have em : (za.map V.str ++ [V.str yj]) ++ zb.map V.str = ((za ++ [yj]) ++ zb).map V.str := by rw [List.map_append, List.map_append]; rfl
      rw [em]
      have tj := tot_app (za ++ [yj]) zb
      have tj2 := tot_app za [yj]
      have tj3 := tot_cons yj []
      have tj4 : tot [] = 0 := rfl
      have jl := join_tot ((za ++ [yj]) ++ zb)
      refine ⟨"\n", p5, (za ++ [yj]) ++ zb, rfl, rfl, .inl (SqL.of upd_same), join_ok (by omega), _, _, rfl, rfl, by rw [sizeLine_eq]; omega, k _ _ (by rw [len_add]; omega) ((g6.same s10).new hp5)⟩
    clear c0
    -- 3
    refine ⟨_, rfl, rfl, _, rfl, ite_b (fun c0 => ?_) (fun c0 => ?_)⟩
    · refine ⟨_, rfl, _, rfl, pl, _, jx, _, rfl, rfl, SqL.of e6, aj, _, rfl, _, rfl, pl, _, kx, _, rfl, rfl, SqL.of e6, ak, (by show 2 ≤ sizeLine; decide), fun t ht => ?_⟩
      have npt : pl ≠ t := ne_of_none e6 ht
      have e7 := same_new (o := .tup [.str yj, .str yk]) ht _ _ e6
      have t7 : upd H6 t (.tup [.str yj, .str yk]) t = some (.tup [.str yj, .str yk]) := upd_same
      have g7 := g6.new (o := .tup [.str yj, .str yk]) ht
      generalize upd H6 t (.tup [.str yj, .str yk]) = H7 at e7 t7 g7 ⊢
      refine ⟨t, _, rfl, SqT.of t7, rfl, _, _, rfl, _, rfl, _, rfl, pl, _, kx, _, rfl, rfl, e7, xk, ?_⟩
      rw [set_str]
      refine ⟨_, _, rfl, _, rfl, _, rfl, pl, _, jx, _, rfl, rfl, upd_same, by rw [List.length_map, List.length_set, ← lm]; exact xj, rfl, ?_⟩
      rw [set_str]
      have t1 := tot_set yj ys kx.toNat
      have t2 := tot_set yk (ys.set kx.toNat yj) jx.toNat
      have jl := join_tot ((ys.set kx.toNat yj).set jx.toNat yk)
      refine ⟨⟨_, rfl⟩, _, rfl, "\n", pl, _, rfl, rfl, .inl (SqL.of upd_same), join_ok (by omega), _, _, rfl, rfl, by rw [sizeLine_eq]; omega, k _ _ (by rw [len_add]; omega) ((g7.turn hB pl0).turn hB pl0)⟩
    clear c0
    -- 4
    refine ⟨_, rfl, rfl, _, rfl, ite_b (fun c0 => ?_) (fun c0 => ?_)⟩
    · refine ⟨_, rfl, _, rfl, _, rfl, z, rfl, lz, _, rfl, (by show 8 ≤ sizeLine; decide), fun p1 hp1 => ?_⟩
      have g7 := g6'.new (o := .lst [.str " ", .str "-", .str ".", .str "0", .str "x", .str "\n", .str "..", .str "1"]) hp1
      have a7 := g6'.bag.away hp1
      refine ⟨B, p1, _, rfl, g7.bag, upd_same, a7.1, a7.2, by decide, by decide, fun v H7 hv g8 => ?_⟩
      obtain ⟨y, rfl, hy⟩ : ∃ y : Str, v = .str y ∧ y.length ≤ 12 := by
        simp only [List.mem_cons, List.not_mem_nil, or_false] at hv
        rcases hv with rfl | rfl | rfl | rfl | rfl | rfl | rfl | rfl <;> exact ⟨_, rfl, by decide +kernel⟩
      have c1 := cl none (some place)
      have c2 := cl (some place) none
      refine ⟨_, _, rfl, rfl, by rw [sizeLine_eq]; omega, _, rfl, _, rfl, _, rfl, z, rfl, lz, _, _, rfl, rfl, by rw [len_add, sizeLine_eq]; omega, k _ _ (by rw [len_add, len_add]; omega) ((g6.trans g7).trans g8)⟩
    clear c0
    -- 5
    refine ⟨_, rfl, rfl, _, rfl, ite_b (fun c0 => ?_) (fun c0 => ?_)⟩
    · have c1 := cl none (some place)
      have c2 := cl (some (place + 1)) none
      exact ⟨_, rfl, _, rfl, _, rfl, z, rfl, lz, _, rfl, _, rfl, _, _, rfl, rfl, _, rfl, z, rfl, lz, _, _, rfl, rfl, by rw [sizeLine_eq]; omega, k _ _ (by rw [len_add]; omega) g6⟩
    clear c0
    -- 6
    refine ⟨_, rfl, rfl, _, rfl, ite_b (fun c0 => ?_) (fun c0 => ?_)⟩
    · refine ⟨_, rfl, _, rfl, (by show 4 ≤ sizeLine; decide), fun p1 hp1 => ?_⟩
      have g7 := g6'.new (o := .lst [.str "\n", .str "done", .str "done\n", .str " "]) hp1
      have a7 := g6'.bag.away hp1
      refine ⟨B, p1, _, rfl, g7.bag, upd_same, a7.1, a7.2, by decide, by decide, fun v H7 hv g8 => ?_⟩
      obtain ⟨y, rfl, hy⟩ : ∃ y : Str, v = .str y ∧ y.length ≤ 12 := by
        simp only [List.mem_cons, List.not_mem_nil, or_false] at hv
        rcases hv with rfl | rfl | rfl | rfl <;> exact ⟨_, rfl, by decide +kernel⟩
      exact ⟨_, _, rfl, rfl, by rw [sizeLine_eq]; omega, k _ _ (by rw [len_add]; omega) ((g6.trans g7).trans g8)⟩
    clear c0
    -- 7
    refine ⟨_, rfl, rfl, _, rfl, ite_b (fun c0 => ?_) (fun c0 => ?_)⟩
    · refine ⟨_, rfl, _, rfl, pl, _, kx, _, rfl, rfl, SqL.of e6, ak, _, rfl, (by show 8 ≤ sizeLine; decide), fun p1 hp1 => ?_⟩
      have g7 := g6'.new (o := .lst [.str " 3..3", .str " 4..2", .str " 2..4", .str " 7", .str " -0..5", .str " 05..6", .str " 1234567890", .str " 5..3 6..x"]) hp1
      have a7 := g6'.bag.away hp1
      refine ⟨B, p1, _, rfl, g7.bag, upd_same, a7.1, a7.2, by decide, by decide, fun v H7 hv g8 => ?_⟩
      obtain ⟨y, rfl, hy⟩ : ∃ y : Str, v = .str y ∧ y.length ≤ 12 := by
        simp only [List.mem_cons, List.not_mem_nil, or_false] at hv
        rcases hv with rfl | rfl | rfl | rfl | rfl | rfl | rfl | rfl <;> exact ⟨_, rfl, by decide +kernel⟩
      have e7 := (g7.trans g8).keep ap.1 ap.2 e6
      refine ⟨_, _, rfl, rfl, by rw [sizeLine_eq]; omega, _, rfl, _, rfl, pl, _, kx, _, rfl, rfl, e7, xk, ?_⟩
      rw [set_str]
      have t1 := tot_set (yk ++ y) ys kx.toNat
      rw [len_add] at t1
      have jl := join_tot (ys.set kx.toNat (yk ++ y))
      exact ⟨⟨_, rfl⟩, _, rfl, "\n", pl, _, rfl, rfl, .inl (SqL.of upd_same), join_ok (by omega), _, _, rfl, rfl, by rw [sizeLine_eq]; omega, k _ _ (by rw [len_add]; omega) (((g6.trans g7).trans g8).turn hB pl0)⟩
    clear c0
    -- 8
    refine ⟨_, rfl, rfl, _, rfl, ite_b (fun c0 => ?_) (fun c0 => ?_)⟩
    · have m0 : (0 : Int) ≤ 1 + kx % 2 := by omega
      have m1 : 1 + kx % 2 < (ys.length : Int) := by omega
      obtain ⟨ym, am, mm, xm⟩ := at_str m0 m1
      have lm2 := tot_mem mm
      have l9 : (" 9..-9" : Str).length ≤ 12 := by decide +kernel
      refine ⟨_, rfl, _, rfl, _, rfl, _, _, rfl, rfl, (by show (0 : Int) < 2; decide), _, _, rfl, rfl, pl, _, _, _, rfl, rfl, SqL.of e6, am, _, _, rfl, rfl, by rw [sizeLine_eq]; omega, ?_⟩
      refine ⟨_, rfl, _, rfl, _, rfl, _, _, rfl, rfl, (by show (0 : Int) < 2; decide), _, _, rfl, rfl, pl, _, _, _, rfl, rfl, e6, xm, ?_⟩
      rw [set_str]
      have t1 := tot_set (ym ++ " 9..-9") ys (1 + kx % 2).toNat
      rw [len_add] at t1
      have g7 : Go B H (upd H6 pl (.lst ((ys.set (1 + kx % 2).toNat (ym ++ " 9..-9")).map V.str))) := g6.turn hB pl0
      have e7 : upd H6 pl (.lst ((ys.set (1 + kx % 2).toNat (ym ++ " 9..-9")).map V.str)) pl = some (.lst ((ys.set (1 + kx % 2).toNat (ym ++ " 9..-9")).map V.str)) := upd_same
      generalize upd H6 pl (.lst ((ys.set (1 + kx % 2).toNat (ym ++ " 9..-9")).map V.str)) = H7 at g7 e7 ⊢
      have lz2 : (ys.set (1 + kx % 2).toNat (ym ++ " 9..-9")).length = ys.length := List.length_set ..
      generalize ys.set (1 + kx % 2).toNat (ym ++ " 9..-9") = zs at t1 g7 e7 lz2 ⊢
      obtain ⟨yi, ai, mi, xi⟩ := at_str (ys := zs) j0 (by rw [lz2]; exact j1)
      have li := tot_mem mi
      refine ⟨_, rfl, _, rfl, pl, _, jx, _, rfl, rfl, SqL.of e7, ai, (by show 3 ≤ sizeLine; decide), fun p1 hp1 => ?_⟩
      have s8 := same_new (o := .lst [.str " ", .str " 8..8", .str " 7..8"]) hp1
      have m3 : (0 : Int) ≤ place % 3 := by omega
      have m4 : place % 3 < ([V.str " ", .str " 8..8", .str " 7..8"] : List V).length := by show place % 3 < ((3 : Nat) : Int); omega
      obtain ⟨v, av, _, hv⟩ := at_pos m3 m4
      obtain ⟨y, rfl, hy⟩ : ∃ y : Str, v = .str y ∧ y.length ≤ 12 := by
        simp only [List.mem_cons, List.not_mem_nil, or_false] at hv
        rcases hv with rfl | rfl | rfl <;> exact ⟨_, rfl, by decide +kernel⟩
      refine ⟨_, rfl, _, rfl, _, _, rfl, rfl, (by show (0 : Int) < 3; decide), p1, _, _, _, rfl, rfl, SqL.of upd_same, av, _, _, rfl, rfl, by rw [sizeLine_eq]; omega, ?_⟩
      refine ⟨_, rfl, _, rfl, pl, _, jx, _, rfl, rfl, s8 _ _ e7, xi, ?_⟩
      rw [set_str]
      have t2 := tot_set (yi ++ y) zs jx.toNat
      rw [len_add] at t2
      have jl := join_tot (zs.set jx.toNat (yi ++ y))
      exact ⟨⟨_, rfl⟩, _, rfl, "\n", pl, _, rfl, rfl, .inl (SqL.of upd_same), join_ok (by omega), _, _, rfl, rfl, by rw [sizeLine_eq]; omega, k _ _ (by rw [len_add]; omega) ((g7.same s8).turn hB pl0)⟩
    clear c0
    have c1 := cl none (some place)
    have c2 := cl (some place) none
    have c3 := len_upper (cutS z (some place) none)
    exact ⟨_, rfl, _, rfl, _, rfl, z, rfl, lz, _, rfl, _, rfl, _, rfl, z, rfl, lz, ⟨_, rfl⟩, _, rfl, rfl, by omega, _, _, rfl, rfl, by rw [sizeLine_eq]; omega, k _ _ (by rw [len_add]; omega) g6⟩
end
end Lw
namespace XM
open PySem PySem.Spec PyProof.Rows L2
section
variable {X : Cx} {CX : CXT} {k : Nat} {f C p0 : Addr} {fd : FuncData} {ps ks : List Str} {sp : Sp} {x m : Str} {p pos apos : Pos} {e o : Expr} {es : List Expr} {kws : List Keyword} {to : TE} {t tk : TA} {E : XK} {g : List Value → List Value → List Value} {gV : List V → List V → List V}
/-- nothing is raised by a def that may raise -/
theorem passE : Passes (L2.CX X.prog X.w) X E0 := fun _ _ _ _ _ _ _ ⟨_, _, _, _, _, _, _, _, _, _, _, _, h⟩ => h.elim
def tStatKO (C : Addr) (sp : Sp) (gV : List V → List V → List V) (E : XK) (to : TE) (tk : TA) : TE := fun σ H Q => to σ H fun x H1 => x = .ref C ∧ tk σ H1 fun zs H2 => sp (gV [] zs) H2 Q E
/-- C.f(k = v, ..), f a static method -/
theorem pe_statKO {pl : Sem Bool} (S : Stat X.K C m f) (F : FnOk X.prog X.w X.K X.mg X.base CX k f fd ps sp) (hr : Room k X.A) (hb : KBinds X.K fd ps ks g gV) (hx : Passes CX X E) (ho : PE X o to) (hkw : PK X kws tk)
    (hall : (backToKw pos (keywordEach kws X.env)).all (·.1.isSome) = true := by rfl) (hks : (backToKw pos (keywordEach kws X.env)).filterMap (·.1) = ks := by rfl)
    (hpl : ((backTo pos (starEach [] X.env)).any (·.1) || (backToKw pos (keywordEach kws X.env)).any (·.1.isNone)) = false := by rfl)
    (ht : eval (.Call (.Attribute o m apos) [] kws pos) X.env = (do
      let ov ← eval o X.env
      standAt apos.atName
      let (f, first) ← holding [ov] (getMethod ov m pl)
      callWith pos f first (backTo pos (starEach [] X.env)) (backToKw pos (keywordEach kws X.env))) := by rfl) :
    PE X (.Call (.Attribute o m apos) [] kws pos) (tStatKO C sp gV E to tk) := by
  refine ⟨fun pins s σ H Q I h => PySem.W.methodCall_KW (pl := pl) (thn (ho.run pins s σ H _ I h) fun u s1 hv => ?_) ht⟩
  obtain ⟨y, H1, I1, r1, rfl, q⟩ := hv
  cases r1
  refine getstat S I1.kIn ?_
  have I2 := I1.tok (s1.toks + 1)
  refine PySem.W.callWith_KW0 (first := []) (h₀ := X.base) I2.ok.mod.kin S.kp hall (thn (hkw.run pos pins _ σ H1 _ I2 q) fun ws s3 hv => ?_) hpl
  obtain ⟨zs, H2, I3, rz, q3⟩ := hv
  refine ⟨I3.kIn, ?_⟩
  rw [hks]
  exact run_fnk F hr hb hx I3 .nil rz q3
end
end XM
namespace Lw
open PySem PySem.Spec PyProof.Rows L2 XV TL XM
section
variable {P : Program} {w : World} {K : PySem.W.Frag} {mg : Str → Option Value} {base : Heap}
theorem kb_read {f : Addr} {fd : FuncData} (F : Fun K "read" "Lives.read" sReadL f fd) : KBinds K fd ["text"] ["text"] (fun us ws => us ++ ws) (fun us ws => us ++ ws) := by
  obtain ⟨oc, od, kV, doc, pm, an, cdv, ct, osl, rfl, lk, hcd⟩ := F.ex
  refine ⟨fun s us ws _ hl => ?_, fun a b => ?_⟩
  · match us, ws, hl with
    | [], [_], _ => exact .of_eq rfl
    | [_], [], _ => exact .of_eq rfl
  · induction a with
    | nil => exact b
    | cons r rr ih => exact .cons r ih
theorem kb_init {f : Addr} {fd : FuncData} (F : Fun K "__init__" "Lives.__init__" sInitL f fd) : KBn K fd ["self", "hollows", "summits", "loose", "lowest", "highest"] 1 ["highest", "lowest", "loose", "summits", "hollows"] (fun us ws => us ++ ws.reverse) (fun us ws => us ++ ws.reverse) := by
  obtain ⟨oc, od, kV, doc, pm, an, cdv, ct, osl, rfl, lk, hcd⟩ := F.ex
  refine ⟨fun s us ws _ h1 h2 => ?_, fun a b => ?_⟩
  · match us, ws, h1, h2 with
    | [_], [_, _, _, _, _], _, _ => exact .of_eq rfl
  · induction a with
    | nil =>
      have rv : ∀ {vs us as bs}, Vals vs us → Vals as bs → Vals (List.reverseAux vs as) (List.reverseAux us bs) := by
        intro vs us as bs h
        induction h generalizing as bs with
        | nil => intro h2; exact h2
        | cons r rr ih => intro h2; exact ih (.cons r h2)
      exact rv b .nil
    | cons r rr ih => exact .cons r ih
end
end Lw
namespace DO
open PySem PySem.Spec PyProof.Rows L2
/-! blocks by what holds before and behind -/
theorem execs_app (env : Env) : ∀ (a b : List Stmt), execs (a ++ b) env = (execs a env >>= fun f => match f with | .next => execs b env | f => pure f)
  | [], b => by
    rw [List.nil_append, execs_nil, pure_bind]
  | st :: r, b => by
    rw [List.cons_append, execs_cons, execs_cons, bind_assoc]
    congr 1
    funext f
    cases f with
    | next => exact execs_app env r b
    | ret v => rw [pure_bind]
    | brk => rw [pure_bind]
    | cont => rw [pure_bind]
structure Does (X : Cx) (ss : List Stmt) (Pre Post : L2.St → Hp → Prop) (Rt : VK) : Prop where
  run : ∀ (pins : List (Addr × Obj)) (s : Shared) (σ : L2.St) (H : Hp) (D : Ends), Inv X pins σ H s → Pre σ H → (∀ σ' H', Post σ' H' → D.nx σ' H') → (∀ v H', Rt v H' → D.rt v H') → wpAny (model X.prog X.w) X.A (execs ss X.env) (SP X pins D) X.xe s
section
variable {X : Cx} {Pre Mid Post : L2.St → Hp → Prop} {Rt : VK} {a b ss : List Stmt} {t : TS}
theorem Does.of (h : PSs X ss t) (hq : ∀ σ H, Pre σ H → ∀ D : Ends, (∀ σ' H', Post σ' H' → D.nx σ' H') → (∀ v H', Rt v H' → D.rt v H') → t D σ H) : Does X ss Pre Post Rt :=
  ⟨fun pins s σ H D I p n r => h.run pins s σ H D I (hq σ H p D n r)⟩
theorem Does.app (h1 : Does X a Pre Mid Rt) (h2 : Does X b Mid Post Rt) : Does X (a ++ b) Pre Post Rt := by
  refine ⟨fun pins s σ H D I p n r => ?_⟩
  rw [execs_app]
  refine wpAny_bind (thn (h1.run pins s σ H { D with nx := Mid } I p (fun _ _ h => h) r) fun f s1 q => ?_)
  cases f with
  | next =>
    obtain ⟨σ', H', I', q⟩ := q
    exact h2.run pins s1 σ' H' D I' q n r
  | ret v => exact wpAny_pure q
  | brk => exact wpAny_pure q
  | cont => exact wpAny_pure q
theorem Does.cut (n : Nat) (h1 : Does X (ss.take n) Pre Mid Rt) (h2 : Does X (ss.drop n) Mid Post Rt) : Does X ss Pre Post Rt := by
  have h := h1.app h2
  rw [List.take_append_drop] at h
  exact h
theorem Does.pss (h : Does X ss Pre Post Rt) : PSs X ss (fun D σ H => Pre σ H ∧ (∀ σ' H', Post σ' H' → D.nx σ' H') ∧ ∀ v H', Rt v H' → D.rt v H') :=
  ⟨fun pins s σ H D I q => h.run pins s σ H D I q.1 q.2.1 q.2.2⟩
end
end DO
namespace Lw
open PySem PySem.Spec PyProof.Rows L2 XV TL XM DO
abbrev sLaw : Stmt := topOf "law"
abbrev Nlaw : List Str := ["script", "box", "five", "k", "due", "x", "given", "told", "words", "name", "mixed", "back", "same", "place", "other", "wrong", "which", "odd", "bent", "fault", "answer"]
theorem scLaw : FnScope Nlaw ["script"] (defScope sLaw) := ⟨rfl, rfl, rfl, by decide +kernel, rfl, by decide +kernel, by decide +kernel⟩
def spLaw (K : PySem.W.Frag) : Sp := fun vs H Q _ => ∃ (a : Addr) (ns : List Int), vs = [.ref a] ∧ SqL K H a (ns.map V.int) ∧ ns.length ≤ 63 ∧ ∀ H', Q (.bl true) H'
/-- where the law stands -/
abbrev XL (P : Program) (w : World) (K : PySem.W.Frag) (mg : Str → Option Value) (base : Heap) (f : Addr) (cdv : Value) (A : Around) (outer : List Env) (s : Shared) (H : Hp) (E : XK) : Cx := (cxOf CX0 P w K mg base Nlaw "law" (defScope sLaw) f cdv A outer s H E).nox
/-- the law's answer -/
def RtL : VK := fun v _ => v = .bl true
/-- five as the law has it -/
structure F5 (B : Bx) (H : Hp) (q a b l : Addr) (xs ys : List V) (ps qs : List Pr) (ns : List Int) (lo hi : Int) : Prop where
  hq : H q = some (.lst [.ref a, .ref b, .ref l, .int lo, .int hi])
  ha : H a = some (.lst xs)
  hb : H b = some (.lst ys)
  hl : H l = some (.lst (ns.map V.int))
  pa : RawVs H xs ps
  pb : RawVs H ys qs
  nq : q ≠ B.b ∧ q ≠ B.l
  na : a ≠ B.b ∧ a ≠ B.l
  nb : b ≠ B.b ∧ b ≠ B.l
  nl : l ≠ B.b ∧ l ≠ B.l
structure Ok5 (ps qs : List Pr) (ns : List Int) (lo hi : Int) : Prop where
  hp : ∀ x ∈ ps, GoodP x
  hq : ∀ x ∈ qs, GoodP x
  hn : ∀ x ∈ ns, N9 x
  hlo : N9 lo
  hhi : N9 hi
  lp : ps.length ≤ 10
  lq : qs.length ≤ 10
  ln : ns.length ≤ 10
theorem n9_sml {i : Int} (h : N9 i) : Sml i := by
  obtain ⟨a, b⟩ := h
  unfold Sml
  omega
theorem good_sml {p : Pr} (h : GoodP p) : SmlP p := by
  obtain ⟨a, b, c⟩ := h
  exact ⟨n9_sml ⟨a, by omega⟩, n9_sml ⟨by omega, c⟩⟩
theorem Ok5.good {ps qs : List Pr} {ns : List Int} {lo hi : Int} (h : Ok5 ps qs ns lo hi) : Good5 ps qs ns lo hi := ⟨h.hp, h.hq, h.hn, h.hlo, h.hhi⟩
theorem Ok5.sml {ps qs : List Pr} {ns : List Int} {lo hi : Int} (h : Ok5 ps qs ns lo hi) : SmlL ps qs ns lo hi := ⟨fun p hp => good_sml (h.hp p hp), fun p hp => good_sml (h.hq p hp), fun p hp => n9_sml (h.hn p hp), n9_sml h.hlo, n9_sml h.hhi, Nat.le_trans h.lp (by decide), Nat.le_trans h.lq (by decide), Nat.le_trans h.ln (by decide)⟩
theorem Ok5.perm {ps qs ps' qs' : List Pr} {ns ns' : List Int} {lo hi : Int} (h : Ok5 ps qs ns lo hi) (e1 : ps'.Perm ps) (e2 : qs'.Perm qs) (e3 : ns'.Perm ns) : Ok5 ps' qs' ns' lo hi :=
  ⟨fun x hx => h.hp x (e1.subset hx), fun x hx => h.hq x (e2.subset hx), fun x hx => h.hn x (e3.subset hx), h.hlo, h.hhi, e1.length_eq ▸ h.lp, e2.length_eq ▸ h.lq, e3.length_eq ▸ h.ln⟩
theorem F5.go {B : Bx} {H H' : Hp} {q a b l : Addr} {xs ys : List V} {ps qs : List Pr} {ns : List Int} {lo hi : Int} (h : F5 B H q a b l xs ys ps qs ns lo hi) (hB : BoxAt B H) (g : Go B H H') : F5 B H' q a b l xs ys ps qs ns lo hi :=
  ⟨g.keep h.nq.1 h.nq.2 h.hq, g.keep h.na.1 h.na.2 h.ha, g.keep h.nb.1 h.nb.2 h.hb, g.keep h.nl.1 h.nl.2 h.hl, h.pa.turn fun t ys e => g.tup hB e, h.pb.turn fun t ys e => g.tup hB e, h.nq, h.na, h.nb, h.nl⟩
/-- due: the tuples in order -/
structure Due (K : PySem.W.Frag) (B : Bx) (H : Hp) (q : Addr) (hs ss : List Pr) (li : List Int) (lo hi : Int) : Prop where
  nq : q ≠ B.b ∧ q ≠ B.l
  ex : ∃ (a b l : Addr) (xs ys : List V), H q = some (.lst [.ref a, .ref b, .ref l, .int lo, .int hi]) ∧ H a = some (.tup xs) ∧ H b = some (.tup ys) ∧ H l = some (.tup (li.map V.int)) ∧ RawVs H xs hs ∧ RawVs H ys ss
theorem Due.go {K : PySem.W.Frag} {B : Bx} {H H' : Hp} {q : Addr} {hs ss : List Pr} {li : List Int} {lo hi : Int} (h : Due K B H q hs ss li lo hi) (hB : BoxAt B H) (g : Go B H H') : Due K B H' q hs ss li lo hi := by
  obtain ⟨a, b, l, xs, ys, h1, h2, h3, h4, h5, h6⟩ := h.ex
  exact ⟨h.nq, a, b, l, xs, ys, g.keep h.nq.1 h.nq.2 h1, g.tup hB h2, g.tup hB h3, g.tup hB h4, h5.turn fun t ys e => g.tup hB e, h6.turn fun t ys e => g.tup hB e⟩
theorem Due.dp {K : PySem.W.Frag} {B : Bx} {H : Hp} {q : Addr} {hs ss : List Pr} {li : List Int} {lo hi : Int} (h : Due K B H q hs ss li lo hi) : Dp K H (.ref q) (.list (fiveD hs ss li lo hi)) := by
  obtain ⟨a, b, l, xs, ys, h1, h2, h3, h4, h5, h6⟩ := h.ex
  exact .lst (SqL.of h1) (.cons (.tup (SqT.of h2) (dp_pairs h5.pairs)) (.cons (.tup (SqT.of h3) (dp_pairs h6.pairs)) (.cons (.tup (SqT.of h4) (dp_ints li)) (.cons (.int lo) (.cons (.int hi) .nil)))))
theorem LivesAt.go {K : PySem.W.Frag} {C : Addr} {B : Bx} {H H' : Hp} {p : Addr} {hs ss : List Pr} {ls : List Int} {lo hi : Int} (h : LivesAt K C H p hs ss ls lo hi) (hB : BoxAt B H) (g : Go B H H') : LivesAt K C H' p hs ss ls lo hi := by
  obtain ⟨i, m, c, b1, _⟩ := hB.ex
  obtain ⟨ns, b2, _⟩ := hB.ls
  obtain ⟨dx, a, b, l, xs, ys, h1, h2, h3, h4, h5, h6⟩ := h.ex
  have sq : ∀ {t : Addr} {xs : List V}, SqT K H t xs → SqT K H' t xs := fun {t xs} e => by
    rcases e with (e | ⟨o, e⟩) | e
    · exact .inl (.inl (g.tup hB e))
    · exact .inl (.inr ⟨o, g.keep (fun z => by rw [z, b1] at e; cases e) (fun z => by rw [z, b2] at e; cases e) e⟩)
    · exact .inr e
  exact ⟨dx, a, b, l, xs, ys, g.keep (fun z => by rw [z, b1] at h1; cases h1) (fun z => by rw [z, b2] at h1; cases h1) h1, g.tup hB h2, g.tup hB h3, g.tup hB h4, ⟨h5.1, fun i x hx => by
    obtain ⟨t, p, a, b, c⟩ := h5.2 i x hx
    exact ⟨t, p, a, b, sq c⟩⟩, ⟨h6.1, fun i x hx => by
    obtain ⟨t, p, a, b, c⟩ := h6.2 i x hx
    exact ⟨t, p, a, b, sq c⟩⟩⟩
end Lw
namespace Lw
open PySem PySem.Spec PyProof.Rows L2 XV TL XM DO
/-- a def, its promise -/
structure Cl (P : Program) (w : World) (K : PySem.W.Frag) (mg : Str → Option Value) (base : Heap) (k : Nat) (nm : Str) (st : Stmt) (ps : List Str) (sp : Sp) : Prop where
  ex : ∃ f fd, Df K mg nm st ps f fd ∧ FnOk P w K mg base CX0 k f fd ps sp
theorem calC {X : Cx} {nm : Str} {st : Stmt} {ps : List Str} {k : Nat} {sp : Sp} {p pos : Pos} {e : Expr} {es : List Expr} {t : TA} (D : Cl X.prog X.w X.K X.mg X.base k nm st ps sp) (hr : Room k X.A) (ha : PA X (e :: es) t) (hg : Gl X nm := by rfl)
    (hdb : (nm == ("__debug__" : Str)) = false := by decide) (he : starEach (e :: es) X.env = (false, eval e X.env) :: starEach es X.env := by rfl) (hpl : (backTo pos (starEach es X.env)).any (·.1) = false := by rfl) : PE X (.Call (.Name nm p) (e :: es) [] pos) (tCall sp [] E0 t) := by
  obtain ⟨f, fd, d, g⟩ := D.ex
  exact cal d g hr ha hg hdb he hpl
/-- a def, its promise where no repr is under way -/
structure ClG (P : Program) (w : World) (K : PySem.W.Frag) (mg : Str → Option Value) (base : Heap) (k : Nat) (nm : Str) (st : Stmt) (ps : List Str) (sp : Sp) : Prop where
  ex : ∃ f fd, Df K mg nm st ps f fd ∧ FnOkG P w K mg base CX0 k f fd ps sp
theorem calG {X : Cx} {nm : Str} {st : Stmt} {ps : List Str} {k : Nat} {sp : Sp} {p pos : Pos} {e : Expr} {es : List Expr} {t : TA} (D : ClG X.prog X.w X.K X.mg X.base k nm st ps sp) (hgd : X.A.guards = some []) (hr : Room k X.A) (ha : PA X (e :: es) t) (hg : Gl X nm := by rfl)
    (hdb : (nm == ("__debug__" : Str)) = false := by decide) (he : starEach (e :: es) X.env = (false, eval e X.env) :: starEach es X.env := by rfl) (hpl : (backTo pos (starEach es X.env)).any (·.1) = false := by rfl) : PE X (.Call (.Name nm p) (e :: es) [] pos) (tCall sp [] E0 t) := by
  obtain ⟨f, fd, d, g⟩ := D.ex
  exact pe_callG d g hgd hr ha hg hdb he hpl
/-- a method of Lives, its promise -/
structure Me (P : Program) (w : World) (K : PySem.W.Frag) (mg : Str → Option Value) (base : Heap) (C : Addr) (k : Nat) (m : Str) (ps : List Str) (sp : Sp) : Prop where
  ex : ∃ f fd, Meth K C m f ∧ Binds K fd ps [] ∧ FnOk P w K mg base CX0 k f fd ps sp
/-- what the law calls -/
structure LEnv (P : Program) (w : World) (K : PySem.W.Frag) (mg : Str → Option Value) (base : Heap) (c : CA) (C : Addr) : Prop where
  T : Bt mg
  L : LCls K C
  gC : mg "Lives" = some (.ref C)
  box : Cl P w K mg base 1 "_law_box" sBox ["script"] (spBox K)
  take : Cl P w K mg base 1 "_law_take" sTake ["box", "limit"] spTake
  of : Cl P w K mg base 2 "_law_of" sOf ["box", "things"] (spOf K)
  mixed : Cl P w K mg base 2 "_law_mixed" sMixed ["box", "things"] spMixed
  put : Cl P w K mg base 2 "_law_put" sPut ["box", "row", "x"] spPut
  number : Cl P w K mg base 2 "_law_number" sNumber ["box"] spNumber
  row : Cl P w K mg base 4 "_law_row" sRow ["box", "many"] spRow
  told : Cl P w K mg base 1 "_law_told_lives" sTold ["told"] (spTold K C)
  written : Cl P w K mg base 2 "_law_written" sWritten ["five"] (spWritten K)
  fault : Cl P w K mg base 3 "_law_fault" sFault ["words"] spFault
  meant : Cl P w K mg base 1 "_law_meant" sMeant ["words"] (spMeant K)
  bent : Cl P w K mg base 3 "_law_bent" sBent ["box", "words"] spBent
  readT : Cl P w K mg base 7 "_law_read" sReadT ["words"] (spReadT K c C)
  madeT : Cl P w K mg base 6 "_law_made" sMadeT ["five"] (spMadeT K C)
  just : ClG P w K mg base 1 "_law_just" sJust ["told", "due"] (spJust K)
  text : Me P w K mg base C 2 "text" ["self"] (spText K C)
  len : Me P w K mg base C 1 "__len__" ["self"] (spLenL K C)
  repr : Me P w K mg base C 1 "__repr__" ["self"] (spReprL K C)
  eq : ∃ f fd, LEq K C f ∧ Binds K fd ["self", "other"] [] ∧ FnOk P w K mg base CX0 1 f fd ["self", "other"] (spEqL K C)
  obj : PySem.W.mroIn K C (.type "object") = some true
  init : ∃ f fd, Mk K C f ∧ Fun K "__init__" "Lives.__init__" sInitL f fd ∧ FnOk P w K mg base (L2.CX P w) 4 f fd ["self", "hollows", "summits", "loose", "lowest", "highest"] (spInitL K c C)
  read : ∃ f fd, Stat K C "read" f ∧ Fun K "read" "Lives.read" sReadL f fd ∧ FnOk P w K mg base (L2.CX P w) 6 f fd ["text"] (spReadL K c C)
abbrev rTupOf (K : PySem.W.Frag) : List V → Hp → VK → Prop := fun xs H Q => ∃ p ys, xs = [V.ref p] ∧ ((SqL K H p ys ∧ ∀ l, H l = none → Q (.ref l) (upd H l (.tup ys))) ∨ (SqT K H p ys ∧ Q (.ref p) H))
abbrev rSortE (K : PySem.W.Frag) : List V → Hp → VK → Prop := fun xs H Q => rSortedPO K xs H Q ∨ rSortedI K xs H Q
theorem RawVs.perm {M : Hp} {xs ys : List V} {ps : List Pr} (h : RawVs M xs ps) (p : ys.Perm xs) : RawVs M ys (ys.map (keyIn M)) := by
  refine ⟨by rw [List.length_map], fun i x hx => ?_⟩
  obtain ⟨t, rfl, c⟩ := h.mem (p.subset (List.mem_of_getElem? hx))
  exact ⟨t, keyIn M (.ref t), by rw [List.getElem?_map, hx]; rfl, rfl, c⟩
theorem del_tup {M : Hp} {D t : Addr} {xs acc : List V} (hD : M D = some (.lst acc)) (h : M t = some (.tup xs)) : delH M D t = some (.tup xs) := by
  rw [delH_ne (fun e => by rw [e, hD] at h; cases h)]
  exact h
/-- due, thing by thing -/
def rDue (ps qs : List Pr) (ns : List Int) : Nat → V → Hp → Prop
  | 0 => fun y M => ∃ (t : Addr) (xs : List V) (hs : List Pr), y = .ref t ∧ M t = some (.tup xs) ∧ RawVs M xs hs ∧ SortP ps hs
  | 1 => fun y M => ∃ (t : Addr) (xs : List V) (hs : List Pr), y = .ref t ∧ M t = some (.tup xs) ∧ RawVs M xs hs ∧ SortP qs hs
  | _ => fun y M => ∃ (t : Addr) (li : List Int), y = .ref t ∧ M t = some (.tup (li.map V.int)) ∧ SortI ns li
theorem rDue.mono (ps qs : List Pr) (ns : List Int) (i : Nat) (y : V) (M M' : Hp) (s : Same M M') (h : rDue ps qs ns i y M) : rDue ps qs ns i y M' := by
  match i, h with
  | 0, ⟨t, xs, hs, a, b, c, d⟩ => exact ⟨t, xs, hs, a, s _ _ b, c.turn fun _ _ h => s _ _ h, d⟩
  | 1, ⟨t, xs, hs, a, b, c, d⟩ => exact ⟨t, xs, hs, a, s _ _ b, c.turn fun _ _ h => s _ _ h, d⟩
  | n + 2, ⟨t, li, a, b, c⟩ => exact ⟨t, li, a, s _ _ b, c⟩
section
variable {X : Cx}
/-- sorted of pairs or of numbers -/
theorem call_sortE : CallR X (.builtin "sorted") (fun xs H Q => rSortedPO X.K xs H Q ∨ rSortedI X.K xs H Q) := fun pins s σ H xs us Q I r h => h.elim (cr_sortedPO pins s σ H xs us Q I r) (cr_sortedI pins s σ H xs us Q I r)
end
/-- the five as drawn, in order, due -/
structure Made5 (K : PySem.W.Frag) (B : Bx) (H : Hp) (q d : Addr) (ps qs : List Pr) (ns : List Int) (hs ss : List Pr) (li : List Int) (lo hi : Int) : Prop where
  bx : BoxAt B H
  f5 : ∃ a b l xs ys, F5 B H q a b l xs ys ps qs ns lo hi
  ok : Ok5 ps qs ns lo hi
  due : Due K B H d hs ss li lo hi
  s1 : SortP ps hs
  s2 : SortP qs ss
  s3 : SortI ns li
def preA (K : PySem.W.Frag) : L2.St → Hp → Prop := fun σ H => ∃ (sc : Addr) (zs : List Int), σ = L2.start Nlaw [.ref sc] ∧ SqL K H sc (zs.map V.int) ∧ zs.length ≤ 63
def posA (K : PySem.W.Frag) : L2.St → Hp → Prop := fun σ H => ∃ (sc : Addr) (B : Bx) (q d : Addr) (ps qs : List Pr) (ns : List Int) (hs ss : List Pr) (li : List Int) (lo hi : Int), Made5 K B H q d ps qs ns hs ss li lo hi ∧
  σ = [some (.ref sc), some (.ref B.b), some (.ref q), none, some (.ref d), none, none, none, none, none, none, none, none, none, none, none, none, none, none, none, none]
section
variable {P : Program} {w : World} {K : PySem.W.Frag} {mg : Str → Option Value} {base : Heap} {f : Addr} {cdv : Value} {A : Around} {outer : List Env} {s : Shared} {H0 : Hp} {E : XK} {c : CA} {C : Addr}
theorem blkA (N : LEnv P w K mg base c C) (hr : Room 8 (XL P w K mg base f cdv A outer s H0 E).A) : Does (XL P w K mg base f cdv A outer s H0 E) ((defBody sLaw).take 4) (preA K) (posA K) RtL := by
  have T := N.T
  refine Does.of (pss_cons (ps_set (i := 1) scLaw.nd rfl (Or.inr rfl) (calC N.box (hr.mono (by decide)) (pa_cons (pv 0) pa_nil)))
 (pss_cons (ps_set (i := 2) scLaw.nd rfl (Or.inl rfl) (pe_lst (pa_cons (calC N.row (hr.mono (by decide)) (pa_cons (pv 1) (pa_cons (pe_int) pa_nil))) (pa_cons (calC N.row (hr.mono (by decide)) (pa_cons (pv 1) (pa_cons (pe_int) pa_nil))) (pa_cons (pe_lc (own := [("k", 3)]) (g := gName 3) (tt := tYes) (te := tCall spNumber [] E0 (tCons (tVar 1) tNil)) rfl scLaw.nd (pi_range1 rfl T.range (pa_cons (calC N.take (hr.mono (by decide)) (pa_cons (pv 1) (pa_cons (pe_int) pa_nil))) pa_nil)) (blkOk_by (N := Nlaw) (sc := defScope sLaw) (by decide +kernel)) (fun _ _ _ _ _ => pg_name (i := 3) scLaw.nd rfl (Or.inl rfl)) (fun _ _ _ _ _ => pts_nil) (fun _ _ _ _ _ => calC N.number (hr.mono (by decide)) (pa_cons (pv 1) pa_nil))) pa_nil)))))
 (pss_cons (ps_set (i := 2) scLaw.nd rfl (Or.inl rfl) (pe_op op_cat (pv 2) (pe_lst (pa_cons (calC N.number (hr.mono (by decide)) (pa_cons (pv 1) pa_nil)) (pa_cons (calC N.number (hr.mono (by decide)) (pa_cons (pv 1) pa_nil)) pa_nil)))))
 (pss_one (ps_set (i := 4) scLaw.nd rfl (Or.inl rfl) (pe_op op_cat (pe_lc (own := [("x", 5)]) (g := gName 5) (tt := tYes) (te := tCB (rTupOf K) (tCons (tCB (rSortE K) (tCons (tVar 5) tNil)) tNil)) rfl scLaw.nd (pi_list (pe_slice sl_list (pv 2) (po_none) (po_some (pe_int)))) (blkOk_by (N := Nlaw) (sc := defScope sLaw) (by decide +kernel)) (fun _ _ _ _ _ => pg_name (i := 5) scLaw.nd rfl (Or.inl rfl)) (fun _ _ _ _ _ => pts_nil) (fun _ _ _ _ _ => pe_callTy call_tuple_of (by rfl) T.tuple (by decide +kernel) (pa_cons (pe_callB call_sortE (by rfl) T.sorted (by decide +kernel) (pa_cons (pv 5) pa_nil)) pa_nil))) (pe_slice sl_list (pv 2) (po_some (pe_int)) (po_none)))))))) ?_
  rintro σ H ⟨sc, zs, rfl, hS, hzl⟩ D nx rt
  refine ⟨_, rfl, sc, zs, rfl, hS, hzl, fun B H1 s1 hB nb nl => ?_⟩
  refine ⟨_, rfl, B, rfl, hB, fun a xs ps H2 lp gp g2 na ea ra => ?_⟩
  refine ⟨_, rfl, B, rfl, g2.bag, fun b ys qs H3 lq gq g3 nb2 eb rb => ?_⟩
  refine ⟨_, rfl, B, _, rfl, g3.bag, by decide, by decide, fun d H4 d0 d1 g4 => ?_⟩
  obtain ⟨n, rfl⟩ : ∃ n : Nat, d = n := ⟨d.toNat, by omega⟩
  have g14 := (g2.trans g3).trans g4
  have aa := hB.away na
  have bb := g2.bag.away nb2
  refine ⟨_, rfl, by omega, by omega, fun l hl0 => lc_range (lo := 0) (n := n) (g := gName 3) (tt := tYes) (fun i H5 => Go B H4 H5 ∧ ∃ ns : List Int, H5 l = some (.lst (ns.map V.int)) ∧ ns.length = i ∧ ∀ x ∈ ns, N9 x) ⟨(Go.refl g4.bag).new hl0, [], upd_same, rfl, fun x h => by cases h⟩ ?_ ?_⟩
  · rintro i H5 hi ⟨g5, ns, e5, l5, o5⟩
    refine ⟨rfl, _, rfl, B, rfl, g5.bag, fun m H6 m0 m1 g6 => ?_⟩
    have ll := g4.bag.away hl0
    have e6 := g6.keep ll.1 ll.2 e5
    refine ⟨_, e6, by rw [List.length_map, sizeLine_eq]; omega, (g5.trans g6).turn g4.bag hl0, ns ++ [m], by rw [upd_same, List.map_append]; rfl, by rw [List.length_append, l5]; rfl, fun x hx => ?_⟩
    rcases List.mem_append.mp hx with hx | hx
    · exact o5 x hx
    · rw [List.mem_singleton.mp hx]
      exact ⟨m0, m1⟩
  rintro H5 ⟨g5, ns, e5, l5, o5⟩
  have ll := g4.bag.away hl0
  have ea5 := ((g3.trans g4).trans g5).keep aa.1 aa.2 ea
  have eb5 := (g4.trans g5).keep bb.1 bb.2 eb
  have ra5 := ra.turn fun t ys h => ((g3.trans g4).trans g5).tup g2.bag h
  have rb5 := rb.turn fun t ys h => (g4.trans g5).tup g3.bag h
  have bg5 := g5.bag
  clear ea eb ra rb g14 s1 hS
  refine ⟨(by show 3 ≤ sizeLine; decide), fun q1 hq1 => ?_⟩
  have g6 := (Go.refl bg5).new (o := .lst [.ref a, .ref b, .ref l]) hq1
  have e6 : upd H5 q1 (.lst [.ref a, .ref b, .ref l]) q1 = some (.lst [.ref a, .ref b, .ref l]) := upd_same
  have nq1 := bg5.away hq1
  generalize upd H5 q1 (.lst [.ref a, .ref b, .ref l]) = H6 at g6 e6 ⊢
  refine ⟨_, rfl, _, rfl, B, rfl, g6.bag, fun lo H7 lo0 lo1 g7 => ?_⟩
  refine ⟨_, rfl, B, rfl, g7.bag, fun hi H8 hi0 hi1 g8 => ?_⟩
  refine ⟨(by show 2 ≤ sizeLine; decide), fun q2 hq2 => ?_⟩
  have g68 := (g7.trans g8).new (o := .lst [.int lo, .int hi]) hq2
  have e8 := g68.keep nq1.1 nq1.2 e6
  refine ⟨q1, q2, _, _, rfl, rfl, e8, upd_same, (by show 5 ≤ sizeLine; decide), fun q hq => ?_⟩
  have g9 := (g6.trans g68).new (o := .lst ([.ref a, .ref b, .ref l] ++ [.int lo, .int hi])) hq
  have nq := g68.bag.away hq
  have eq9 : upd (upd H8 q2 (.lst [.int lo, .int hi])) q (.lst ([.ref a, .ref b, .ref l] ++ [.int lo, .int hi])) q = some (.lst [.ref a, .ref b, .ref l, .int lo, .int hi]) := upd_same
  generalize upd (upd H8 q2 (.lst [.int lo, .int hi])) q (.lst ([.ref a, .ref b, .ref l] ++ [.int lo, .int hi])) = H9 at g9 eq9 ⊢
  have F : F5 B H9 q a b l xs ys ps qs ns lo hi := ⟨eq9, g9.keep aa.1 aa.2 ea5, g9.keep bb.1 bb.2 eb5, g9.keep ll.1 ll.2 e5, ra5.turn fun t ys h => g9.tup bg5 h, rb5.turn fun t ys h => g9.tup bg5 h, nq, aa, bb, ll⟩
  have bg9 := g9.bag
  clear ea5 eb5 e5 ra5 rb5 e6 e8 eq9 g9 g68 g8 g7 g6 bg5 g5 g4 g3 g2
  refine ⟨_, rfl, _, rfl, q, _, rfl, SqL.of F.hq, fun p hp => ?_⟩
  have s10 := same_new (o := .lst [.ref a, .ref b, .ref l]) hp
  have e10 : upd H9 p (.lst [.ref a, .ref b, .ref l]) p = some (.lst [.ref a, .ref b, .ref l]) := upd_same
  rw [show cutV [V.ref a, V.ref b, V.ref l, V.int lo, V.int hi] none (some 3) = [V.ref a, V.ref b, V.ref l] from rfl]
  generalize upd H9 p (.lst [.ref a, .ref b, .ref l]) = H10 at s10 e10 ⊢
  have one : ∀ {x : Addr} {zs : List V} {rs : List Pr} {H11 : Hp} {D1 : Addr} {Qn : V → Hp → Prop}, H11 x = some (.lst zs) → RawVs H11 zs rs → (∃ acc, H11 D1 = some (.lst acc)) → (∀ t H12 xs' hs, Same H11 H12 → delH H12 D1 t = some (.tup xs') → RawVs (delH H12 D1) xs' hs → SortP rs hs → Qn (.ref t) H12) →
      rSortE K [.ref x] H11 fun v H12 => rTupOf K [v] H12 Qn := fun {x zs rs H11 D1 Qn} ex rx hD kk => by
    obtain ⟨acc, eD⟩ := hD
    refine .inl ⟨x, zs, keyIn H11, rfl, SqL.of ex, fun z hz => rx.mem hz, fun ys p h1 h2 hp => ⟨p, ys, rfl, .inl ⟨SqL.of upd_same, fun t ht => ?_⟩⟩⟩
    have s12 := Same.trans (same_new (o := .lst ys) hp) (same_new (o := .tup ys) ht)
    have eD' := s12 _ _ eD
    exact kk t _ ys _ s12 (del_tup eD' upd_same) ((rx.perm h2.perm).turn fun u us h => del_tup eD' (s12 _ _ h)) (sort_keys rx.keys h1 h2)
  refine ⟨p, rfl, ⟨_, SqL.of e10⟩, fun D1 hD1 => lc_made (K := K) (a := p) (rDue ps qs ns) (rDue.mono ps qs ns) hD1 (SqL.of e10) (by show 3 < sizeLine; decide) ?_ ?_⟩
  · rintro i x H11 hi s11 ⟨acc, eD⟩ Qn Z kk
    have s9 := Same.trans s10 s11
    match i, hi with
    | 0, hi =>
      cases hi
      refine ⟨rfl, _, rfl, one (s9 _ _ F.ha) (F.pa.turn fun t ys h => s9 _ _ h) ⟨acc, eD⟩ fun t H12 xs' hs s12 h1 h2 h3 => kk _ _ s12 ⟨t, xs', hs, rfl, h1, h2, h3⟩⟩
    | 1, hi =>
      cases hi
      refine ⟨rfl, _, rfl, one (s9 _ _ F.hb) (F.pb.turn fun t ys h => s9 _ _ h) ⟨acc, eD⟩ fun t H12 xs' hs s12 h1 h2 h3 => kk _ _ s12 ⟨t, xs', hs, rfl, h1, h2, h3⟩⟩
    | 2, hi =>
      cases hi
      refine ⟨rfl, _, rfl, .inr ⟨l, ns, rfl, SqL.of (s9 _ _ F.hl), fun li l2 pe2 so2 hl2 => ⟨l2, _, rfl, .inl ⟨SqL.of upd_same, fun l3 hl3 => ?_⟩⟩⟩⟩
      have s12 := Same.trans (same_new (o := .lst (li.map V.int)) hl2) (same_new (o := .tup (li.map V.int)) hl3)
      exact kk _ _ s12 ⟨l3, li, rfl, del_tup (s12 _ _ eD) upd_same, pe2, so2⟩
  rintro H11 rs s11 eD l11 o11
  obtain ⟨r0, r1, r2, rfl⟩ : ∃ r0 r1 r2, rs = [r0, r1, r2] := by
    match rs, l11 with
    | [r0, r1, r2], _ => exact ⟨r0, r1, r2, rfl⟩
  obtain ⟨t0, xs', hs, rfl, t0e, t0r, so0⟩ := o11 0 _ rfl
  obtain ⟨t1, ys', ss, rfl, t1e, t1r, so1⟩ := o11 1 _ rfl
  obtain ⟨t2, li, rfl, t2e, so2⟩ := o11 2 _ rfl
  have s911 := Same.trans s10 s11
  refine ⟨_, rfl, _, rfl, q, _, rfl, SqL.of (s911 _ _ F.hq), fun p2 hp2 => ?_⟩
  rw [show cutV [V.ref a, V.ref b, V.ref l, V.int lo, V.int hi] (some 3) none = [V.int lo, V.int hi] from rfl]
  have s12 := same_new (o := .lst [.int lo, .int hi]) hp2
  refine ⟨D1, p2, _, _, rfl, rfl, s12 _ _ eD, upd_same, (by show 5 ≤ sizeLine; decide), fun d hd => ?_⟩
  have s13 := Same.trans s12 (same_new (o := .lst ([.ref t0, .ref t1, .ref t2] ++ [.int lo, .int hi])) hd)
  have g13 := ((Go.refl bg9).same (Same.trans s911 s13))
  have nd := bg9.away (sN (Same.trans s911 s12) hd)
  refine nx _ _ ⟨sc, B, q, d, ps, qs, ns, hs, ss, li, lo, hi, ⟨g13.bag, ⟨a, b, l, xs, ys, F.go bg9 g13⟩, ⟨gp, gq, o5, ⟨lo0, lo1⟩, ⟨hi0, hi1⟩, by omega, by omega, by omega⟩, ⟨nd, t0, t1, t2, xs', ys', upd_same, s13 _ _ t0e, s13 _ _ t1e, s13 _ _ t2e, t0r.turn fun t us h => s13 _ _ h, t1r.turn fun t us h => s13 _ _ h⟩, so0, so1, so2⟩, rfl⟩
end
end Lw
namespace Lw
open PySem PySem.Spec PyProof.Rows L2 XV TL XM DO
theorem LivesAt.updL {K : PySem.W.Frag} {C : Addr} {M : Hp} {p g : Addr} {hs ss : List Pr} {ls : List Int} {lo hi : Int} {xs : List V} {o : HO} (h : LivesAt K C M p hs ss ls lo hi) (hg : M g = some (.lst xs)) : LivesAt K C (upd M g o) p hs ss ls lo hi := by
  have kp : ∀ {a : Addr} {u : HO}, (∀ zs, u ≠ .lst zs) → M a = some u → upd M g o a = some u := fun {a u} hu e => by
    rw [upd_ne (fun z => by rw [z, hg] at e; cases e; exact hu _ rfl)]
    exact e
  obtain ⟨dx, a, b, l, us, vs, h1, h2, h3, h4, h5, h6⟩ := h.ex
  have sq : ∀ {t : Addr} {xs : List V}, SqT K M t xs → SqT K (upd M g o) t xs := fun {t xs} e => by
    rcases e with (e | ⟨v, e⟩) | e
    · exact .inl (.inl (kp (by intro z h; cases h) e))
    · exact .inl (.inr ⟨v, kp (by intro z h; cases h) e⟩)
    · exact .inr e
  exact ⟨dx, a, b, l, us, vs, kp (by intro z h; cases h) h1, kp (by intro z h; cases h) h2, kp (by intro z h; cases h) h3, kp (by intro z h; cases h) h4, ⟨h5.1, fun i x hx => by
    obtain ⟨t, p, a, b, c⟩ := h5.2 i x hx
    exact ⟨t, p, a, b, sq c⟩⟩, ⟨h6.1, fun i x hx => by
    obtain ⟨t, p, a, b, c⟩ := h6.2 i x hx
    exact ⟨t, p, a, b, sq c⟩⟩⟩
theorem Made5.go {K : PySem.W.Frag} {B : Bx} {H H' : Hp} {q d : Addr} {ps qs : List Pr} {ns : List Int} {hs ss : List Pr} {li : List Int} {lo hi : Int} (h : Made5 K B H q d ps qs ns hs ss li lo hi) (g : Go B H H') : Made5 K B H' q d ps qs ns hs ss li lo hi := by
  obtain ⟨a, b, l, xs, ys, f⟩ := h.f5
  exact ⟨g.bag, ⟨a, b, l, xs, ys, f.go h.bx g⟩, h.ok, h.due.go h.bx g, h.s1, h.s2, h.s3⟩
theorem no_wrong {ps : List Pr} (h : ∀ x ∈ ps, GoodP x) : ps.any wrongP = false := by
  rw [List.any_eq_false]
  intro p hp hw
  obtain ⟨a, b, c⟩ := h p hp
  have := of_decide_eq_true hw
  omega
/-- five as it stands, as data -/
def rawD (ps qs : List Pr) (ns : List Int) (lo hi : Int) : List PyData := [.list (ps.map pD), .list (qs.map pD), .list (ns.map PyData.int), .int lo, .int hi]
theorem shaped_raw (ps qs : List Pr) (ns : List Int) (lo hi : Int) : SeqAt.shaped (.list (rawD ps qs ns lo hi)) = true := by
  unfold SeqAt.shaped
  rw [Bool.and_eq_true]
  refine ⟨?_, decide_eq_true ?_⟩
  · show PyData.canLayAll0 (rawD ps qs ns lo hi) = true
    simp only [rawD, PyData.canLayAll0, PyData.canLay0, can_pairs, can_ints, Bool.and_self]
  · have h1 := dep_pairs ps
    have h2 := dep_pairs qs
    have h3 := dep_ints ns
    show PyData.depthAll (rawD ps qs ns lo hi) + 1 ≤ 64
    simp only [rawD, PyData.depthAll, PyData.depth]
    omega
theorem eqv_raw (ps qs : List Pr) (ns : List Int) (lo hi : Int) : PyData.eqv (.list (rawD ps qs ns lo hi)) (.list (rawD ps qs ns lo hi)) = true := by
  show (PyData.eqvAll (ps.map pD) (ps.map pD) && (PyData.eqvAll (qs.map pD) (qs.map pD) && (PyData.eqvAll (ns.map PyData.int) (ns.map PyData.int) && ((lo == lo) && ((hi == hi) && true))))) = true
  rw [eqv_pairs, eqv_pairs, eqv_ints]
  simp
theorem F5.dp {K : PySem.W.Frag} {B : Bx} {H : Hp} {q a b l : Addr} {xs ys : List V} {ps qs : List Pr} {ns : List Int} {lo hi : Int} (h : F5 B H q a b l xs ys ps qs ns lo hi) : Dp K H (.ref q) (.list (rawD ps qs ns lo hi)) :=
  .lst (SqL.of h.hq) (.cons (.lst (SqL.of h.ha) (dp_pairs h.pa.pairs)) (.cons (.lst (SqL.of h.hb) (dp_pairs h.pb.pairs)) (.cons (.lst (SqL.of h.hl) (dp_ints ns)) (.cons (.int lo) (.cons (.int hi) .nil)))))
theorem SortP.sml {ps hs qs ss : List Pr} {ns li : List Int} {lo hi : Int} (o : Ok5 ps qs ns lo hi) (h1 : SortP ps hs) (h2 : SortP qs ss) (h3 : SortI ns li) : Ok5 hs ss li lo hi := o.perm h1.perm h2.perm h3.perm
def posB (K : PySem.W.Frag) (C : Addr) : L2.St → Hp → Prop := fun σ H => ∃ (sc : Addr) (B : Bx) (q d : Addr) (ps qs : List Pr) (ns : List Int) (hs ss : List Pr) (li : List Int) (lo hi : Int) (x6 : Option V) (p : Addr), Made5 K B H q d ps qs ns hs ss li lo hi ∧ LivesAt K C H p hs ss li lo hi ∧
  σ = [some (.ref sc), some (.ref B.b), some (.ref q), none, some (.ref d), none, x6, some (.ref p), none, none, none, none, none, none, none, none, none, none, none, none, none]
section
variable {P : Program} {w : World} {K : PySem.W.Frag} {mg : Str → Option Value} {base : Heap} {f : Addr} {cdv : Value} {A : Around} {outer : List Env} {s : Shared} {H0 : Hp} {E : XK} {c : CA} {C : Addr}
theorem blkB (N : LEnv P w K mg base c C) (hg : (XL P w K mg base f cdv A outer s H0 E).A.guards = some []) (hr : Room 8 (XL P w K mg base f cdv A outer s H0 E).A) : Does (XL P w K mg base f cdv A outer s H0 E) (((defBody sLaw).drop 4).take 5) (posA K) (posB K C) RtL := by
  have T := N.T
  refine Does.of (pss_cons (ps_set (i := 6) scLaw.nd rfl (Or.inl rfl) (pe_op op_cat (pe_lst (pa_cons (pe_callTy call_listL (by rfl) T.list (by decide +kernel) (pa_cons (pe_ix ix_list (pv 2) (pe_int) (fun _ _ => rfl)) pa_nil)) (pa_cons (pe_callTy call_listL (by rfl) T.list (by decide +kernel) (pa_cons (pe_ix ix_list (pv 2) (pe_int) (fun _ _ => rfl)) pa_nil)) (pa_cons (pe_callTy call_listL (by rfl) T.list (by decide +kernel) (pa_cons (pe_ix ix_list (pv 2) (pe_int) (fun _ _ => rfl)) pa_nil)) pa_nil)))) (pe_slice sl_list (pv 2) (po_some (pe_int)) (po_none))))
 (pss_cons (ps_set (i := 7) scLaw.nd rfl (Or.inl rfl) (calC N.madeT (hr.mono (by decide)) (pa_cons (pv 6) pa_nil)))
 (pss_cons (ps_if (PW.pt (pw_or (pt_not (pt_val (calG N.just hg (hr.mono (by decide)) (pa_cons (calC N.told (hr.mono (by decide)) (pa_cons (pv 7) pa_nil)) (pa_cons (pv 4) pa_nil))))) (pw_or1 (pt_cmpR (op_neD (by exact un64 hr)) (pv 6) (pv 2) (nomark _)))))
 (pss_one (ps_ret (pe_bl)))
 (pss_nil))
 (pss_cons (ps_expr (pe_bm PySem.F.plainAttrs_list PySem.F.slot_list_append PySem.F.type_list_append mt_append (pe_ix ix_list (pv 6) (pe_int) (fun _ _ => rfl)) (pa_cons (pe_tup (pa_cons (pe_int) (pa_cons (pe_int) pa_nil))) pa_nil)))
 (pss_one (ps_expr (pe_bm PySem.F.plainAttrs_list PySem.F.slot_list_append PySem.F.type_list_append mt_append (pe_ix ix_list (pv 6) (pe_int) (fun _ _ => rfl)) (pa_cons (pe_int) pa_nil)))))))) ?_
  rintro σ H ⟨sc, B, q, d, ps, qs, ns, hs, ss, li, lo, hi, M5, rfl⟩ D nx rt
  obtain ⟨a, b, l, xs, ys, F⟩ := M5.f5
  refine ⟨_, rfl, q, _, 0, .ref a, rfl, rfl, SqL.of F.hq, rfl, a, _, rfl, SqL.of F.ha, fun g0 h0 => ?_⟩
  have s1 := same_new (o := .lst xs) h0
  have e0 : upd H g0 (.lst xs) g0 = some (.lst xs) := upd_same
  generalize upd H g0 (.lst xs) = H1 at s1 e0 ⊢
  refine ⟨_, rfl, q, _, 1, .ref b, rfl, rfl, SqL.of (s1 _ _ F.hq), rfl, b, _, rfl, SqL.of (s1 _ _ F.hb), fun g1 h1 => ?_⟩
  have s2 := same_new (o := .lst ys) h1
  have e1 : upd H1 g1 (.lst ys) g1 = some (.lst ys) := upd_same
  have s12 := Same.trans s1 s2
  have e0 := s2 _ _ e0
  generalize upd H1 g1 (.lst ys) = H2 at s2 s12 e0 e1 ⊢
  refine ⟨_, rfl, q, _, 2, .ref l, rfl, rfl, SqL.of (s12 _ _ F.hq), rfl, l, _, rfl, SqL.of (s12 _ _ F.hl), fun g2 h2 => ?_⟩
  have s3 := same_new (o := .lst (ns.map V.int)) h2
  have e2 : upd H2 g2 (.lst (ns.map V.int)) g2 = some (.lst (ns.map V.int)) := upd_same
  have s13 := Same.trans s12 s3
  have e0 := s3 _ _ e0
  have e1 := s3 _ _ e1
  generalize upd H2 g2 (.lst (ns.map V.int)) = H3 at s3 s13 e0 e1 e2 ⊢
  refine ⟨(by show 3 ≤ sizeLine; decide), fun p1 hp1 => ?_⟩
  have s4 := same_new (o := .lst [.ref g0, .ref g1, .ref g2]) hp1
  have n4 : upd H3 p1 (.lst [.ref g0, .ref g1, .ref g2]) p1 = some (.lst [.ref g0, .ref g1, .ref g2]) := upd_same
  generalize upd H3 p1 (.lst [.ref g0, .ref g1, .ref g2]) = H4 at s4 n4 ⊢
  refine ⟨_, rfl, _, rfl, q, _, rfl, SqL.of (s4 _ _ (s13 _ _ F.hq)), fun p2 hp2 => ?_⟩
  rw [show cutV [V.ref a, V.ref b, V.ref l, V.int lo, V.int hi] (some 3) none = [V.int lo, V.int hi] from rfl]
  have s5 := Same.trans s4 (same_new (o := .lst [.int lo, .int hi]) hp2)
  refine ⟨p1, p2, _, _, rfl, rfl, same_new hp2 _ _ n4, upd_same, (by show 5 ≤ sizeLine; decide), fun gv hgv => ?_⟩
  have s6 := Same.trans s5 (same_new (o := .lst ([.ref g0, .ref g1, .ref g2] ++ [.int lo, .int hi])) hgv)
  have ev : upd (upd H4 p2 (.lst [.int lo, .int hi])) gv (.lst ([.ref g0, .ref g1, .ref g2] ++ [.int lo, .int hi])) gv = some (.lst [.ref g0, .ref g1, .ref g2, .int lo, .int hi]) := upd_same
  have gv0 : H gv = none := sN s13 (sN s5 hgv)
  have g00 : H g0 = none := h0
  have g10 : H g1 = none := sN s1 h1
  have g20 : H g2 = none := sN s12 h2
  generalize upd (upd H4 p2 (.lst [.int lo, .int hi])) gv (.lst ([.ref g0, .ref g1, .ref g2] ++ [.int lo, .int hi])) = H6 at s6 ev ⊢
  have s16 := Same.trans s13 s6
  have G : F5 B H6 gv g0 g1 g2 xs ys ps qs ns lo hi := ⟨ev, s6 _ _ e0, s6 _ _ e1, s6 _ _ e2, F.pa.turn fun t us h => s16 _ _ h, F.pb.turn fun t us h => s16 _ _ h, M5.bx.away gv0, M5.bx.away g00, M5.bx.away g10, M5.bx.away g20⟩
  have n02 : g0 ≠ g2 := ne_of_none (s2 _ _ (by assumption)) h2
  have n0v : g0 ≠ gv := ne_of_none (s5 _ _ e0) hgv
  have n2v : g2 ≠ gv := ne_of_none (s5 _ _ e2) hgv
  clear e0 e1 e2 n4 ev s6 s5 s4 s3 s2 s12 s13 s1
  have w1 := no_wrong M5.ok.hp
  have w2 := no_wrong M5.ok.hq
  refine ⟨_, rfl, gv, g0, g1, g2, ps, qs, ns, lo, hi, rfl, SqL.of G.hq, ⟨xs, .inl (SqL.of G.ha), G.pa.pairs⟩, ⟨ys, .inl (SqL.of G.hb), G.pb.pairs⟩, SqL.of G.hl, Nat.le_trans M5.ok.lp (by decide), Nat.le_trans M5.ok.lq (by decide), fun w => absurd (w.symm.trans w1) (by decide), fun _ w => absurd (w.symm.trans w2) (by decide), fun _ _ p H7 hs' ss' li' hp s7 so1 so2 so3 lv => ?_⟩
  obtain rfl := so1.one M5.s1 (List.Perm.refl _)
  obtain rfl := so2.one M5.s2 (List.Perm.refl _)
  obtain rfl := so3.one M5.s3 (List.Perm.refl _)
  have s17 := Same.trans s16 s7
  have sm := (SortP.sml M5.ok M5.s1 M5.s2 M5.s3).sml
  refine ⟨_, rfl, p, _, _, _, _, _, rfl, lv, fun tq H8 s8 htq dp => ?_⟩
  have s18 := Same.trans s17 s8
  have M8 := M5.go ((Go.refl M5.bx).same s18)
  refine ⟨_, rfl, ?_⟩
  delta tNil
  refine spJust_five sm dp M8.due.dp ⟨_, rfl, iteF ?_⟩
  have G8 := (G.go ((Go.refl M5.bx).same s16).bag ((Go.refl ((Go.refl M5.bx).same s16).bag).same (Same.trans s7 s8)))
  have F8 := F.go M5.bx ((Go.refl M5.bx).same s18)
  refine ⟨_, rfl, _, rfl, _, _, G8.dp, F8.dp, shaped_raw .., shaped_raw .., ?_⟩
  rw [eqv_raw]
  refine ⟨_, rfl, iteF ?_⟩
  have e0 := G8.ha
  have ev := G8.hq
  refine ⟨_, rfl, gv, _, 0, .ref g0, rfl, rfl, SqL.of ev, rfl, tyL e0, (by show 2 ≤ sizeLine; decide), fun t ht => ?_⟩
  have s9 := same_new (o := .tup [.int 0, .int 1]) ht
  have lv9 := (lv.mono s8).mono s9
  have s19 := Same.trans s18 s9
  have e0' := s9 _ _ e0
  have ev' := s9 _ _ ev
  have e2' := s9 _ _ G8.hl
  have lx : xs.length ≤ 10 := by rw [F.pa.1]; exact M5.ok.lp
  generalize upd H8 t (.tup [.int 0, .int 1]) = H9 at s9 lv9 s19 e0' ev' e2' ⊢
  refine ⟨g0, xs, _, rfl, rfl, e0', by rw [sizeLine_eq]; omega, ?_⟩
  have lv10 := lv9.updL (o := .lst (xs ++ [.ref t])) e0'
  have g10' := ((Go.refl M5.bx).same s19).turn (o := .lst (xs ++ [.ref t])) M5.bx g00
  have ev2 : upd H9 g0 (.lst (xs ++ [.ref t])) gv = some (.lst [.ref g0, .ref g1, .ref g2, .int lo, .int hi]) := by rw [upd_ne n0v.symm]; exact ev'
  have e2 : upd H9 g0 (.lst (xs ++ [.ref t])) g2 = some (.lst (ns.map V.int)) := by rw [upd_ne n02.symm]; exact e2'
  generalize upd H9 g0 (.lst (xs ++ [.ref t])) = H10 at lv10 g10' ev2 e2 ⊢
  have ln : (ns.map V.int).length ≤ 10 := by rw [List.length_map]; exact M5.ok.ln
  refine ⟨_, rfl, gv, _, 2, .ref g2, rfl, rfl, SqL.of ev2, rfl, tyL e2, g2, _, _, rfl, rfl, e2, by rw [sizeLine_eq]; omega, ?_⟩
  exact nx _ _ ⟨sc, B, q, d, ps, qs, ns, _, _, _, lo, hi, _, p, M5.go (g10'.turn M5.bx g20), lv10.updL e2, rfl⟩
end
end Lw
namespace Lw
open PySem PySem.Spec PyProof.Rows L2 XV TL XM DO
theorem lf_text {h s l : Addr} {lo hi n : Int} : (lf h s l lo hi n).lookup ("text" : Str) = none := by
  rw [lf, lookup_putF, if_neg (by decide +kernel), lookup_putF, if_neg (by decide +kernel), lookup_putF, if_neg (by decide +kernel), lookup_putF, if_neg (by decide +kernel), lookup_putF, if_neg (by decide +kernel), lookup_putF, if_neg (by decide +kernel)]
  rfl
theorem SortP.len {ps hs : List Pr} (h : SortP ps hs) : hs.length = ps.length := h.perm.length_eq
theorem SortI.len {ps hs : List Int} (h : SortI ps hs) : hs.length = ps.length := h.perm.length_eq
theorem LivesAt.ins {K : PySem.W.Frag} {C : Addr} {M : Hp} {p : Addr} {hs ss : List Pr} {ls : List Int} {lo hi : Int} (h : LivesAt K C M p hs ss ls lo hi) : ∃ dx a b l, M p = some (.ins C dx (lf a b l lo hi ls.length)) := by
  obtain ⟨dx, a, b, l, xs, ys, h1, _⟩ := h.ex
  exact ⟨dx, a, b, l, h1⟩
def posC (K : PySem.W.Frag) (C : Addr) : L2.St → Hp → Prop := fun σ H => ∃ (sc : Addr) (B : Bx) (q d : Addr) (ps qs : List Pr) (ns : List Int) (hs ss : List Pr) (li : List Int) (lo hi : Int) (x6 : Option V) (p : Addr), Made5 K B H q d ps qs ns hs ss li lo hi ∧ LivesAt K C H p hs ss li lo hi ∧
  σ = [some (.ref sc), some (.ref B.b), some (.ref q), none, some (.ref d), none, x6, some (.ref p), some (.str (lvT hs ss li lo hi)), none, none, none, none, none, none, none, none, none, none, none, none]
section
variable {P : Program} {w : World} {K : PySem.W.Frag} {mg : Str → Option Value} {base : Heap} {f : Addr} {cdv : Value} {A : Around} {outer : List Env} {s : Shared} {H0 : Hp} {E : XK} {c : CA} {C : Addr}
theorem blkC (N : LEnv P w K mg base c C) (hg : (XL P w K mg base f cdv A outer s H0 E).A.guards = some []) (hr : Room 8 (XL P w K mg base f cdv A outer s H0 E).A) : Does (XL P w K mg base f cdv A outer s H0 E) ((((defBody sLaw).drop 4).drop 5).take 3) (posB K C) (posC K C) RtL := by
  have T := N.T
  have L := N.L
  obtain ⟨f1, fd1, m1, b1, g1⟩ := N.text.ex
  obtain ⟨f2, fd2, m2, b2, g2⟩ := N.len.ex
  refine Does.of (pss_cons (ps_set (i := 8) scLaw.nd rfl (Or.inl rfl) (calC N.written (hr.mono (by decide)) (pa_cons (pv 4) pa_nil)))
 (pss_cons (ps_if (PW.pt (pw_or (pt_not (pt_val (calG N.just hg (hr.mono (by decide)) (pa_cons (calC N.told (hr.mono (by decide)) (pa_cons (pv 7) pa_nil)) (pa_cons (pv 4) pa_nil))))) (pw_or1 (pt_not (pt_val (calG N.just hg (hr.mono (by decide)) (pa_cons (pe_meth0 (pv 7) L.cl m1 g1 (hr.mono (by decide)) b1 .nil pass0) (pa_cons (pv 8) pa_nil))))))))
 (pss_one (ps_ret (pe_bl)))
 (pss_nil))
 (pss_one (ps_if (pt_not (pt_val (calG N.just hg (hr.mono (by decide)) (pa_cons (pe_lst (pa_cons (pe_fld (pv 7) rfl) (pa_cons (pe_callB (call_lenI g2 (hr.mono (by decide)) m2.at_ m2.fn b2 pass0) (by rfl) T.len (by decide +kernel) (pa_cons (pv 7) pa_nil)) pa_nil))) (pa_cons (pe_lst (pa_cons (pe_callB call_len_seq (by rfl) T.len (by decide +kernel) (pa_cons (pe_ix ix_list (pv 4) (pe_int) (fun _ _ => rfl)) pa_nil)) (pa_cons (pe_op op_add (pe_callB call_len_seq (by rfl) T.len (by decide +kernel) (pa_cons (pe_ix ix_list (pv 4) (pe_int) (fun _ _ => rfl)) pa_nil)) (pe_callB call_len_seq (by rfl) T.len (by decide +kernel) (pa_cons (pe_ix ix_list (pv 4) (pe_int) (fun _ _ => rfl)) pa_nil))) pa_nil))) pa_nil)))))
 (pss_one (ps_ret (pe_bl)))
 (pss_nil))))) ?_
  rintro σ H ⟨sc, B, q, d, ps, qs, ns, hs, ss, li, lo, hi, x6, p, M5, lv, rfl⟩ D nx rt
  have ok := SortP.sml M5.ok M5.s1 M5.s2 M5.s3
  have sm := ok.sml
  obtain ⟨a, b, l, xs, ys, d1, d2, d3, d4, d5, d6⟩ := M5.due.ex
  refine ⟨_, rfl, d, a, b, l, hs, ss, li, lo, hi, rfl, SqL.of d1, ⟨xs, .inr (SqT.of d2), d5.pairs⟩, ⟨ys, .inr (SqT.of d3), d6.pairs⟩, .inr (SqT.of d4), sm, fun H1 s1 => ?_⟩
  refine ⟨_, rfl, p, _, _, _, _, _, rfl, lv.mono s1, fun tq H2 s2 htq dp => ?_⟩
  have s12 := Same.trans s1 s2
  have M2 := M5.go ((Go.refl M5.bx).same s12)
  refine ⟨_, rfl, ?_⟩
  delta tNil
  refine spJust_five sm dp M2.due.dp ⟨_, rfl, iteF ?_⟩
  have lv2 := lv.mono s12
  obtain ⟨dx, u1, u2, u3, ei⟩ := lv2.ins
  refine ⟨_, rfl, p, dx, _, rfl, ei, lf_text, p, _, _, _, _, _, rfl, lv2, sm, fun H3 s3 => ?_⟩
  refine ⟨_, rfl, ?_⟩
  refine spJust_str (lo_lvT hs ss li lo hi) (Nat.le_trans (lvT_len sm) (by decide)) ⟨_, rfl, iteF ?_⟩
  have s13 := Same.trans s12 s3
  have lv3 := lv2.mono s3
  have ei3 := s3 _ _ ei
  refine ⟨_, rfl, p, C, dx, _, _, rfl, ei3, L.cl, L.nha, lf_handles, ?_⟩
  refine ⟨_, rfl, p, dx, _, rfl, ei3, p, _, _, _, _, _, rfl, lv3, ?_, fun H4 s4 => ⟨_, rfl, ?_, ?_⟩⟩
  · have := ok.lp
    have := ok.lq
    omega
  · have := ok.lp
    have := ok.lq
    omega
  refine ⟨(by show 2 ≤ sizeLine; decide), fun p1 hp1 => ?_⟩
  have s5 := same_new (o := .lst [.int li.length, .int ((hs.length : Int) + ss.length)]) hp1
  have e5 : upd H4 p1 (.lst [.int li.length, .int ((hs.length : Int) + ss.length)]) p1 = some (.lst [.int li.length, .int ((hs.length : Int) + ss.length)]) := upd_same
  generalize upd H4 p1 (.lst [.int li.length, .int ((hs.length : Int) + ss.length)]) = H5 at s5 e5 ⊢
  have s15 := Same.trans (Same.trans s13 s4) s5
  refine ⟨_, rfl, d, _, 2, .ref l, rfl, rfl, SqL.of (s15 _ _ d1), rfl, l, _, rfl, .inr (SqT.of (s15 _ _ d4)), ?_⟩
  refine ⟨_, rfl, d, _, 0, .ref a, rfl, rfl, SqL.of (s15 _ _ d1), rfl, a, _, rfl, .inr (SqT.of (s15 _ _ d2)), ?_⟩
  refine ⟨_, rfl, d, _, 1, .ref b, rfl, rfl, SqL.of (s15 _ _ d1), rfl, b, _, rfl, .inr (SqT.of (s15 _ _ d3)), ?_⟩
  refine ⟨_, _, rfl, rfl, (by show 2 ≤ sizeLine; decide), fun p2 hp2 => ?_⟩
  rw [List.length_map, d5.1, d6.1]
  have s6 := same_new (o := .lst [.int li.length, .int ((hs.length : Int) + ss.length)]) hp2
  refine spJust_two (m := li.length) (n := (hs.length : Int) + ss.length) ?_ ?_ (SqL.of (s6 _ _ e5)) (SqL.of upd_same) ⟨_, rfl, iteF ?_⟩
  · have := ok.ln
    unfold Sml
    omega
  · have := ok.lp
    have := ok.lq
    unfold Sml
    omega
  have sf := Same.trans s15 s6
  exact nx _ _ ⟨sc, B, q, d, ps, qs, ns, hs, ss, li, lo, hi, x6, p, M5.go ((Go.refl M5.bx).same sf), lv.mono sf, rfl⟩
end
end Lw
namespace Lw
open PySem PySem.Spec PyProof.Rows L2 XV TL XM DO
theorem BoxAt.del {B : Bx} {H : Hp} {D : Addr} (h : BoxAt B H) (n1 : D ≠ B.b) (n2 : D ≠ B.l) : BoxAt B (delH H D) := by
  obtain ⟨i, m, c, e, r⟩ := h.ex
  obtain ⟨ns, e2, r2⟩ := h.ls
  exact ⟨⟨i, m, c, by rw [delH_ne n1.symm]; exact e, r⟩, ⟨ns, by rw [delH_ne n2.symm]; exact e2, r2⟩, h.ne⟩
/-- a comprehension over a list that draws, thing by thing -/
theorem lc_madeG {K : PySem.W.Frag} {B : Bx} {a : Addr} {xs : List V} {g : TG} {tt : TT} {te : TE} {vs : List Nat} {σ : L2.St} {H1 : Hp} {D : Addr} {Qd : Hp → Prop} (R : Nat → V → Hp → Prop) (mono : ∀ i y M M', BoxAt B M → Go B M M' → R i y M → R i y M') (hB : BoxAt B H1) (hD : H1 D = none) (ha : H1 a = some (.lst xs)) (na : a ≠ B.b ∧ a ≠ B.l) (hn : xs.length < sizeLine)
    (hs : ∀ i x H, xs[i]? = some x → Go B H1 H → (∃ acc, H D = some (.lst acc)) → ∀ (Qn : V → Hp → Prop) (Z : Hp → Prop), (∀ y H4, Go B H H4 → R i y (delH H4 D) → Qn y H4) → g x (wipe σ vs) H fun σ2 H2 => wipe σ2 vs = wipe σ vs ∧ tt σ2 H2 fun b H3 => if b = true then te σ2 H3 Qn else Z H3)
    (hd : ∀ H ys, Go B H1 H → H D = some (.lst ys) → ys.length = xs.length → (∀ j y, ys[j]? = some y → R j y H) → Qd H) :
    ∃ W : Nat → Nat → Hp → Prop, (∃ m, W 0 m (upd H1 D (.lst []))) ∧ ∀ i m H, W i m H →
      ((Itl K a).stop i H ∧ Qd H) ∨ ((Itl K a).go i H ∧ ∃ Nx : Hp → Prop, (∀ H', Nx H' → ∃ m', m' < m ∧ W (i + 1) m' H') ∧ ∀ x H', (Itl K a).yld i H x H' → g x (wipe σ vs) H' fun σ2 H2 => wipe σ2 vs = wipe σ vs ∧ tt σ2 H2 fun b H3 =>
        if b = true then te σ2 H3 fun y H4 => ∃ acc, H4 D = some (.lst acc) ∧ acc.length < sizeLine ∧ Nx (upd H4 D (.lst (acc ++ [y]))) else Nx H3) := by
  have nD := hB.away hD
  refine lc_list (K := K) (a := a) (xs := xs) (fun i H => Go B H1 H ∧ ∃ ys, H D = some (.lst ys) ∧ ys.length = i ∧ ∀ j y, ys[j]? = some y → R j y (delH H D)) ⟨(Go.refl hB).new hD, [], upd_same, rfl, fun j y h => by cases h⟩ (fun i H _ h => SqL.of (h.1.keep na.1 na.2 ha)) (fun i x H hx h => ?_) fun H h => ?_
  · obtain ⟨s1, ys, e1, l1, o1⟩ := h
    refine hs i x H hx s1 ⟨ys, e1⟩ _ _ fun y H4 s4 r4 => ?_
    have hi := (List.getElem?_eq_some_iff.mp hx).1
    have e4 := s4.keep nD.1 nD.2 e1
    have dd : Go B (delH H D) (delH (upd H4 D (.lst (ys ++ [y]))) D) := by
      refine ⟨fun b o n m h => ?_, (s4.bag.put nD.1 nD.2).del nD.1 nD.2⟩
      by_cases e : b = D
      · rw [e, delH_same] at h
        cases h
      · rw [delH_ne e] at h ⊢
        rw [upd_ne e]
        exact s4.but _ _ n m h
    have d4 : Go B (delH H4 D) (delH (upd H4 D (.lst (ys ++ [y]))) D) := by
      refine ⟨fun b o n m h => ?_, (s4.bag.put nD.1 nD.2).del nD.1 nD.2⟩
      by_cases e : b = D
      · rw [e, delH_same] at h
        cases h
      · rw [delH_ne e] at h ⊢
        rw [upd_ne e]
        exact h
    refine ⟨ys, e4, by omega, (s1.trans s4).turn hB hD, ys ++ [y], upd_same, by rw [List.length_append, l1]; rfl, fun j w hj => ?_⟩
    by_cases c : j < ys.length
    · rw [List.getElem?_append_left c] at hj
      exact mono _ _ _ _ (s1.bag.del nD.1 nD.2) dd (o1 j w hj)
    · rw [List.getElem?_append_right (by omega)] at hj
      have hj0 : j - ys.length = 0 := by
        have := (List.getElem?_eq_some_iff.mp hj).1
        simp at this
        omega
      rw [hj0] at hj
      cases hj
      have : j = i := by omega
      subst this
      exact mono _ _ _ _ (s4.bag.del nD.1 nD.2) d4 r4
  · obtain ⟨s1, ys, e1, l1, o1⟩ := h
    have gd : Go B (delH H D) H := ⟨fun b o _ _ h => del_same _ _ h, s1.bag⟩
    exact hd H ys s1 e1 l1 fun j y hj => mono _ _ _ _ (s1.bag.del nD.1 nD.2) gd (o1 j y hj)
def unI : V → Int
  | .int i => i
  | _ => 0
theorem ints_perm {ms : List V} {ns : List Int} (h : ms.Perm (ns.map V.int)) : ∃ ns' : List Int, ns'.Perm ns ∧ ms = ns'.map V.int := by
  refine ⟨ms.map unI, ?_, ?_⟩
  · have e := h.map unI
    rw [List.map_map] at e
    have : ns.map (unI ∘ V.int) = ns := by
      have e2 : ns.map (unI ∘ V.int) = ns.map id := List.map_congr_left fun _ _ => rfl
      rw [e2, List.map_id]
    rw [this] at e
    exact e
  · rw [List.map_map]
    have e2 : ms.map (V.int ∘ unI) = ms.map id := List.map_congr_left fun x hx => by
      obtain ⟨n, _, rfl⟩ := List.mem_map.mp (h.subset hx)
      rfl
    rw [e2, List.map_id]
/-- a mixed row -/
def rMix (B : Bx) (ps qs : List Pr) (ns : List Int) : Nat → V → Hp → Prop
  | 0 => fun y M => ∃ (t : Addr) (xs : List V) (hs : List Pr), y = .ref t ∧ M t = some (.lst xs) ∧ (t ≠ B.b ∧ t ≠ B.l) ∧ RawVs M xs hs ∧ hs.Perm ps
  | 1 => fun y M => ∃ (t : Addr) (xs : List V) (hs : List Pr), y = .ref t ∧ M t = some (.lst xs) ∧ (t ≠ B.b ∧ t ≠ B.l) ∧ RawVs M xs hs ∧ hs.Perm qs
  | _ => fun y M => ∃ (t : Addr) (li : List Int), y = .ref t ∧ M t = some (.lst (li.map V.int)) ∧ (t ≠ B.b ∧ t ≠ B.l) ∧ li.Perm ns
theorem rMix.mono (B : Bx) (ps qs : List Pr) (ns : List Int) (i : Nat) (y : V) (M M' : Hp) (hB : BoxAt B M) (g : Go B M M') (h : rMix B ps qs ns i y M) : rMix B ps qs ns i y M' := by
  match i, h with
  | 0, ⟨t, xs, hs, a, b, n, c, d⟩ => exact ⟨t, xs, hs, a, g.keep n.1 n.2 b, n, c.turn fun _ _ h => g.tup hB h, d⟩
  | 1, ⟨t, xs, hs, a, b, n, c, d⟩ => exact ⟨t, xs, hs, a, g.keep n.1 n.2 b, n, c.turn fun _ _ h => g.tup hB h, d⟩
  | k + 2, ⟨t, li, a, b, n, c⟩ => exact ⟨t, li, a, g.keep n.1 n.2 b, n, c⟩
/-- told, words, mixed -/
structure Mid5 (K : PySem.W.Frag) (C : Addr) (B : Bx) (H : Hp) (p mq : Addr) (ps qs : List Pr) (ns : List Int) (hs ss : List Pr) (li : List Int) (lo hi : Int) : Prop where
  bx : BoxAt B H
  lv : LivesAt K C H p hs ss li lo hi
  f5 : ∃ a b l xs ys, F5 B H mq a b l xs ys ps qs ns lo hi
  ok : Ok5 ps qs ns lo hi
  s1 : SortP ps hs
  s2 : SortP qs ss
  s3 : SortI ns li
theorem Mid5.go {K : PySem.W.Frag} {C : Addr} {B : Bx} {H H' : Hp} {p mq : Addr} {ps qs : List Pr} {ns : List Int} {hs ss : List Pr} {li : List Int} {lo hi : Int} (h : Mid5 K C B H p mq ps qs ns hs ss li lo hi) (g : Go B H H') : Mid5 K C B H' p mq ps qs ns hs ss li lo hi := by
  obtain ⟨a, b, l, xs, ys, f⟩ := h.f5
  exact ⟨g.bag, h.lv.go h.bx g, ⟨a, b, l, xs, ys, f.go h.bx g⟩, h.ok, h.s1, h.s2, h.s3⟩
def posD (K : PySem.W.Frag) (C : Addr) : L2.St → Hp → Prop := fun σ H => ∃ (sc : Addr) (B : Bx) (p mq : Addr) (ps qs : List Pr) (ns : List Int) (hs ss : List Pr) (li : List Int) (lo hi : Int) (x2 x3 x4 x5 x6 x9 x11 x12 x13 x14 x15 x16 x17 x18 x19 x20 : Option V), Mid5 K C B H p mq ps qs ns hs ss li lo hi ∧
  σ = [some (.ref sc), some (.ref B.b), x2, x3, x4, x5, x6, some (.ref p), some (.str (lvT hs ss li lo hi)), x9, some (.ref mq), x11, x12, x13, x14, x15, x16, x17, x18, x19, x20]
end Lw
namespace Lw
open PySem PySem.Spec PyProof.Rows L2 XV TL XM DO
abbrev rStrI : List V → Hp → VK → Prop := fun xs H Q => ∃ i, xs = [.int i] ∧ i.natAbs.log2 < 1920 ∧ Q (.str (toString i)) H
def posD1 (K : PySem.W.Frag) (C : Addr) : L2.St → Hp → Prop := fun σ H => ∃ (sc : Addr) (B : Bx) (q d : Addr) (ps qs : List Pr) (ns : List Int) (hs ss : List Pr) (li : List Int) (lo hi : Int) (x6 : Option V) (p mq : Addr) (mps mqs : List Pr) (mns : List Int), Made5 K B H q d ps qs ns hs ss li lo hi ∧ Mid5 K C B H p mq mps mqs mns hs ss li lo hi ∧
  σ = [some (.ref sc), some (.ref B.b), some (.ref q), none, some (.ref d), none, x6, some (.ref p), some (.str (lvT hs ss li lo hi)), some (.str (lvR hs.length ss.length li.length)), some (.ref mq), none, none, none, none, none, none, none, none, none, none]
section
variable {P : Program} {w : World} {K : PySem.W.Frag} {mg : Str → Option Value} {base : Heap} {f : Addr} {cdv : Value} {A : Around} {outer : List Env} {s : Shared} {H0 : Hp} {E : XK} {c : CA} {C : Addr}
theorem blkD1 (N : LEnv P w K mg base c C) (hr : Room 8 (XL P w K mg base f cdv A outer s H0 E).A) : Does (XL P w K mg base f cdv A outer s H0 E) (((((defBody sLaw).drop 4).drop 5).drop 3).take 2) (posC K C) (posD1 K C) RtL := by
  have T := N.T
  have L := N.L
  refine Does.of (pss_cons (ps_set (i := 9) scLaw.nd rfl (Or.inl rfl) (pe_op op_add_str (pe_op op_add_str (pe_op op_add_str (pe_op op_add_str (pe_op op_add_str (pe_op op_add_str (pe_str) (pe_callTy call_str_int (by rfl) T.str (by decide +kernel) (pa_cons (pe_callB call_len_seq (by rfl) T.len (by decide +kernel) (pa_cons (pe_ix ix_list (pv 4) (pe_int) (fun _ _ => rfl)) pa_nil)) pa_nil))) (pe_str)) (pe_callTy call_str_int (by rfl) T.str (by decide +kernel) (pa_cons (pe_callB call_len_seq (by rfl) T.len (by decide +kernel) (pa_cons (pe_ix ix_list (pv 4) (pe_int) (fun _ _ => rfl)) pa_nil)) pa_nil))) (pe_str)) (pe_callTy call_str_int (by rfl) T.str (by decide +kernel) (pa_cons (pe_callB call_len_seq (by rfl) T.len (by decide +kernel) (pa_cons (pe_ix ix_list (pv 4) (pe_int) (fun _ _ => rfl)) pa_nil)) pa_nil))) (pe_str)))
 (pss_one (ps_set (i := 10) scLaw.nd rfl (Or.inl rfl) (pe_op op_cat (pe_lc (own := [("x", 5)]) (g := gName 5) (tt := tYes) (te := tCall spMixed [] E0 (tCons (tVar 1) (tCons (tVar 5) tNil))) rfl scLaw.nd (pi_list (pe_slice sl_list (pv 2) (po_none) (po_some (pe_int)))) (blkOk_by (N := Nlaw) (sc := defScope sLaw) (by decide +kernel)) (fun _ _ _ _ _ => pg_name (i := 5) scLaw.nd rfl (Or.inl rfl)) (fun _ _ _ _ _ => pts_nil) (fun _ _ _ _ _ => calC N.mixed (hr.mono (by decide)) (pa_cons (pv 1) (pa_cons (pv 5) pa_nil)))) (pe_slice sl_list (pv 2) (po_some (pe_int)) (po_none)))))) ?_
  rintro σ H ⟨sc, B, q, d, ps, qs, ns, hs, ss, li, lo, hi, x6, p, M5, lv, rfl⟩ D nx rt
  have ok := SortP.sml M5.ok M5.s1 M5.s2 M5.s3
  obtain ⟨a, b, l, xs, ys, d1, d2, d3, d4, d5, d6⟩ := M5.due.ex
  have sm : ∀ n : Nat, n ≤ 10 → Sml (n : Int) := fun n hn => by unfold Sml; omega
  have k1 := sm _ ok.lp
  have k2 := sm _ ok.lq
  have k3 := sm _ ok.ln
  have b1 := sI_len k1
  have b2 := sI_len k2
  have b3 := sI_len k3
  obtain ⟨c1, c2, c3, c4⟩ : ("Lives(" : Str).length ≤ 24 ∧ (" hollows, " : Str).length ≤ 24 ∧ (" summits, " : Str).length ≤ 24 ∧ (" loose)" : Str).length ≤ 24 := by decide +kernel
  refine ⟨_, rfl, d, _, 0, .ref a, rfl, rfl, SqL.of d1, rfl, a, _, rfl, .inr (SqT.of d2), ?_⟩
  rw [d5.1]
  refine ⟨_, rfl, sml_log k1, _, sI hs.length, rfl, rfl, by rw [sizeLine_eq]; omega, _, _, rfl, rfl, by rw [len_add, sizeLine_eq]; omega, ?_⟩
  refine ⟨_, rfl, d, _, 1, .ref b, rfl, rfl, SqL.of d1, rfl, b, _, rfl, .inr (SqT.of d3), ?_⟩
  rw [d6.1]
  refine ⟨_, rfl, sml_log k2, _, sI ss.length, rfl, rfl, by rw [len_add, len_add, sizeLine_eq]; omega, _, _, rfl, rfl, by rw [len_add, len_add, len_add, sizeLine_eq]; omega, ?_⟩
  refine ⟨_, rfl, d, _, 2, .ref l, rfl, rfl, SqL.of d1, rfl, l, _, rfl, .inr (SqT.of d4), ?_⟩
  rw [List.length_map]
  refine ⟨_, rfl, sml_log k3, _, sI li.length, rfl, rfl, by rw [len_add, len_add, len_add, len_add, sizeLine_eq]; omega, _, _, rfl, rfl, by rw [len_add, len_add, len_add, len_add, len_add, sizeLine_eq]; omega, ?_⟩
  obtain ⟨fa, fb, fl, us, vs, F⟩ := M5.f5
  refine ⟨_, rfl, _, rfl, q, _, rfl, SqL.of F.hq, fun p1 hp1 => ?_⟩
  rw [show cutV [V.ref fa, V.ref fb, V.ref fl, V.int lo, V.int hi] none (some 3) = [V.ref fa, V.ref fb, V.ref fl] from rfl]
  have s1 := same_new (o := .lst [.ref fa, .ref fb, .ref fl]) hp1
  have e1 : upd H p1 (.lst [.ref fa, .ref fb, .ref fl]) p1 = some (.lst [.ref fa, .ref fb, .ref fl]) := upd_same
  have n1 := M5.bx.away hp1
  generalize upd H p1 (.lst [.ref fa, .ref fb, .ref fl]) = H1 at s1 e1 ⊢
  have G1 := (Go.refl M5.bx).same s1
  have F1 := F.go M5.bx G1
  refine ⟨p1, rfl, ⟨_, SqL.of e1⟩, fun D1 hD1 => lc_madeG (K := K) (a := p1) (rMix B ps qs ns) (rMix.mono B ps qs ns) G1.bag hD1 e1 n1 (by show 3 < sizeLine; decide) ?_ ?_⟩
  · rintro i x H2 hi g2 ⟨acc, eD⟩ Qn Z kk
    have F2 := F1.go G1.bag g2
    have nD := G1.bag.away hD1
    match i, hi with
    | 0, hi =>
      cases hi
      refine ⟨rfl, _, rfl, _, rfl, B, fa, us, rfl, g2.bag, F2.ha, F2.na.1, F2.na.2, by rw [F2.pa.1]; exact Nat.le_trans M5.ok.lp (by decide), fun t ms H3 pm g3 ht et => ?_⟩
      have eD3 := g3.keep nD.1 nD.2 eD
      have nt : t ≠ D1 := fun e => by rw [e, eD] at ht; cases ht
      refine kk _ _ g3 ⟨t, ms, ms.map (keyIn H3), rfl, by rw [delH_ne nt]; exact et, g2.bag.away ht, ?_, ?_⟩
      · exact ((F2.pa.turn fun t ys h => g3.tup g2.bag h).perm pm).turn fun u zs h => del_tup eD3 h
      · have := pm.map (keyIn H3)
        rw [(F2.pa.turn fun t ys h => g3.tup g2.bag h).keys] at this
        exact this
    | 1, hi =>
      cases hi
      refine ⟨rfl, _, rfl, _, rfl, B, fb, vs, rfl, g2.bag, F2.hb, F2.nb.1, F2.nb.2, by rw [F2.pb.1]; exact Nat.le_trans M5.ok.lq (by decide), fun t ms H3 pm g3 ht et => ?_⟩
      have eD3 := g3.keep nD.1 nD.2 eD
      have nt : t ≠ D1 := fun e => by rw [e, eD] at ht; cases ht
      refine kk _ _ g3 ⟨t, ms, ms.map (keyIn H3), rfl, by rw [delH_ne nt]; exact et, g2.bag.away ht, ?_, ?_⟩
      · exact ((F2.pb.turn fun t ys h => g3.tup g2.bag h).perm pm).turn fun u zs h => del_tup eD3 h
      · have := pm.map (keyIn H3)
        rw [(F2.pb.turn fun t ys h => g3.tup g2.bag h).keys] at this
        exact this
    | 2, hi =>
      cases hi
      refine ⟨rfl, _, rfl, _, rfl, B, fl, _, rfl, g2.bag, F2.hl, F2.nl.1, F2.nl.2, by rw [List.length_map]; exact Nat.le_trans M5.ok.ln (by decide), fun t ms H3 pm g3 ht et => ?_⟩
      have nt : t ≠ D1 := fun e => by rw [e, eD] at ht; cases ht
      obtain ⟨ns', pn, rfl⟩ := ints_perm pm
      exact kk _ _ g3 ⟨t, ns', rfl, by rw [delH_ne nt]; exact et, g2.bag.away ht, pn⟩
  rintro H2 rs g2 eD l2 o2
  obtain ⟨r0, r1, r2, rfl⟩ : ∃ r0 r1 r2, rs = [r0, r1, r2] := by
    match rs, l2 with
    | [r0, r1, r2], _ => exact ⟨r0, r1, r2, rfl⟩
  obtain ⟨t0, ms0, mps, rfl, t0e, t0n, t0r, pm0⟩ := o2 0 _ rfl
  obtain ⟨t1, ms1, mqs, rfl, t1e, t1n, t1r, pm1⟩ := o2 1 _ rfl
  obtain ⟨t2, mns, rfl, t2e, t2n, pm2⟩ := o2 2 _ rfl
  have G2 := G1.trans g2
  have F2 := F.go M5.bx G2
  refine ⟨_, rfl, _, rfl, q, _, rfl, SqL.of F2.hq, fun p2 hp2 => ?_⟩
  rw [show cutV [V.ref fa, V.ref fb, V.ref fl, V.int lo, V.int hi] (some 3) none = [V.int lo, V.int hi] from rfl]
  have s3 := same_new (o := .lst [.int lo, .int hi]) hp2
  refine ⟨D1, p2, _, _, rfl, rfl, s3 _ _ eD, upd_same, (by show 5 ≤ sizeLine; decide), fun mq hmq => ?_⟩
  have s4 := Same.trans s3 (same_new (o := .lst ([.ref t0, .ref t1, .ref t2] ++ [.int lo, .int hi])) hmq)
  have G4 := G2.same s4
  have nm := g2.bag.away (sN s3 hmq)
  have g24 := (Go.refl g2.bag).same s4
  refine nx _ _ ⟨sc, B, q, d, ps, qs, ns, hs, ss, li, lo, hi, x6, p, mq, mps, mqs, mns, M5.go G4, ⟨G4.bag, lv.go M5.bx G4, ⟨t0, t1, t2, ms0, ms1, ⟨upd_same, s4 _ _ t0e, s4 _ _ t1e, s4 _ _ t2e, t0r.turn fun t zs h => s4 _ _ h, t1r.turn fun t zs h => s4 _ _ h, nm, t0n, t1n, t2n⟩⟩, M5.ok.perm pm0 pm1 pm2, ⟨M5.s1.perm.trans pm0.symm, M5.s1.sorted⟩, ⟨M5.s2.perm.trans pm1.symm, M5.s2.sorted⟩, ⟨M5.s3.perm.trans pm2.symm, M5.s3.sorted⟩⟩, ?_⟩
  rfl
end
end Lw
namespace Lw
open PySem PySem.Spec PyProof.Rows L2 XV TL XM DO
section
variable {P : Program} {w : World} {K : PySem.W.Frag} {mg : Str → Option Value} {base : Heap} {f : Addr} {cdv : Value} {A : Around} {outer : List Env} {s : Shared} {H0 : Hp} {E : XK} {c : CA} {C : Addr}
theorem blkD2 (N : LEnv P w K mg base c C) (hg : (XL P w K mg base f cdv A outer s H0 E).A.guards = some []) (hr : Room 8 (XL P w K mg base f cdv A outer s H0 E).A) : Does (XL P w K mg base f cdv A outer s H0 E) ((((((defBody sLaw).drop 4).drop 5).drop 3).drop 2).take 4) (posD1 K C) (posD K C) RtL := by
  have T := N.T
  have L := N.L
  obtain ⟨f1, fd1, st1, fn1, g1⟩ := N.read
  obtain ⟨f2, fd2, mk2, fn2, g2⟩ := N.init
  obtain ⟨f3, fd3, m3, b3, g3⟩ := N.repr.ex
  obtain ⟨f4, fd4, le, b4, g4⟩ := N.eq
  refine Does.of (pss_cons (ps_set (i := 11) scLaw.nd rfl (Or.inl rfl) (by exact pe_statKO st1 g1 (hr.mono (by decide)) (kb_read fn1) passE (pe_glob (v := .ref C) (by rfl) N.gC rfl) (pk_cons (calC N.written (hr.mono (by decide)) (pa_cons (pv 10) pa_nil)) pk_nil)))
 (pss_cons (ps_set (i := 12) scLaw.nd rfl (Or.inl rfl) (by exact pe_makeK0 mk2 g2 (hr.mono (by decide)) (by rfl) N.gC (kb_init fn2) passE (pk_cons (pe_ix ix_list (pv 2) (pe_int) (fun _ _ => rfl)) (pk_cons (pe_ix ix_list (pv 2) (pe_int) (fun _ _ => rfl)) (pk_cons (pe_ix ix_list (pv 10) (pe_int) (fun _ _ => rfl)) (pk_cons (pe_callTy call_tuple_of (by rfl) T.tuple (by decide +kernel) (pa_cons (pe_ix ix_list (pv 10) (pe_int) (fun _ _ => rfl)) pa_nil)) (pk_cons (pe_ix ix_list (pv 10) (pe_int) (fun _ _ => rfl)) pk_nil)))))))
 (pss_cons (ps_if (PW.pt (pw_or (pt_cmpR op_ne (pe_callB (call_reprI g3 (hr.mono (by decide)) m3.at_ m3.fn b3 pass0) (by rfl) T.repr (by decide +kernel) (pa_cons (pv 7) pa_nil)) (pv 9) (nomark _)) (pw_or (pt_cmpR (op_neI g4 (hr.mono (by decide)) le.eq le.isf b4 pass0 le.nf le.ne N.obj) (pv 11) (pv 7) (nomark _)) (pw_or (pt_not (pt_cmpR (op_eqI g4 (hr.mono (by decide)) le.eq le.isf b4 pass0 le.nf) (pv 11) (pv 7) (nomark _))) (pw_or (pt_cmpR (op_neI g4 (hr.mono (by decide)) le.eq le.isf b4 pass0 le.nf le.ne N.obj) (pv 12) (pv 7) (nomark _)) (pw_or1 (pt_cmpR (op_eqI g4 (hr.mono (by decide)) le.eq le.isf b4 pass0 le.nf) (pv 7) (pv 8) (nomark _))))))))
 (pss_one (ps_ret (pe_bl)))
 (pss_nil))
 (pss_one (ps_if (PW.pt (pw_or (pt_not (pt_val (calG N.just hg (hr.mono (by decide)) (pa_cons (calC N.told (hr.mono (by decide)) (pa_cons (pv 11) pa_nil)) (pa_cons (pv 4) pa_nil))))) (pw_or1 (pt_not (pt_val (calG N.just hg (hr.mono (by decide)) (pa_cons (calC N.told (hr.mono (by decide)) (pa_cons (pv 12) pa_nil)) (pa_cons (pv 4) pa_nil))))))))
 (pss_one (ps_ret (pe_bl)))
 (pss_nil)))))) ?_
  rintro σ H ⟨sc, B, q, d, ps, qs, ns, hs, ss, li, lo, hi, x6, p, mq, mps, mqs, mns, M5, M, rfl⟩ D nx rt
  have ok := SortP.sml M5.ok M5.s1 M5.s2 M5.s3
  have sm := ok.sml
  have msm := M.ok.sml
  obtain ⟨ma, mb, ml, us, vs, F⟩ := M.f5
  obtain ⟨fa, fb, fl, zs, ws, G⟩ := M5.f5
  refine ⟨rfl, _, rfl, mq, ma, mb, ml, mps, mqs, mns, lo, hi, rfl, SqL.of F.hq, ⟨us, .inl (SqL.of F.ha), F.pa.pairs⟩, ⟨vs, .inl (SqL.of F.hb), F.pb.pairs⟩, .inl (SqL.of F.hl), msm, fun H1 s1 => ?_⟩
  obtain ⟨tw, t5⟩ := told_written M.ok.good
  have lz : (lvT mps mqs mns lo hi).length ≤ 60000 := Nat.le_trans (lvT_len msm) (by decide)
  refine ⟨_, rfl, .inl ⟨_, rfl, lz, fun n y h => absurd (h.symm.trans tw) (by intro z; cases z), fun _ bk H2 hs' ss' li' lo' hi' hb s2 to lb => ?_⟩⟩
  obtain ⟨so1, so2, so3, rfl, rfl⟩ := t5 _ _ _ _ _ to
  obtain rfl := so1.one M.s1 (List.Perm.refl _)
  obtain rfl := so2.one M.s2 (List.Perm.refl _)
  obtain rfl := so3.one M.s3 (List.Perm.refl _)
  have s12 := Same.trans s1 s2
  -- same
  refine ⟨_, rfl, q, _, 4, _, rfl, rfl, SqL.of (s12 _ _ G.hq), rfl, ?_⟩
  refine ⟨_, rfl, q, _, 3, _, rfl, rfl, SqL.of (s12 _ _ G.hq), rfl, ?_⟩
  refine ⟨_, rfl, mq, _, 2, _, rfl, rfl, SqL.of (s12 _ _ F.hq), rfl, ?_⟩
  refine ⟨_, rfl, mq, _, 1, _, rfl, rfl, SqL.of (s12 _ _ F.hq), rfl, mb, vs, rfl, .inl ⟨SqL.of (s12 _ _ F.hb), fun tb htb => ?_⟩⟩
  have s3 := same_new (o := .tup vs) htb
  have e3 : upd H2 tb (.tup vs) tb = some (.tup vs) := upd_same
  have s13 := Same.trans s12 s3
  have lb3 := lb.mono s3
  generalize upd H2 tb (.tup vs) = H3 at s3 e3 s13 lb3 ⊢
  refine ⟨_, rfl, mq, _, 0, _, rfl, rfl, SqL.of (s13 _ _ F.hq), rfl, rfl, rfl, fun x dx hx hdx hne => ?_⟩
  have s4 := Same.trans (same_new (o := .own x) hdx) (same_new (p := x) (o := .ins C dx []) (by rw [upd_ne hne.symm]; exact hx))
  have ex : upd (upd H3 dx (.own x)) x (.ins C dx []) x = some (.ins C dx []) := upd_same
  have s14 := Same.trans s13 s4
  have e4 := s4 _ _ e3
  have lb4 := lb3.mono s4
  have x0 : H3 x = none := hx
  show spInitL K c C [.ref x, .ref ma, .ref tb, .ref ml, .int lo', .int hi'] (upd (upd H3 dx (.own x)) x (.ins C dx [])) _ _
  generalize upd (upd H3 dx (.own x)) x (.ins C dx []) = H4 at s4 ex s14 e4 lb4 ⊢
  have w1 := no_wrong M.ok.hp
  have w2 := no_wrong M.ok.hq
  have st4 : ∀ {a : Addr} {o : HO}, H a = some o → H4 a = some o := fun h => s14 _ _ h
  refine ⟨x, dx, ma, tb, ml, mps, mqs, mns, lo', hi', rfl, ex, ⟨us, .inl (SqL.of (st4 F.ha)), (F.pa.turn fun t zs h => st4 h).pairs⟩, ⟨vs, .inr (SqT.of e4), (F.pb.turn fun t zs h => st4 h).pairs⟩, SqL.of (st4 F.hl), Nat.le_trans M.ok.lp (by decide), Nat.le_trans M.ok.lq (by decide), fun z => absurd (z.symm.trans w1) (by decide), fun _ z => absurd (z.symm.trans w2) (by decide), fun _ _ H5 hs2 ss2 li2 so1 so2 so3 lx o5 => ⟨rfl, ?_⟩⟩
  obtain rfl := so1.one M.s1 (List.Perm.refl _)
  obtain rfl := so2.one M.s2 (List.Perm.refl _)
  obtain rfl := so3.one M.s3 (List.Perm.refl _)
  have s35 : Same H3 H5 := fun b o h => o5 b o (ne_of_none h x0) (s4 _ _ h)
  have s15 := Same.trans s13 s35
  have lb5 := lb3.mono s35
  have lp5 := M.lv.mono s15
  obtain ⟨dp5, u1, u2, u3, ip⟩ := lp5.ins
  have l10 : ∀ {n : Nat}, n ≤ 10 → n ≤ 1000 := fun h => Nat.le_trans h (by decide)
  refine ⟨_, rfl, p, dp5, _, rfl, ip, p, _, _, _, _, _, rfl, lp5, l10 ok.lp, l10 ok.lq, l10 ok.ln, fun H6 s6 => ⟨_, rfl, _, rfl, rfl, ?_⟩⟩
  rw [decide_eq_true rfl]
  refine ⟨_, rfl, iteF ?_⟩
  have lb6 := lb5.mono s6
  have lp6 := lp5.mono s6
  have lx6 := lx.mono s6
  have s16 := Same.trans s15 s6
  obtain ⟨db, u1, u2, u3, ib⟩ := lb6.ins
  have ip6 := s6 _ _ ip
  refine ⟨_, rfl, _, rfl, bk, db, _, rfl, ib, .inl ⟨p, dp5, _, rfl, ip6⟩, bk, _, _, _, _, _, _, rfl, lb6, .inr ⟨p, _, _, _, _, _, rfl, lp6, fun H7 s7 => ⟨_, rfl, ?_⟩⟩⟩
  rw [decide_eq_true ⟨rfl, rfl, rfl, rfl, rfl⟩]
  refine ⟨_, rfl, iteF ?_⟩
  have ib7 := s7 _ _ ib
  have ip7 := s7 _ _ ip6
  refine ⟨_, rfl, _, rfl, bk, db, _, rfl, ib7, .inl ⟨p, dp5, _, rfl, ip7⟩, bk, _, _, _, _, _, _, rfl, lb6.mono s7, .inr ⟨p, _, _, _, _, _, rfl, lp6.mono s7, fun H8 s8 => ⟨_, rfl, ?_⟩⟩⟩
  rw [decide_eq_true ⟨rfl, rfl, rfl, rfl, rfl⟩]
  refine ⟨_, rfl, iteF ?_⟩
  have s68 := Same.trans s7 s8
  have lx8 := lx6.mono s68
  have lp8 := lp6.mono s68
  have ip8 := s8 _ _ ip7
  obtain ⟨dy, u1, u2, u3, ix⟩ := lx8.ins
  refine ⟨_, rfl, _, rfl, x, dy, _, rfl, ix, .inl ⟨p, dp5, _, rfl, ip8⟩, x, _, _, _, _, _, _, rfl, lx8, .inr ⟨p, _, _, _, _, _, rfl, lp8, fun H9 s9 => ⟨_, rfl, ?_⟩⟩⟩
  rw [decide_eq_true ⟨rfl, rfl, rfl, rfl, rfl⟩]
  refine ⟨_, rfl, iteF ?_⟩
  have ip9 := s9 _ _ ip8
  refine ⟨_, rfl, _, rfl, p, dp5, _, rfl, ip9, .inr ⟨_, rfl⟩, p, _, _, _, _, _, _, rfl, lp8.mono s9, .inl ⟨_, rfl, fun H10 s10 => ⟨_, rfl, _, rfl, iteF ?_⟩⟩⟩
  have s610 := Same.trans s68 (Same.trans s9 s10)
  have s110 := Same.trans s16 s610
  have lb10 := lb6.mono s610
  have lx10 := lx6.mono s610
  have M10 := M5.go ((Go.refl M5.bx).same s110)
  refine ⟨_, rfl, bk, _, _, _, _, _, rfl, lb10, fun t1 H11 s11 ht1 dd1 => ⟨_, rfl, ?_⟩⟩
  delta tNil
  have M11 := M10.go ((Go.refl M10.bx).same s11)
  refine spJust_five sm dd1 M11.due.dp ⟨_, rfl, iteF ?_⟩
  refine ⟨_, rfl, x, _, _, _, _, _, rfl, lx10.mono s11, fun t2 H12 s12' ht2 dd2 => ⟨_, rfl, ?_⟩⟩
  have M12 := M11.go ((Go.refl M11.bx).same s12')
  refine spJust_five sm dd2 M12.due.dp ⟨_, rfl, iteF ?_⟩
  refine nx _ _ ⟨sc, B, p, mq, mps, mqs, mns, _, _, _, _, _, _, _, _, _, _, _, _, _, _, _, _, _, _, _, _, _, M.go ((Go.refl M.bx).same (Same.trans s110 (Same.trans s11 s12'))), rfl⟩
end
end Lw
namespace Lw
open PySem PySem.Spec PyProof.Rows L2 XV TL XM DO
/-- another five, one thing of it unlike -/
structure Oth (K : PySem.W.Frag) (H : Hp) (o : Addr) (hs ss : List Pr) (li : List Int) (lo hi : Int) : Prop where
  ex : ∃ (a b l : Addr) (ps qs : List Pr) (ns : List Int) (lo' hi' : Int), H o = some (.lst [.ref a, .ref b, .ref l, .int lo', .int hi']) ∧ PairsAt K H a ps ∧ PairsAt K H b qs ∧ SqL K H l (ns.map V.int) ∧ ps.length ≤ 100000 ∧ qs.length ≤ 100000 ∧ ps.any wrongP = false ∧ qs.any wrongP = false ∧
    ∀ hs2 ss2 li2, SortP ps hs2 → SortP qs ss2 → SortI ns li2 → ¬ (hs2 = hs ∧ ss2 = ss ∧ li2 = li ∧ lo' = lo ∧ hi' = hi)
def posE1 (K : PySem.W.Frag) (C : Addr) : L2.St → Hp → Prop := fun σ H => ∃ (sc : Addr) (B : Bx) (p mq o : Addr) (ps qs : List Pr) (ns : List Int) (hs ss : List Pr) (li : List Int) (lo hi : Int) (x2 x3 x4 x5 x6 x9 x11 x12 x13 x15 x16 x17 x18 x19 x20 : Option V), Mid5 K C B H p mq ps qs ns hs ss li lo hi ∧ Oth K H o hs ss li lo hi ∧
  σ = [some (.ref sc), some (.ref B.b), x2, x3, x4, x5, x6, some (.ref p), some (.str (lvT hs ss li lo hi)), x9, some (.ref mq), x11, x12, x13, some (.ref o), x15, x16, x17, x18, x19, x20]
theorem any_snoc {ps : List Pr} (h : ps.any wrongP = false) : (ps ++ [(7, 9)]).any wrongP = false := by
  rw [List.any_append, h]
  rfl
section
variable {P : Program} {w : World} {K : PySem.W.Frag} {mg : Str → Option Value} {base : Heap} {f : Addr} {cdv : Value} {A : Around} {outer : List Env} {s : Shared} {H0 : Hp} {E : XK} {c : CA} {C : Addr}
theorem blkE1 (N : LEnv P w K mg base c C) (hr : Room 8 (XL P w K mg base f cdv A outer s H0 E).A) : Does (XL P w K mg base f cdv A outer s H0 E) (((((((defBody sLaw).drop 4).drop 5).drop 3).drop 2).drop 4).take 2) (posD K C) (posE1 K C) RtL := by
  have T := N.T
  refine Does.of (pss_cons (ps_par (i := 13) (j := 14) rfl scLaw.nd rfl rfl (by decide) rfl rfl (pa_cons (calC N.take (hr.mono (by decide)) (pa_cons (pv 1) (pa_cons (pe_int) pa_nil))) (pa_cons (pe_callTy call_listL (by rfl) T.list (by decide +kernel) (pa_cons (pv 10) pa_nil)) pa_nil)) (by rfl))
 (pss_one (ps_if (pt_cmpR op_gt (pv 13) (pe_int) (nomark _))
 (pss_one (ps_asg (pe_ifExp (pt_cmpR op_gt (pe_ix ix_list (pv 14) (pv 13) (fun _ _ => rfl)) (pe_int) (nomark _)) (pe_op op_sub (pe_ix ix_list (pv 14) (pv 13) (fun _ _ => rfl)) (pe_int)) (pe_op op_add (pe_ix ix_list (pv 14) (pv 13) (fun _ _ => rfl)) (pe_int))) (pg_sub (pv 14) (pv 13) set_list)))
 (pss_one (ps_asg (pe_ifExp (pt_cmpR op_lt (pv 13) (pe_int) (nomark _)) (pe_op op_cat (pe_ix ix_list (pv 14) (pv 13) (fun _ _ => rfl)) (pe_lst (pa_cons (pe_tup (pa_cons (pe_int) (pa_cons (pe_int) pa_nil))) pa_nil))) (pe_op op_cat (pe_ix ix_list (pv 14) (pv 13) (fun _ _ => rfl)) (pe_lst (pa_cons (pe_int) pa_nil)))) (pg_sub (pv 14) (pv 13) set_list)))))) ?_
  rintro σ H ⟨sc, B, p, mq, ps, qs, ns, hs, ss, li, lo, hi, x2, x3, x4, x5, x6, x9, x11, x12, x13, x14, x15, x16, x17, x18, x19, x20, M, rfl⟩ D nx rt
  refine ⟨_, rfl, B, _, rfl, M.bx, by decide, by decide, fun d H1 d0 d1 g1 => ?_⟩
  have M1 := M.go g1
  obtain ⟨a, b, l, us, vs, F⟩ := M1.f5
  refine ⟨_, rfl, mq, _, rfl, SqL.of F.hq, fun o ho => ⟨_, _, rfl, ?_⟩⟩
  have s2 := same_new (o := .lst [.ref a, .ref b, .ref l, .int lo, .int hi]) ho
  have eo : upd H1 o (.lst [.ref a, .ref b, .ref l, .int lo, .int hi]) o = some (.lst [.ref a, .ref b, .ref l, .int lo, .int hi]) := upd_same
  have g2 := (Go.refl M1.bx).same s2
  generalize upd H1 o (.lst [.ref a, .ref b, .ref l, .int lo, .int hi]) = H2 at s2 eo g2 ⊢
  have F2 := F.go M1.bx g2
  have w1 := no_wrong M.ok.hp
  have w2 := no_wrong M.ok.hq
  have lp := M.ok.lp
  have lq := M.ok.lq
  have ln := M.ok.ln
  have lu : us.length ≤ 10 := by rw [F.pa.1]; exact lp
  have lv : vs.length ≤ 10 := by rw [F.pb.1]; exact lq
  have la := M.s1.len
  have lb := M.s2.len
  have lc := M.s3.len
  have no : ∀ {x : Addr} {zs : List V}, H1 x = some (.lst zs) → x ≠ o := fun h => ne_of_none h ho
  have fin : ∀ (v : V) (H3 : Hp) (k : Nat) (a' b' l' : Addr) (ps' qs' : List Pr) (ns' : List Int) (lo' hi' : Int), Same H2 H3 → ([V.ref a, V.ref b, V.ref l, V.int lo, V.int hi].set k v) = [V.ref a', V.ref b', V.ref l', V.int lo', V.int hi'] → PairsAt K (upd H3 o (.lst ([V.ref a, V.ref b, V.ref l, V.int lo, V.int hi].set k v))) a' ps' → PairsAt K (upd H3 o (.lst ([V.ref a, V.ref b, V.ref l, V.int lo, V.int hi].set k v))) b' qs' → SqL K (upd H3 o (.lst ([V.ref a, V.ref b, V.ref l, V.int lo, V.int hi].set k v))) l' (ns'.map V.int) →
      ps'.length ≤ 100000 → qs'.length ≤ 100000 → ps'.any wrongP = false → qs'.any wrongP = false → (∀ hs2 ss2 li2, SortP ps' hs2 → SortP qs' ss2 → SortI ns' li2 → ¬ (hs2 = hs ∧ ss2 = ss ∧ li2 = li ∧ lo' = lo ∧ hi' = hi)) →
      D.nx [some (.ref sc), some (.ref B.b), x2, x3, x4, x5, x6, some (.ref p), some (.str (lvT hs ss li lo hi)), x9, some (.ref mq), x11, x12, some (.int d), some (.ref o), x15, x16, x17, x18, x19, x20] (upd H3 o (.lst ([V.ref a, V.ref b, V.ref l, V.int lo, V.int hi].set k v))) := fun v H3 k a' b' l' ps' qs' ns' lo' hi' s3 e h1 h2 h3 h4 h5 h6 h7 h8 => by
    have g3 : Go B H1 (upd H3 o (.lst ([V.ref a, V.ref b, V.ref l, V.int lo, V.int hi].set k v))) := (g2.same s3).turn M1.bx ho
    exact nx _ _ ⟨sc, B, p, mq, o, ps, qs, ns, hs, ss, li, lo, hi, x2, x3, x4, x5, x6, x9, x11, x12, _, x15, x16, x17, x18, x19, x20, M1.go g3, ⟨a', b', l', ps', qs', ns', lo', hi', by rw [upd_same, e], h1, h2, h3, h4, h5, h6, h7, h8⟩, rfl⟩
  have keepP : ∀ {x : Addr} {zs : List V} {rs : List Pr} {H3 : Hp} {u : HO}, Same H2 H3 → H1 x = some (.lst zs) → RawVs H1 zs rs → PairsAt K (upd H3 o u) x rs := fun {x zs rs H3 u} s3 h r => by
    refine ⟨zs, .inl (SqL.of (by rw [upd_ne (no h)]; exact s3 _ _ (s2 _ _ h))), (r.turn fun t ys e => ?_).pairs⟩
    rw [upd_ne (ne_of_none e ho)]
    exact s3 _ _ (s2 _ _ e)
  have keepI : ∀ {x : Addr} {zs : List V} {H3 : Hp} {u : HO}, Same H2 H3 → H1 x = some (.lst zs) → SqL K (upd H3 o u) x zs := fun {x zs H3 u} s3 h => SqL.of (by rw [upd_ne (no h)]; exact s3 _ _ (s2 _ _ h))
  have hd : d = 0 ∨ d = 1 ∨ d = 2 ∨ d = 3 ∨ d = 4 := by omega
  rcases hd with rfl | rfl | rfl | rfl | rfl
  · refine ⟨_, rfl, _, _, rfl, rfl, _, rfl, iteF ?_⟩
    refine ⟨_, rfl, _, _, rfl, rfl, _, rfl, iteT ?_⟩
    refine ⟨_, rfl, _, rfl, o, _, 0, .ref a, rfl, rfl, SqL.of eo, rfl, (by show 2 ≤ sizeLine; decide), fun t ht => ⟨(by show 1 ≤ sizeLine; decide), fun l1 hl1 => ?_⟩⟩
    have s3 := same_new (o := .tup [.int 7, .int 9]) ht
    have et : upd H2 t (.tup [.int 7, .int 9]) t = some (.tup [.int 7, .int 9]) := upd_same
    generalize upd H2 t (.tup [.int 7, .int 9]) = H3 at s3 et hl1 ⊢
    have s4 := same_new (o := .lst [.ref t]) hl1
    have s24 := Same.trans s3 s4
    refine ⟨a, l1, us, _, rfl, rfl, s24 _ _ F2.ha, upd_same, by rw [sizeLine_eq]; show _ + 1 ≤ _; omega, fun u hu => ?_⟩
    have s5 := same_new (o := .lst (us ++ [.ref t])) hu
    have s25 := Same.trans s24 s5
    have et5 := s5 _ _ (s4 _ _ et)
    have eu : upd (upd H3 l1 (.lst [.ref t])) u (.lst (us ++ [.ref t])) u = some (.lst (us ++ [.ref t])) := upd_same
    generalize upd (upd H3 l1 (.lst [.ref t])) u (.lst (us ++ [.ref t])) = H5 at s5 s25 et5 eu ⊢
    have nu : u ≠ o := fun e => by rw [e] at hu; rw [s24 _ _ eo] at hu; cases hu
    refine ⟨_, rfl, _, rfl, o, _, 0, 0, rfl, rfl, s25 _ _ eo, rfl, ?_⟩
    refine fin _ H5 0 u b l (ps ++ [(7, 9)]) qs ns lo hi s25 rfl ⟨us ++ [.ref t], .inl (SqL.of (by rw [upd_ne nu]; exact eu)), (RawVs.snoc (p := (7, 9)) (F.pa.turn fun t' ys e => ?_) ?_).pairs⟩ (keepP s25 F.hb F.pb) (keepI s25 F.hl) (by rw [List.length_append]; show _ + 1 ≤ _; omega) (by omega) (any_snoc w1) w2 fun hs2 ss2 li2 h1 _ _ h => ?_
    · rw [upd_ne (ne_of_none e ho)]
      exact s25 _ _ (s2 _ _ e)
    · rw [upd_ne (fun e => by rw [e] at et5; rw [s25 _ _ eo] at et5; cases et5)]
      exact et5
    · have := h1.len
      rw [h.1, la, List.length_append] at this
      exact absurd this (by show ¬ (_ = _ + 1); omega)
  · refine ⟨_, rfl, _, _, rfl, rfl, _, rfl, iteF ?_⟩
    refine ⟨_, rfl, _, _, rfl, rfl, _, rfl, iteT ?_⟩
    refine ⟨_, rfl, _, rfl, o, _, 1, .ref b, rfl, rfl, SqL.of eo, rfl, (by show 2 ≤ sizeLine; decide), fun t ht => ⟨(by show 1 ≤ sizeLine; decide), fun l1 hl1 => ?_⟩⟩
    have s3 := same_new (o := .tup [.int 7, .int 9]) ht
    have et : upd H2 t (.tup [.int 7, .int 9]) t = some (.tup [.int 7, .int 9]) := upd_same
    generalize upd H2 t (.tup [.int 7, .int 9]) = H3 at s3 et hl1 ⊢
    have s4 := same_new (o := .lst [.ref t]) hl1
    have s24 := Same.trans s3 s4
    refine ⟨b, l1, vs, _, rfl, rfl, s24 _ _ F2.hb, upd_same, by rw [sizeLine_eq]; show _ + 1 ≤ _; omega, fun u hu => ?_⟩
    have s5 := same_new (o := .lst (vs ++ [.ref t])) hu
    have s25 := Same.trans s24 s5
    have et5 := s5 _ _ (s4 _ _ et)
    have eu : upd (upd H3 l1 (.lst [.ref t])) u (.lst (vs ++ [.ref t])) u = some (.lst (vs ++ [.ref t])) := upd_same
    generalize upd (upd H3 l1 (.lst [.ref t])) u (.lst (vs ++ [.ref t])) = H5 at s5 s25 et5 eu ⊢
    have nu : u ≠ o := fun e => by rw [e] at hu; rw [s24 _ _ eo] at hu; cases hu
    refine ⟨_, rfl, _, rfl, o, _, 1, 1, rfl, rfl, s25 _ _ eo, rfl, ?_⟩
    refine fin _ H5 1 a u l ps (qs ++ [(7, 9)]) ns lo hi s25 rfl (keepP s25 F.ha F.pa) ⟨vs ++ [.ref t], .inl (SqL.of (by rw [upd_ne nu]; exact eu)), (RawVs.snoc (p := (7, 9)) (F.pb.turn fun t' ys e => ?_) ?_).pairs⟩ (keepI s25 F.hl) (by omega) (by rw [List.length_append]; show _ + 1 ≤ _; omega) w1 (any_snoc w2) fun hs2 ss2 li2 _ h1 _ h => ?_
    · rw [upd_ne (ne_of_none e ho)]
      exact s25 _ _ (s2 _ _ e)
    · rw [upd_ne (fun e => by rw [e] at et5; rw [s25 _ _ eo] at et5; cases et5)]
      exact et5
    · have := h1.len
      rw [h.2.1, lb, List.length_append] at this
      exact absurd this (by show ¬ (_ = _ + 1); omega)
  · refine ⟨_, rfl, _, _, rfl, rfl, _, rfl, iteF ?_⟩
    refine ⟨_, rfl, _, _, rfl, rfl, _, rfl, iteF ?_⟩
    refine ⟨_, rfl, _, rfl, o, _, 2, .ref l, rfl, rfl, SqL.of eo, rfl, (by show 1 ≤ sizeLine; decide), fun l1 hl1 => ?_⟩
    have s4 := same_new (o := .lst [.int 3]) hl1
    refine ⟨l, l1, _, _, rfl, rfl, s4 _ _ F2.hl, upd_same, by rw [sizeLine_eq, List.length_map]; show _ + 1 ≤ _; omega, fun u hu => ?_⟩
    have s25 := Same.trans s4 (same_new (o := .lst (ns.map V.int ++ [.int 3])) hu)
    have eu : upd (upd H2 l1 (.lst [.int 3])) u (.lst (ns.map V.int ++ [.int 3])) u = some (.lst (ns.map V.int ++ [.int 3])) := upd_same
    generalize upd (upd H2 l1 (.lst [.int 3])) u (.lst (ns.map V.int ++ [.int 3])) = H5 at s25 eu ⊢
    have nu : u ≠ o := fun e => by rw [e] at hu; rw [s4 _ _ eo] at hu; cases hu
    refine ⟨_, rfl, _, rfl, o, _, 2, 2, rfl, rfl, s25 _ _ eo, rfl, ?_⟩
    refine fin _ H5 2 a b u ps qs (ns ++ [3]) lo hi s25 rfl (keepP s25 F.ha F.pa) (keepP s25 F.hb F.pb) (SqL.of (by rw [upd_ne nu, eu, List.map_append]; rfl)) (by omega) (by omega) w1 w2 fun hs2 ss2 li2 _ _ h1 h => ?_
    have := h1.len
    rw [h.2.2.1, lc, List.length_append] at this
    exact absurd this (by show ¬ (_ = _ + 1); omega)
  · refine ⟨_, rfl, _, _, rfl, rfl, _, rfl, iteT ?_⟩
    refine ⟨_, rfl, _, rfl, o, _, 3, .int lo, rfl, rfl, SqL.of eo, rfl, _, _, rfl, rfl, _, rfl, ite_b (fun _ => ?_) (fun _ => ?_)⟩
    · refine ⟨_, rfl, _, rfl, o, _, 3, .int lo, rfl, rfl, SqL.of eo, rfl, _, _, rfl, rfl, _, rfl, _, rfl, o, _, 3, 3, rfl, rfl, eo, rfl, ?_⟩
      exact fin _ H2 3 a b l ps qs ns (lo - 1) hi (Same.refl _) rfl (keepP (Same.refl _) F.ha F.pa) (keepP (Same.refl _) F.hb F.pb) (keepI (Same.refl _) F.hl) (by omega) (by omega) w1 w2 fun hs2 ss2 li2 _ _ _ h => by have := h.2.2.2.1; omega
    · refine ⟨_, rfl, _, rfl, o, _, 3, .int lo, rfl, rfl, SqL.of eo, rfl, _, _, rfl, rfl, _, rfl, _, rfl, o, _, 3, 3, rfl, rfl, eo, rfl, ?_⟩
      exact fin _ H2 3 a b l ps qs ns (lo + 1) hi (Same.refl _) rfl (keepP (Same.refl _) F.ha F.pa) (keepP (Same.refl _) F.hb F.pb) (keepI (Same.refl _) F.hl) (by omega) (by omega) w1 w2 fun hs2 ss2 li2 _ _ _ h => by have := h.2.2.2.1; omega
  · refine ⟨_, rfl, _, _, rfl, rfl, _, rfl, iteT ?_⟩
    refine ⟨_, rfl, _, rfl, o, _, 4, .int hi, rfl, rfl, SqL.of eo, rfl, _, _, rfl, rfl, _, rfl, ite_b (fun _ => ?_) (fun _ => ?_)⟩
    · refine ⟨_, rfl, _, rfl, o, _, 4, .int hi, rfl, rfl, SqL.of eo, rfl, _, _, rfl, rfl, _, rfl, _, rfl, o, _, 4, 4, rfl, rfl, eo, rfl, ?_⟩
      exact fin _ H2 4 a b l ps qs ns lo (hi - 1) (Same.refl _) rfl (keepP (Same.refl _) F.ha F.pa) (keepP (Same.refl _) F.hb F.pb) (keepI (Same.refl _) F.hl) (by omega) (by omega) w1 w2 fun hs2 ss2 li2 _ _ _ h => by have := h.2.2.2.2; omega
    · refine ⟨_, rfl, _, rfl, o, _, 4, .int hi, rfl, rfl, SqL.of eo, rfl, _, _, rfl, rfl, _, rfl, _, rfl, o, _, 4, 4, rfl, rfl, eo, rfl, ?_⟩
      exact fin _ H2 4 a b l ps qs ns lo (hi + 1) (Same.refl _) rfl (keepP (Same.refl _) F.ha F.pa) (keepP (Same.refl _) F.hb F.pb) (keepI (Same.refl _) F.hl) (by omega) (by omega) w1 w2 fun hs2 ss2 li2 _ _ _ h => by have := h.2.2.2.2; omega
end
end Lw
namespace Lw
open PySem PySem.Spec PyProof.Rows L2 XV TL XM DO
theorem RawVs.ofMem {M : Hp} {xs : List V} (h : ∀ x ∈ xs, ∃ t, x = .ref t ∧ M t = some (.tup [.int (keyIn M x).1, .int (keyIn M x).2])) : RawVs M xs (xs.map (keyIn M)) := by
  refine ⟨by rw [List.length_map], fun i x hx => ?_⟩
  obtain ⟨t, rfl, c⟩ := h x (List.mem_of_getElem? hx)
  exact ⟨t, keyIn M (.ref t), by rw [List.getElem?_map, hx]; rfl, rfl, c⟩
/-- with a wrong pair put in -/
theorem RawVs.put {M : Hp} {xs : List V} {ps : List Pr} {t : Addr} {i j : Int} (h : RawVs M xs ps) (e : M t = some (.tup [.int i, .int j])) (hw : j ≤ i) (k : Nat) : ∃ qs, RawVs M (xs.take k ++ [.ref t] ++ xs.drop k) qs ∧ qs.length = ps.length + 1 ∧ qs.any wrongP = true := by
  have ke := keyIn_of e
  refine ⟨_, RawVs.ofMem fun x hx => ?_, ?_, ?_⟩
  · rcases List.mem_append.mp hx with hx | hx
    · rcases List.mem_append.mp hx with hx | hx
      · exact h.mem (List.mem_of_mem_take hx)
      · rw [List.mem_singleton.mp hx]
        exact ⟨t, rfl, by rw [ke]; exact e⟩
    · exact h.mem (List.mem_of_mem_drop hx)
  · rw [List.length_map, List.length_append, List.length_append, List.length_take, List.length_drop, ← h.1]
    show _ + 1 + _ = _
    omega
  · refine List.any_eq_true.mpr ⟨(i, j), List.mem_map.mpr ⟨.ref t, by simp, ke⟩, decide_eq_true hw⟩
section
variable {P : Program} {w : World} {K : PySem.W.Frag} {mg : Str → Option Value} {base : Heap} {f : Addr} {cdv : Value} {A : Around} {outer : List Env} {s : Shared} {H0 : Hp} {E : XK} {c : CA} {C : Addr}
theorem blkE2 (N : LEnv P w K mg base c C) (hr : Room 8 (XL P w K mg base f cdv A outer s H0 E).A) : Does (XL P w K mg base f cdv A outer s H0 E) ((((((((defBody sLaw).drop 4).drop 5).drop 3).drop 2).drop 4).drop 2).take 1) (posE1 K C) (posD K C) RtL := by
  have T := N.T
  obtain ⟨f4, fd4, le, b4, g4⟩ := N.eq
  refine Does.of (pss_one (ps_if (PW.pt (pw_or (pt_cmpR (op_eqI g4 (hr.mono (by decide)) le.eq le.isf b4 pass0 le.nf) (calC N.madeT (hr.mono (by decide)) (pa_cons (pv 14) pa_nil)) (pv 7) (nomark _)) (pw_or1 (pt_not (pt_cmpR (op_neI g4 (hr.mono (by decide)) le.eq le.isf b4 pass0 le.nf le.ne N.obj) (calC N.madeT (hr.mono (by decide)) (pa_cons (pv 14) pa_nil)) (pv 7) (nomark _))))))
 (pss_one (ps_ret (pe_bl)))
 (pss_nil))) ?_
  rintro σ H ⟨sc, B, p, mq, o, ps, qs, ns, hs, ss, li, lo, hi, x2, x3, x4, x5, x6, x9, x11, x12, x13, x15, x16, x17, x18, x19, x20, M, ⟨a, b, l, ops, oqs, ons, lo', hi', e, pa, pb, pl, la, lb, w1, w2, df⟩, rfl⟩ D nx rt
  refine ⟨_, rfl, o, a, b, l, ops, oqs, ons, lo', hi', rfl, SqL.of e, pa, pb, pl, la, lb, fun z => absurd (z.symm.trans w1) (by decide), fun _ z => absurd (z.symm.trans w2) (by decide), fun _ _ y H1 hs2 ss2 li2 hy s1 so1 so2 so3 ly => ?_⟩
  have d1 := df _ _ _ so1 so2 so3
  obtain ⟨dy, u1, u2, u3, iy⟩ := ly.ins
  have lp1 := M.lv.mono s1
  obtain ⟨dp, v1, v2, v3, ip⟩ := lp1.ins
  refine ⟨_, rfl, y, dy, _, rfl, iy, .inl ⟨p, dp, _, rfl, ip⟩, y, _, _, _, _, _, _, rfl, ly, .inr ⟨p, _, _, _, _, _, rfl, lp1, fun H2 s2 => ⟨_, rfl, ?_⟩⟩⟩
  rw [decide_eq_false d1]
  refine ⟨_, rfl, iteF ?_⟩
  have s12 := Same.trans s1 s2
  refine ⟨_, rfl, o, a, b, l, ops, oqs, ons, lo', hi', rfl, SqL.of (s12 _ _ e), pa.mono s12, pb.mono s12, s12.seq pl, la, lb, fun z => absurd (z.symm.trans w1) (by decide), fun _ z => absurd (z.symm.trans w2) (by decide), fun _ _ y2 H3 hs3 ss3 li3 hy3 s3 so1 so2 so3 ly3 => ?_⟩
  have d3 := df _ _ _ so1 so2 so3
  obtain ⟨dy3, u1, u2, u3, iy3⟩ := ly3.ins
  have s13 := Same.trans s12 s3
  have lp3 := M.lv.mono s13
  have ip3 := (Same.trans s2 s3) _ _ ip
  refine ⟨_, rfl, y2, dy3, _, rfl, iy3, .inl ⟨p, dp, _, rfl, ip3⟩, y2, _, _, _, _, _, _, rfl, ly3, .inr ⟨p, _, _, _, _, _, rfl, lp3, fun H4 s4 => ⟨_, rfl, ?_⟩⟩⟩
  rw [decide_eq_false d3]
  refine ⟨_, rfl, iteF ?_⟩
  have s14 := Same.trans s13 s4
  exact nx _ _ ⟨sc, B, p, mq, ps, qs, ns, hs, ss, li, lo, hi, x2, x3, x4, x5, x6, x9, x11, x12, x13, _, x15, x16, x17, x18, x19, x20, M.go ((Go.refl M.bx).same s14), rfl⟩
theorem blkF (N : LEnv P w K mg base c C) (hg : (XL P w K mg base f cdv A outer s H0 E).A.guards = some []) (hr : Room 8 (XL P w K mg base f cdv A outer s H0 E).A) : Does (XL P w K mg base f cdv A outer s H0 E) (((((((((defBody sLaw).drop 4).drop 5).drop 3).drop 2).drop 4).drop 2).drop 1).take 5) (posD K C) (posD K C) RtL := by
  have T := N.T
  refine Does.of (pss_cons (ps_par (i := 5) (j := 15) rfl scLaw.nd rfl rfl (by decide) rfl rfl (pa_cons (pe_op op_sub (calC N.take (hr.mono (by decide)) (pa_cons (pv 1) (pa_cons (pe_int) pa_nil))) (pe_int)) (pa_cons (pe_op op_cat (pe_lst (pa_cons (pe_callTy call_listL (by rfl) T.list (by decide +kernel) (pa_cons (pe_ix ix_list (pv 10) (pe_int) (fun _ _ => rfl)) pa_nil)) (pa_cons (pe_callTy call_listL (by rfl) T.list (by decide +kernel) (pa_cons (pe_ix ix_list (pv 10) (pe_int) (fun _ _ => rfl)) pa_nil)) pa_nil))) (pe_slice sl_list (pv 10) (po_some (pe_int)) (po_none))) pa_nil)) (by rfl))
 (pss_cons (ps_set (i := 16) scLaw.nd rfl (Or.inl rfl) (calC N.take (hr.mono (by decide)) (pa_cons (pv 1) (pa_cons (pe_int) pa_nil))))
 (pss_mid (ps_if (pt_cmpR op_ne (pv 16) (pe_int) (nomark _))
 (pss_one (ps_asg (calC N.put (hr.mono (by decide)) (pa_cons (pv 1) (pa_cons (pe_ix ix_list (pv 15) (pe_int) (fun _ _ => rfl)) (pa_cons (pe_tup (pa_cons (pv 5) (pa_cons (pe_op op_sub (pv 5) (pe_ix ix_list (pe_lst (pa_cons (pe_int) (pa_cons (pe_int) pa_nil))) (calC N.take (hr.mono (by decide)) (pa_cons (pv 1) (pa_cons (pe_int) pa_nil))) (fun _ _ => rfl))) pa_nil))) pa_nil)))) (pg_sub (pv 15) (pe_int) set_list)))
 (pss_nil))
 (pss_mid (ps_if (pt_cmpR op_ne (pv 16) (pe_int) (nomark _))
 (pss_one (ps_asg (calC N.put (hr.mono (by decide)) (pa_cons (pv 1) (pa_cons (pe_ix ix_list (pv 15) (pe_int) (fun _ _ => rfl)) (pa_cons (pe_tup (pa_cons (pv 5) (pa_cons (pv 5) pa_nil))) pa_nil)))) (pg_sub (pv 15) (pe_int) set_list)))
 (pss_nil))
 (pss_one (ps_if (pt_not (pt_val (calG N.just hg (hr.mono (by decide)) (pa_cons (calC N.madeT (hr.mono (by decide)) (pa_cons (pv 15) pa_nil)) (pa_cons (pe_tup (pa_cons (pe_str) (pa_cons (pe_str) (pa_cons (pe_ix ix_list (pe_lst (pa_cons (pe_str) (pa_cons (pe_str) (pa_cons (pe_str) pa_nil)))) (pv 16) (fun _ _ => rfl)) pa_nil)))) pa_nil)))))
 (pss_one (ps_ret (pe_bl)))
 (pss_nil))))))) ?_
  rintro σ H ⟨sc, B, p, mq, ps, qs, ns, hs, ss, li, lo, hi, x2, x3, x4, x5, x6, x9, x11, x12, x13, x14, x15, x16, x17, x18, x19, x20, M, rfl⟩ D nx rt
  refine ⟨_, rfl, B, _, rfl, M.bx, by decide, by decide, fun d H1 d0 d1 g1 => ?_⟩
  have M1 := M.go g1
  obtain ⟨a, b, l, us, vs, F⟩ := M1.f5
  have lp := M.ok.lp
  have lq := M.ok.lq
  have ln := M.ok.ln
  have lu : us.length ≤ 10 := by rw [F.pa.1]; exact lp
  have lv : vs.length ≤ 10 := by rw [F.pb.1]; exact lq
  have z1 := no_wrong M.ok.hp
  have z2 := no_wrong M.ok.hq
  refine ⟨_, _, rfl, rfl, _, rfl, mq, _, 0, .ref a, rfl, rfl, SqL.of F.hq, rfl, a, us, rfl, SqL.of F.ha, fun w0 hw0 => ?_⟩
  have s2 := same_new (o := .lst us) hw0
  have e0 : upd H1 w0 (.lst us) w0 = some (.lst us) := upd_same
  generalize upd H1 w0 (.lst us) = H2 at s2 e0 ⊢
  refine ⟨_, rfl, mq, _, 1, .ref b, rfl, rfl, SqL.of (s2 _ _ F.hq), rfl, b, vs, rfl, SqL.of (s2 _ _ F.hb), fun w1 hw1 => ?_⟩
  have s3 := same_new (o := .lst vs) hw1
  have s13 := Same.trans s2 s3
  have e1 : upd H2 w1 (.lst vs) w1 = some (.lst vs) := upd_same
  have e0 := s3 _ _ e0
  generalize upd H2 w1 (.lst vs) = H3 at s3 s13 e0 e1 ⊢
  refine ⟨(by show 2 ≤ sizeLine; decide), fun p1 hp1 => ?_⟩
  have s4 := same_new (o := .lst [.ref w0, .ref w1]) hp1
  have n4 : upd H3 p1 (.lst [.ref w0, .ref w1]) p1 = some (.lst [.ref w0, .ref w1]) := upd_same
  generalize upd H3 p1 (.lst [.ref w0, .ref w1]) = H4 at s4 n4 ⊢
  have s14 := Same.trans s13 s4
  refine ⟨_, rfl, _, rfl, mq, _, rfl, SqL.of (s14 _ _ F.hq), fun p2 hp2 => ?_⟩
  rw [show cutV [V.ref a, V.ref b, V.ref l, V.int lo, V.int hi] (some 2) none = [V.ref l, V.int lo, V.int hi] from rfl]
  have s5 := same_new (o := .lst [.ref l, .int lo, .int hi]) hp2
  refine ⟨p1, p2, _, _, rfl, rfl, s5 _ _ n4, upd_same, (by show 5 ≤ sizeLine; decide), fun wq hwq => ⟨_, _, rfl, ?_⟩⟩
  have s6 := Same.trans (Same.trans s4 s5) (same_new (o := .lst ([.ref w0, .ref w1] ++ [.ref l, .int lo, .int hi])) hwq)
  have eq : upd (upd H4 p2 (.lst [.ref l, .int lo, .int hi])) wq (.lst ([.ref w0, .ref w1] ++ [.ref l, .int lo, .int hi])) wq = some (.lst [.ref w0, .ref w1, .ref l, .int lo, .int hi]) := upd_same
  have wq1 : H1 wq = none := sN (Same.trans s14 s5) hwq
  have wq0 : H wq = none := g1.free wq1
  have nwq := M.bx.away wq0
  have n0 := M1.bx.away hw0
  have n1 := M1.bx.away (sN s2 hw1)
  have n0q : w0 ≠ wq := ne_of_none ((Same.trans s4 s5) _ _ e0) hwq
  have n1q : w1 ≠ wq := ne_of_none ((Same.trans s4 s5) _ _ e1) hwq
  have e0 := s6 _ _ e0
  have e1 := s6 _ _ e1
  have s16 := Same.trans s13 s6
  generalize upd (upd H4 p2 (.lst [.ref l, .int lo, .int hi])) wq (.lst ([.ref w0, .ref w1] ++ [.ref l, .int lo, .int hi])) = H6 at s6 s16 eq e0 e1 ⊢
  have g6 : Go B H H6 := g1.same s16
  have nlq : l ≠ wq := ne_of_none F.hl wq1
  have el := s16 _ _ F.hl
  have r0 := F.pa.turn fun t ys h => s16 _ _ h
  have r1 := F.pb.turn fun t ys h => s16 _ _ h
  have nl := F.nl
  clear n4 s5 s4 s3 s2 s13 s14 s6 s16 F M1 g1
  refine ⟨_, rfl, B, _, rfl, g6.bag, by decide, by decide, fun wh H7 h0 h1 g7 => ?_⟩
  have g07 := g6.trans g7
  have eq7 := g7.keep nwq.1 nwq.2 eq
  have e07 := g7.keep n0.1 n0.2 e0
  have e17 := g7.keep n1.1 n1.2 e1
  have el7 := g7.keep nl.1 nl.2 el
  have r07 := r0.turn fun t ys h => g7.tup g6.bag h
  have r17 := r1.turn fun t ys h => g7.tup g6.bag h
  clear eq e0 e1 el r0 r1
  refine ⟨fun σ' H' => ∃ (u : Addr) (zs : List V) (rs : List Pr), σ' = [some (.ref sc), some (.ref B.b), x2, x3, x4, some (.int (d - 20)), x6, some (.ref p), some (.str (lvT hs ss li lo hi)), x9, some (.ref mq), x11, x12, x13, x14, some (.ref wq), some (.int wh), x17, x18, x19, x20] ∧ Go B H H' ∧
    H' wq = some (.lst [.ref u, .ref w1, .ref l, .int lo, .int hi]) ∧ H' u = some (.lst zs) ∧ RawVs H' zs rs ∧ rs.length ≤ 11 ∧ rs.any wrongP = !decide (wh = 1) ∧ H' w1 = some (.lst vs) ∧ RawVs H' vs qs ∧ H' l = some (.lst (ns.map V.int)) ∧ u ≠ wq ∧ (u ≠ B.b ∧ u ≠ B.l), ?_, ?_⟩
  · refine ⟨_, rfl, rfl, _, rfl, ite_b (fun c0 => ?_) (fun c0 => ?_)⟩
    · have c0 : ¬ wh = 1 := fun e => by rw [e] at c0; exact absurd c0 (by decide)
      refine ⟨_, rfl, _, rfl, wq, _, 0, .ref w0, rfl, rfl, SqL.of eq7, rfl, _, rfl, _, rfl, (by show 2 ≤ sizeLine; decide), fun l2 hl2 => ?_⟩
      have s8 := same_new (o := .lst [.int 0, .int 1]) hl2
      have e8 : upd H7 l2 (.lst [.int 0, .int 1]) l2 = some (.lst [.int 0, .int 1]) := upd_same
      have n2 := g7.bag.away hl2
      generalize upd H7 l2 (.lst [.int 0, .int 1]) = H8 at s8 e8 ⊢
      have g8 := (Go.refl g7.bag).same s8
      refine ⟨_, rfl, B, _, rfl, g8.bag, by decide, by decide, fun y H9 y0 y1 g9 => ?_⟩
      obtain ⟨v, av, _, hv⟩ := at_pos (xs := [V.int 0, .int 1]) y0 (by exact y1)
      obtain ⟨k0, rfl, hk0⟩ : ∃ k, v = V.int k ∧ 0 ≤ k := by
        simp only [List.mem_cons, List.not_mem_nil, or_false] at hv
        rcases hv with rfl | rfl <;> exact ⟨_, rfl, by decide⟩
      refine ⟨l2, _, y, _, rfl, rfl, SqL.of (g9.keep n2.1 n2.2 e8), av, _, _, rfl, rfl, (by show 2 ≤ sizeLine; decide), fun t ht => ?_⟩
      have s10 := same_new (o := .tup [.int (d - 20), .int (d - 20 - k0)]) ht
      have e10 : upd H9 t (.tup [.int (d - 20), .int (d - 20 - k0)]) t = some (.tup [.int (d - 20), .int (d - 20 - k0)]) := upd_same
      have g710 := (g8.trans g9).same s10
      generalize upd H9 t (.tup [.int (d - 20), .int (d - 20 - k0)]) = H10 at s10 e10 g710 ⊢
      refine ⟨B, w0, us, _, rfl, g710.bag, g710.keep n0.1 n0.2 e07, n0.1, n0.2, by omega, fun u k H11 hk g11 hu eu => ?_⟩
      have g711 := g710.trans g11
      have nu : u ≠ wq := fun e => by rw [e, g710.keep nwq.1 nwq.2 eq7] at hu; cases hu
      have r11 := r07.turn fun t ys h => g711.tup g7.bag h
      have et11 := g11.tup g710.bag e10
      obtain ⟨rs, rr, rl, rw'⟩ := r11.put et11 (by omega : d - 20 - k0 ≤ d - 20) k
      have eq11 := g711.keep nwq.1 nwq.2 eq7
      have tw : ∀ {o : HO} t ys, H11 t = some (.tup ys) → upd H11 wq o t = some (.tup ys) := fun {o} t ys h => by
        rw [upd_ne (fun e => by rw [e, eq11] at h; cases h)]
        exact h
      refine ⟨_, rfl, wq, _, 0, 0, rfl, rfl, eq11, rfl, ?_⟩
      refine ⟨u, _, rs, rfl, (g07.trans g711).turn M.bx wq0, upd_same, by rw [upd_ne nu]; exact eu, rr.turn tw, by omega, by rw [rw', decide_eq_false c0]; rfl, ?_, (r17.turn fun t ys h => g711.tup g7.bag h).turn tw, ?_, nu, g710.bag.away hu⟩
      · rw [upd_ne n1q]
        exact g711.keep n1.1 n1.2 e17
      · rw [upd_ne nlq]
        exact g711.keep nl.1 nl.2 el7
    · have c0 : wh = 1 := by
        by_cases h : wh = 1
        · exact h
        · rw [show decide (V.int wh = V.int 1) = false from decide_eq_false fun e => h (by injection e)] at c0
          cases c0
      exact ⟨w0, us, ps, rfl, g07, eq7, e07, r07, by omega, by rw [z1, c0]; rfl, e17, r17, el7, n0q, n0⟩
  clear eq7 e07 r07 e17 r17 el7 g07 g7 g6
  rintro σ1 H8 ⟨u, zs, rs, rfl, g8, eq8, eu8, ru8, lr, wr, e18, r18, el8, nu, nub⟩
  refine ⟨fun σ' H' => ∃ (v : Addr) (ws : List V) (qs' : List Pr), σ' = [some (.ref sc), some (.ref B.b), x2, x3, x4, some (.int (d - 20)), x6, some (.ref p), some (.str (lvT hs ss li lo hi)), x9, some (.ref mq), x11, x12, x13, x14, some (.ref wq), some (.int wh), x17, x18, x19, x20] ∧ Go B H H' ∧
    H' wq = some (.lst [.ref u, .ref v, .ref l, .int lo, .int hi]) ∧ H' u = some (.lst zs) ∧ RawVs H' zs rs ∧ H' v = some (.lst ws) ∧ RawVs H' ws qs' ∧ qs'.length ≤ 11 ∧ qs'.any wrongP = !decide (wh = 0) ∧ H' l = some (.lst (ns.map V.int)), ?_, ?_⟩
  · refine ⟨_, rfl, rfl, _, rfl, ite_b (fun c0 => ?_) (fun c0 => ?_)⟩
    · have c0 : ¬ wh = 0 := fun e => by rw [e] at c0; exact absurd c0 (by decide)
      refine ⟨_, rfl, _, rfl, wq, _, 1, .ref w1, rfl, rfl, SqL.of eq8, rfl, _, rfl, _, rfl, (by show 2 ≤ sizeLine; decide), fun t ht => ?_⟩
      have s10 := same_new (o := .tup [.int (d - 20), .int (d - 20)]) ht
      have e10 : upd H8 t (.tup [.int (d - 20), .int (d - 20)]) t = some (.tup [.int (d - 20), .int (d - 20)]) := upd_same
      have g10 := (Go.refl g8.bag).same s10
      generalize upd H8 t (.tup [.int (d - 20), .int (d - 20)]) = H10 at s10 e10 g10 ⊢
      refine ⟨B, w1, vs, _, rfl, g10.bag, s10 _ _ e18, n1.1, n1.2, by omega, fun v k H11 hk g11 hv ev => ?_⟩
      have g811 := g10.trans g11
      have nv : v ≠ wq := fun e => by rw [e, g10.keep nwq.1 nwq.2 eq8] at hv; cases hv
      have r11 := r18.turn fun t ys h => g811.tup g8.bag h
      have et11 := g11.tup g10.bag e10
      obtain ⟨rs', rr, rl, rw'⟩ := r11.put et11 (Int.le_refl _) k
      have eq11 := g811.keep nwq.1 nwq.2 eq8
      have tw : ∀ {o : HO} t ys, H11 t = some (.tup ys) → upd H11 wq o t = some (.tup ys) := fun {o} t ys h => by
        rw [upd_ne (fun e => by rw [e, eq11] at h; cases h)]
        exact h
      refine ⟨_, rfl, wq, _, 1, 1, rfl, rfl, eq11, rfl, ?_⟩
      refine ⟨v, _, rs', rfl, (g8.trans g811).turn M.bx wq0, upd_same, ?_, (ru8.turn fun t ys h => g811.tup g8.bag h).turn tw, by rw [upd_ne nv]; exact ev, rr.turn tw, by omega, by rw [rw', decide_eq_false c0]; rfl, ?_⟩
      · rw [upd_ne nu]
        exact g811.keep nub.1 nub.2 eu8
      · rw [upd_ne nlq]
        exact g811.keep nl.1 nl.2 el8
    · have c0 : wh = 0 := by
        by_cases h : wh = 0
        · exact h
        · rw [show decide (V.int wh = V.int 0) = false from decide_eq_false fun e => h (by injection e)] at c0
          cases c0
      exact ⟨w1, vs, qs, rfl, g8, eq8, eu8, ru8, e18, r18, by omega, by rw [z2, c0]; rfl, el8⟩
  clear eq8 eu8 ru8 e18 r18 el8 g8
  rintro σ2 H9 ⟨v, ws, qs', rfl, g9, eq9, eu9, ru9, ev9, rv9, lq', wv, el9⟩
  have M9 := M.go g9
  refine ⟨_, rfl, wq, u, v, l, rs, qs', ns, lo, hi, rfl, SqL.of eq9, ⟨zs, .inl (SqL.of eu9), ru9.pairs⟩, ⟨ws, .inl (SqL.of ev9), rv9.pairs⟩, SqL.of el9, by omega, by omega, fun z t H10 s10 et => ?_, fun z z' t H10 s10 et => ?_, fun z z' => ?_⟩
  · have hn : ¬ wh = 1 := fun e => by rw [wr, e] at z; exact absurd z (by decide)
    refine ⟨(by show 3 ≤ sizeLine; decide), fun l1 hl1 => ?_⟩
    have s11 := same_new (o := .lst [.str "hollows", .str "summits", .str "hollows"]) hl1
    refine ⟨_, rfl, l1, _, wh, .str "hollows", rfl, rfl, SqL.of upd_same, ?_, (by show 3 ≤ sizeLine; decide), fun t2 ht2 => ?_⟩
    · have hw : wh = 0 ∨ wh = 2 := by omega
      rcases hw with rfl | rfl <;> rfl
    have s12 := Same.trans s11 (same_new (o := .tup [.str "BadValue", .str "BadValue", .str "hollows"]) ht2)
    have et2 := s12 _ _ (of_dif et).2
    delta tNil
    refine spJust_bv wd_hollows (SqT.of et2) (SqT.of upd_same) ⟨_, rfl, iteF ?_⟩
    have sf := Same.trans s10 s12
    exact nx _ _ ⟨sc, B, p, mq, ps, qs, ns, hs, ss, li, lo, hi, x2, x3, x4, _, x6, x9, x11, x12, x13, x14, _, _, x17, x18, x19, x20, M9.go ((Go.refl g9.bag).same sf), rfl⟩
  · have hn : wh = 1 := by
      by_cases h : wh = 1
      · exact h
      · rw [wr, decide_eq_false h] at z
        cases z
    refine ⟨(by show 3 ≤ sizeLine; decide), fun l1 hl1 => ?_⟩
    have s11 := same_new (o := .lst [.str "hollows", .str "summits", .str "hollows"]) hl1
    refine ⟨_, rfl, l1, _, wh, .str "summits", rfl, rfl, SqL.of upd_same, ?_, (by show 3 ≤ sizeLine; decide), fun t2 ht2 => ?_⟩
    · have hw : wh = 1 := by omega
      subst hw; rfl
    have s12 := Same.trans s11 (same_new (o := .tup [.str "BadValue", .str "BadValue", .str "summits"]) ht2)
    have et2 := s12 _ _ (of_dif et).2
    delta tNil
    refine spJust_bv wd_summits (SqT.of et2) (SqT.of upd_same) ⟨_, rfl, iteF ?_⟩
    have sf := Same.trans s10 s12
    exact nx _ _ ⟨sc, B, p, mq, ps, qs, ns, hs, ss, li, lo, hi, x2, x3, x4, _, x6, x9, x11, x12, x13, x14, _, _, x17, x18, x19, x20, M9.go ((Go.refl g9.bag).same sf), rfl⟩
  · exfalso
    have hn : wh = 1 := by
      by_cases h : wh = 1
      · exact h
      · rw [wr, decide_eq_false h] at z
        cases z
    rw [wv, hn] at z'
    exact absurd z' (by decide)
end
end Lw
namespace Lw
open PySem PySem.Spec PyProof.Rows L2 XV TL XM DO
section
variable {P : Program} {w : World} {K : PySem.W.Frag} {mg : Str → Option Value} {base : Heap} {f : Addr} {cdv : Value} {A : Around} {outer : List Env} {s : Shared} {H0 : Hp} {E : XK} {c : CA} {C : Addr}
theorem blkG (N : LEnv P w K mg base c C) (hg : (XL P w K mg base f cdv A outer s H0 E).A.guards = some []) (hr : Room 8 (XL P w K mg base f cdv A outer s H0 E).A) : Does (XL P w K mg base f cdv A outer s H0 E) ((((((((((defBody sLaw).drop 4).drop 5).drop 3).drop 2).drop 4).drop 2).drop 1).drop 5).take 2) (posD K C) (posD K C) RtL := by
  have T := N.T
  refine Does.of (pss_cons (ps_set (i := 17) scLaw.nd rfl (Or.inl rfl) (calC N.of (hr.mono (by decide)) (pa_cons (pv 1) (pa_cons (pe_lst (pa_cons (pe_non) (pa_cons (pe_int) (pa_cons (pe_lst (pa_cons (pe_str) pa_nil)) (pa_cons (pe_bl) (pa_cons (pe_tup (pa_cons (pe_str) pa_nil)) (pa_cons (pe_split (pv 8) (pe_str)) pa_nil))))))) pa_nil))))
 (pss_one (ps_if (pt_not (pt_val (calG N.just hg (hr.mono (by decide)) (pa_cons (calC N.readT (hr.mono (by decide)) (pa_cons (pv 17) pa_nil)) (pa_cons (pe_tup (pa_cons (pe_str) (pa_cons (pe_str) (pa_cons (pe_str) (pa_cons (pe_int) (pa_cons (pe_str) pa_nil)))))) pa_nil)))))
 (pss_one (ps_ret (pe_bl)))
 (pss_nil)))) ?_
  rintro σ H ⟨sc, B, p, mq, ps, qs, ns, hs, ss, li, lo, hi, x2, x3, x4, x5, x6, x9, x11, x12, x13, x14, x15, x16, x17, x18, x19, x20, M, rfl⟩ D nx rt
  have sm := (SortP.sml M.ok M.s1 M.s2 M.s3).sml
  have lz := lvT_len sm
  refine ⟨_, rfl, (by show 1 ≤ sizeLine; decide), fun l1 hl1 => ⟨(by show 1 ≤ sizeLine; decide), fun t1 ht1 => ?_⟩⟩
  have s1 := same_new (o := .lst [.str "lives"]) hl1
  have e1 : upd H l1 (.lst [.str "lives"]) l1 = some (.lst [.str "lives"]) := upd_same
  generalize upd H l1 (.lst [.str "lives"]) = H1 at s1 e1 ht1 ⊢
  have s2 := same_new (o := .tup [.str "lives"]) ht1
  have e2 : upd H1 t1 (.tup [.str "lives"]) t1 = some (.tup [.str "lives"]) := upd_same
  have e1 := s2 _ _ e1
  have s12 := Same.trans s1 s2
  generalize upd H1 t1 (.tup [.str "lives"]) = H2 at s2 s12 e1 e2 ⊢
  refine ⟨_, rfl, ⟨_, rfl⟩, lvT hs ss li lo hi, "\n", rfl, rfl, by decide +kernel, by rw [sizeLine_eq]; omega, fun l2 hl2 => ?_⟩
  have s3 := same_new (o := .lst ((Txt.split (lvT hs ss li lo hi) "\n").map V.str)) hl2
  have e3 : upd H2 l2 (.lst ((Txt.split (lvT hs ss li lo hi) "\n").map V.str)) l2 = some (.lst ((Txt.split (lvT hs ss li lo hi) "\n").map V.str)) := upd_same
  have e1 := s3 _ _ e1
  have e2 := s3 _ _ e2
  have s13 := Same.trans s12 s3
  generalize upd H2 l2 (.lst ((Txt.split (lvT hs ss li lo hi) "\n").map V.str)) = H3 at s3 s13 e1 e2 e3 ⊢
  refine ⟨(by show 6 ≤ sizeLine; decide), fun l3 hl3 => ?_⟩
  have s4 := same_new (o := .lst [.non, .int 3, .ref l1, .bl true, .ref t1, .ref l2]) hl3
  have e1 := s4 _ _ e1
  have e2 := s4 _ _ e2
  have e3 := s4 _ _ e3
  have g4 := (Go.refl M.bx).same (Same.trans s13 s4)
  have n3 := M.bx.away (sN s13 hl3)
  have n1 := M.bx.away hl1
  have n2 := M.bx.away (sN s12 hl2)
  refine ⟨B, l3, _, rfl, g4.bag, upd_same, n3.1, n3.2, (by show 0 < 6; decide), (by show 6 ≤ 1000; decide), fun v H5 hv g5 => ?_⟩
  have g05 := g4.trans g5
  have M5 := M.go g05
  have ns' : NoStr K H5 v := by
    simp only [List.mem_cons, List.not_mem_nil, or_false] at hv
    rcases hv with rfl | rfl | rfl | rfl | rfl | rfl
    · exact ⟨_, .base .non, by decide +kernel⟩
    · exact ⟨_, .base (.int _), by decide +kernel⟩
    · exact ⟨_, .base (.lst (g5.keep n1.1 n1.2 e1)), by decide +kernel⟩
    · exact ⟨_, .base (.bl _), by decide +kernel⟩
    · exact ⟨_, .base (.tup (g5.tup g4.bag e2)), by decide +kernel⟩
    · exact ⟨_, .base (.lst (g5.keep n2.1 n2.2 e3)), by decide +kernel⟩
  refine ⟨_, rfl, v, rfl, .inr ⟨ns', fun t H6 s6 et => ?_⟩⟩
  refine ⟨(by show 5 ≤ sizeLine; decide), fun t2 ht2 => ?_⟩
  have s7 := same_new (o := .tup [.str "BadText", .str "BadText", .str "lives", .int 0, .str "form"]) ht2
  delta tNil
  refine spJust_bt (n := 0) (by unfold Sml; decide) wd_form (SqT.of (s7 _ _ (of_dif et).2)) (SqT.of upd_same) ⟨_, rfl, iteF ?_⟩
  exact nx _ _ ⟨sc, B, p, mq, ps, qs, ns, hs, ss, li, lo, hi, x2, x3, x4, x5, x6, x9, x11, x12, x13, x14, x15, x16, _, x18, x19, x20, M5.go ((Go.refl M5.bx).same (Same.trans s6 s7)), rfl⟩
end
end Lw
namespace Lw
open PySem PySem.Spec PyProof.Rows L2 XV TL XM DO
theorem lvL_len10 {hs ss : List Pr} {ls : List Int} {lo hi : Int} (S : SmlL hs ss ls lo hi) (c1 : hs.length ≤ 10) (c2 : ss.length ≤ 10) (c3 : ls.length ≤ 10) : ∀ y ∈ lvL hs ss ls lo hi ++ [("" : Str)], y.length ≤ 275 := by
  have h1 : ("lives" : Str).length ≤ 24 ∧ ("hollows" : Str).length ≤ 24 ∧ ("summits" : Str).length ≤ 24 ∧ ("loose" : Str).length ≤ 24 ∧ ("lowest " : Str).length ≤ 24 ∧ ("highest " : Str).length ≤ 24 ∧ ("done" : Str).length ≤ 24 ∧ ("" : Str).length ≤ 24 := by decide +kernel
  obtain ⟨a1, a2, a3, a4, a5, a6, a7, a8⟩ := h1
  have b1 := wSp_len a2 S.h
  have b2 := wSp_len a3 S.s
  have b3 := wHe_len a4 S.l
  have b4 := sI_len S.lo
  have b5 := sI_len S.hi
  intro y hy
  simp only [lvL, List.cons_append, List.nil_append, List.mem_cons, List.not_mem_nil, or_false] at hy
  rcases hy with rfl | rfl | rfl | rfl | rfl | rfl | rfl | rfl
  · omega
  · omega
  · omega
  · omega
  · rw [len_add]; omega
  · rw [len_add]; omega
  · omega
  · omega
theorem lvT_len10 {hs ss : List Pr} {ls : List Int} {lo hi : Int} (S : SmlL hs ss ls lo hi) (c1 : hs.length ≤ 10) (c2 : ss.length ≤ 10) (c3 : ls.length ≤ 10) : (lvT hs ss ls lo hi).length ≤ 2208 := by
  have := joined_len (n := 275) (y := "\n") (lvL_len10 S c1 c2 c3) nl1
  exact this
theorem lvT_pos (hs ss : List Pr) (ls : List Int) (lo hi : Int) : 0 < (lvT hs ss ls lo hi).length := by
  have h := nl_lvT hs ss ls lo hi
  have e := split_nl (lvT hs ss ls lo hi)
  have l := split_len e
  have h2 : (Txt.split (lvT hs ss ls lo hi) "\n").length = 8 := by
    have : ((Txt.split (lvT hs ss ls lo hi) "\n").map tl).length = 8 := by
      rw [e]
      show (nl (lvT hs ss ls lo hi)).length = 8
      rw [h]
      rfl
    rw [List.length_map] at this
    exact this
  omega
/-- what a fault says -/
def IsWhy (y : Str) : Prop := y = "form" ∨ y = "pair" ∨ y = "missing"
theorem why_wd {y : Str} (h : IsWhy y) : Wd y := by
  rcases h with rfl | rfl | rfl
  · exact wd_form
  · exact wd_pair
  · exact wd_missing
theorem lineF_why {k : Nat} {l : List Nat} {y : Str} (h : lineF k l = some y) : IsWhy y := by
  unfold lineF at h
  repeat' split at h
  all_goals first
    | (cases h; done)
    | (injection h with h; subst h; first | exact .inl rfl | exact .inr (.inl rfl))
theorem linesF_why : ∀ {ls : List (List Nat)} {k : Nat} {n : Int} {y : Str}, linesF k ls = some (n, y) → IsWhy y ∧ 0 ≤ n ∧ n ≤ ((k + ls.length : Nat) : Int)
  | [], _, _, _, h => by cases h
  | a :: r, k, n, y, h => by
    unfold linesF at h
    cases e : lineF k a with
    | some w =>
      rw [e] at h
      injection h with h
      injection h with h1 h2
      subst h1 h2
      refine ⟨lineF_why e, by omega, ?_⟩
      rw [List.length_cons]
      omega
    | none =>
      rw [e] at h
      obtain ⟨a1, a2, a3⟩ := linesF_why (ls := r) h
      refine ⟨a1, a2, ?_⟩
      rw [List.length_cons]
      omega
theorem livesF_why {ls : List (List Nat)} {n : Int} {y : Str} (h : livesF ls = some (n, y)) : IsWhy y ∧ 0 ≤ n ∧ n ≤ (ls.length : Int) := by
  unfold livesF at h
  cases e : linesF 0 ls.dropLast with
  | some p =>
    obtain ⟨n', y'⟩ := p
    rw [e] at h
    injection h with h
    injection h with h1 h2
    subst h1 h2
    obtain ⟨a1, a2, a3⟩ := linesF_why e
    refine ⟨a1, a2, ?_⟩
    rw [List.length_dropLast] at a3
    omega
  | none =>
    rw [e] at h
    have h : closeF ls = some (n, y) := h
    unfold closeF at h
    repeat' split at h
    all_goals first
      | (cases h; done)
      | (injection h with h; injection h with h1 h2; subst h1 h2; exact ⟨by first | exact .inl rfl | exact .inr (.inr rfl), by omega, by omega⟩)
theorem sml0 : Sml 0 := by unfold Sml; decide
theorem span_sml (x : List Nat) : SmlP ((spanV x).getD (0, 0)) := by
  unfold spanV
  split
  · rename_i p q _
    by_cases h : (numOk p && numOk q) = true
    · rw [if_pos h]
      obtain ⟨h1, h2⟩ := Bool.and_eq_true_iff.mp h
      exact ⟨num_sml h1, num_sml h2⟩
    · rw [if_neg h]
      exact ⟨sml0, sml0⟩
  · exact ⟨sml0, sml0⟩
/-- what a right text tells is small enough to be shown -/
structure BigL (hs ss : List Pr) (ls : List Int) (lo hi : Int) : Prop where
  h : ∀ p ∈ hs, SmlP p
  s : ∀ p ∈ ss, SmlP p
  l : ∀ n ∈ ls, Sml n
  lo : Sml lo
  hi : Sml hi
  nh : hs.length ≤ 60001
  ns : ss.length ≤ 60001
  nl : ls.length ≤ 60001
theorem spJust_big {K : PySem.W.Frag} {H : Hp} {a b : Addr} {hs ss : List Pr} {ls : List Int} {lo hi : Int} {Q : VK} {E : XK} (sm : BigL hs ss ls lo hi) (h1 : Dp K H (.ref a) (.list (fiveD hs ss ls lo hi))) (h2 : Dp K H (.ref b) (.list (fiveD hs ss ls lo hi))) (k : Q (.bl true) H) : spJust K [.ref a, .ref b] H Q E := by
  refine .inl ⟨a, b, _, rfl, h1, h2, ?_, shaped_fiveL .., ?_, eqv_self_five .., k⟩
  · show (PyData.showableAll (hs.map pD) && (PyData.showableAll (ss.map pD) && (PyData.showableAll (ls.map PyData.int) && (PyData.showable (.int lo) && (PyData.showable (.int hi) && true))))) = true
    rw [show_pairs sm.h, show_pairs sm.s, show_ints sm.l, show_int sm.lo, show_int sm.hi]
    rfl
  · have a := shl_row (n := 29) pD (xs := hs) fun p hp => shl_pair (sm.h p hp)
    have b := shl_row (n := 29) pD (xs := ss) fun p hp => shl_pair (sm.s p hp)
    have c := shl_row (n := 11) PyData.int (xs := ls) fun p hp => shl_int (sm.l p hp)
    have d := shl_int sm.lo
    have e := shl_int sm.hi
    have h := listText_len_le (PyData.shownAll (fiveD hs ss ls lo hi))
    have e1 : ((PyData.shownAll (fiveD hs ss ls lo hi)).map (·.length)).sum = (PyData.shown (.tuple (hs.map pD))).length + ((PyData.shown (.tuple (ss.map pD))).length + ((PyData.shown (.tuple (ls.map PyData.int))).length + ((PyData.shown (.int lo)).length + ((PyData.shown (.int hi)).length + 0)))) := rfl
    have e2 : (PyData.shownAll (fiveD hs ss ls lo hi)).length = 5 := rfl
    have n1 := sm.nh
    have n2 := sm.ns
    have n3 := sm.nl
    have hh : (listText (PyData.shownAll (fiveD hs ss ls lo hi))).length ≤ 16000000 := by omega
    rw [sizeLine_eq]
    exact Nat.le_trans hh (by decide)
theorem told_big {z : Str} {hs ss : List Pr} {li : List Int} {lo hi : Int} (hz : z.length ≤ 60000) (hn : livesF (nl z) = none) (t : Told5 (nl z) hs ss li lo hi) : BigL hs ss li lo hi := by
  obtain ⟨l1, l2, l3, l4, l5, w4, w5, h1, h2, h3, h4, h5, s1, s2, s3, t4, t5, rfl, rfl⟩ := t.ex
  have wl : ∀ {k : Nat} {l : List Nat}, (nl z)[k]? = some l → (wtail l).length ≤ 60001 := fun {k l} hl => by
    have := spl_part_len [10] (tl z) [] 0 l (List.mem_of_getElem? hl)
    have h5 := len_tl z
    have h6 := wtail_len l
    simp only [List.length_nil] at this
    omega
  have pr : ∀ {l : List Nat} {hs : List Pr}, SortP (prs (wtail l)) hs → ∀ p ∈ hs, SmlP p := fun {l hs} so p hp => by
    have := so.perm.subset hp
    obtain ⟨x, _, rfl⟩ := List.mem_map.mp this
    exact span_sml x
  have g3 := line_nums (lives_at hn (by decide) h3)
  obtain ⟨u4, v4, o4, _⟩ := line_one (.inl rfl) (lives_at hn (by decide) h4)
  obtain ⟨u5, v5, o5, _⟩ := line_one (.inr rfl) (lives_at hn (by decide) h5)
  rw [t4] at v4
  rw [t5] at v5
  cases v4
  cases v5
  refine ⟨pr s1, pr s2, fun n hm => ?_, num_sml o4, num_sml o5, ?_, ?_, ?_⟩
  · have := s3.perm.subset hm
    obtain ⟨x, hx, rfl⟩ := List.mem_map.mp this
    exact num_sml (g3 x hx)
  · rw [s1.len, prs, List.length_map]
    exact wl h1
  · rw [s2.len, prs, List.length_map]
    exact wl h2
  · rw [s3.len, List.length_map]
    exact wl h3
theorem Told5.one {ls : List (List Nat)} {hs ss hs' ss' : List Pr} {li li' : List Int} {lo hi lo' hi' : Int} (t : Told5 ls hs ss li lo hi) (t' : Told5 ls hs' ss' li' lo' hi') : hs = hs' ∧ ss = ss' ∧ li = li' ∧ lo = lo' ∧ hi = hi' := by
  obtain ⟨l1, l2, l3, l4, l5, w4, w5, h1, h2, h3, h4, h5, s1, s2, s3, t4, t5, rfl, rfl⟩ := t.ex
  obtain ⟨m1, m2, m3, m4, m5, v4, v5, g1, g2, g3, g4, g5, r1, r2, r3, q4, q5, rfl, rfl⟩ := t'.ex
  rw [h1] at g1
  rw [h2] at g2
  rw [h3] at g3
  rw [h4] at g4
  rw [h5] at g5
  cases g1
  cases g2
  cases g3
  cases g4
  cases g5
  rw [t4] at q4
  rw [t5] at q5
  cases q4
  cases q5
  exact ⟨s1.one r1 (List.Perm.refl _), s2.one r2 (List.Perm.refl _), s3.one r3 (List.Perm.refl _), rfl, rfl⟩
end Lw
namespace Lw
open PySem PySem.Spec PyProof.Rows L2 XV TL XM DO
section
variable {P : Program} {w : World} {K : PySem.W.Frag} {mg : Str → Option Value} {base : Heap} {f : Addr} {cdv : Value} {A : Around} {outer : List Env} {s : Shared} {H0 : Hp} {E : XK} {c : CA} {C : Addr}
theorem blkH (N : LEnv P w K mg base c C) (hg : (XL P w K mg base f cdv A outer s H0 E).A.guards = some []) (hr : Room 8 (XL P w K mg base f cdv A outer s H0 E).A) : Does (XL P w K mg base f cdv A outer s H0 E) ((((((((((defBody sLaw).drop 4).drop 5).drop 3).drop 2).drop 4).drop 2).drop 1).drop 5).drop 2) (posD K C) (fun _ _ => False) RtL := by
  have T := N.T
  refine Does.of (pss_cons (ps_for PassesOwn.never rfl (pi_range1 rfl T.range (pa_cons (pe_int) pa_nil)) (pg_name (i := 3) scLaw.nd rfl (Or.inl rfl))
 (pss_cons (ps_set (i := 18) scLaw.nd rfl (Or.inl rfl) (calC N.bent (hr.mono (by decide)) (pa_cons (pv 1) (pa_cons (calC N.written (hr.mono (by decide)) (pa_cons (pv 10) pa_nil)) pa_nil))))
 (pss_mid (ps_if (pt_cmpR op_eq (pv 3) (pe_int) (nomark _))
 (pss_one (ps_set (i := 18) scLaw.nd rfl (Or.inl rfl) (calC N.bent (hr.mono (by decide)) (pa_cons (pv 1) (pa_cons (pe_op op_add_str (pv 18) (pe_str)) pa_nil)))))
 (pss_nil))
 (pss_cons (ps_par (i := 19) (j := 20) rfl scLaw.nd rfl rfl (by decide) rfl rfl (pa_cons (calC N.fault (hr.mono (by decide)) (pa_cons (pv 18) pa_nil)) (pa_cons (calC N.readT (hr.mono (by decide)) (pa_cons (pv 18) pa_nil)) pa_nil)) (by rfl))
 (pss_cons (ps_if (PW.pt (pw_and (pt_cmpR op_isN (pv 19) (pe_non) (nomark _)) (pw_and1 (pt_not (pt_val (calG N.just hg (hr.mono (by decide)) (pa_cons (calC N.told (hr.mono (by decide)) (pa_cons (pv 20) pa_nil)) (pa_cons (calC N.meant (hr.mono (by decide)) (pa_cons (pv 18) pa_nil)) pa_nil))))))))
 (pss_one (ps_ret (pe_bl)))
 (pss_nil))
 (pss_one (ps_if (PW.pt (pw_and (pt_cmpR op_notN (pv 19) (pe_non) (nomark _)) (pw_and1 (pt_not (pt_val (calG N.just hg (hr.mono (by decide)) (pa_cons (pv 20) (pa_cons (pe_tup (pa_cons (pe_str) (pa_cons (pe_str) (pa_cons (pe_str) (pa_cons (pe_ix ix_tup (pv 19) (pe_int) (fun _ _ => rfl)) (pa_cons (pe_ix ix_tup (pv 19) (pe_int) (fun _ _ => rfl)) pa_nil)))))) pa_nil))))))))
 (pss_one (ps_ret (pe_bl)))
 (pss_nil))))))))
 (pss_one (ps_ret (pe_bl)))) ?_
  rintro σ H h0 D nx rt
  refine ⟨4, rfl, by decide, by decide, for_range (n := 4) (fun i σ H => posD K C σ H) h0 ?_ ?_⟩
  · rintro i σ H hi ⟨sc, B, p, mq, ps, qs, ns, hs, ss, li, lo, hi', x2, x3, x4, x5, x6, x9, x11, x12, x13, x14, x15, x16, x17, x18, x19, x20, M, rfl⟩
    have sm := M.ok.sml
    have lz := lvT_len10 sm M.ok.lp M.ok.lq M.ok.ln
    have lp := lvT_pos ps qs ns lo hi'
    obtain ⟨a, b, l, us, vs, F⟩ := M.f5
    refine ⟨_, rfl, _, rfl, mq, a, b, l, ps, qs, ns, lo, hi', rfl, SqL.of F.hq, ⟨us, .inl (SqL.of F.ha), F.pa.pairs⟩, ⟨vs, .inl (SqL.of F.hb), F.pb.pairs⟩, .inl (SqL.of F.hl), sm, fun H1 s1 => ?_⟩
    have g1 := (Go.refl M.bx).same s1
    refine ⟨B, _, rfl, g1.bag, lp, by omega, fun y H2 ly g2 => ?_⟩
    have g12 := g1.trans g2
    refine ⟨fun σ' H' => ∃ z : Str, z.length ≤ 60000 ∧ Go B H H' ∧ σ' = [some (.ref sc), some (.ref B.b), x2, some (.int (0 + i)), x4, x5, x6, some (.ref p), some (.str (lvT hs ss li lo hi')), x9, some (.ref mq), x11, x12, x13, x14, x15, x16, x17, some (.str z), x19, x20], ?_, ?_⟩
    · refine ⟨_, rfl, rfl, _, rfl, ite_b (fun c0 => ?_) (fun c0 => ?_)⟩
      · have l1 : (" " : Str).length = 1 := sp1
        refine ⟨_, rfl, _, rfl, _, _, rfl, rfl, by rw [sizeLine_eq]; omega, B, _, rfl, g2.bag, by rw [len_add]; omega, by rw [len_add]; omega, fun y2 H3 ly2 g3 => ?_⟩
        rw [len_add] at ly2
        exact ⟨y2, by omega, g12.trans g3, rfl⟩
      · exact ⟨y, by omega, g12, rfl⟩
    rintro σ' H3 ⟨z, hz, g3, rfl⟩
    have M3 := M.go g3
    refine ⟨_, rfl, z, rfl, hz, fun fv H4 s4 fi => ?_⟩
    have go : ∀ {H' : Hp} (x19 x20 : Option V), Same H3 H' → posD K C [some (.ref sc), some (.ref B.b), x2, some (.int (0 + i)), x4, x5, x6, some (.ref p), some (.str (lvT hs ss li lo hi')), x9, some (.ref mq), x11, x12, x13, x14, x15, x16, x17, some (.str z), x19, x20] H' := fun {H'} x19 x20 s =>
      ⟨sc, B, p, mq, ps, qs, ns, hs, ss, li, lo, hi', x2, _, x4, x5, x6, x9, x11, x12, x13, x14, x15, x16, x17, _, x19, x20, M3.go ((Go.refl M3.bx).same s), rfl⟩
    cases hf : livesF (nl z) with
    | none =>
      rw [hf] at fi
      cases fi
      refine ⟨_, rfl, .str z, rfl, .inl ⟨z, rfl, hz, fun n y hn => absurd (hn.symm.trans hf) (by intro e; cases e), fun _ bk H5 hs2 ss2 li2 lo2 hi2 hb s5 t5 lv => ⟨_, _, rfl, ?_⟩⟩⟩
      have s45 := Same.trans s4 s5
      refine ⟨_, rfl, rfl, _, rfl, iteT ?_⟩
      refine ⟨_, rfl, bk, _, _, _, _, _, rfl, lv, fun q1 H6 s6 hq1 d1 => ?_⟩
      refine ⟨_, rfl, z, rfl, hz, hf, fun q2 hs3 ss3 li3 lo3 hi3 H7 s7 hq2 t7 d2 => ?_⟩
      obtain ⟨rfl, rfl, rfl, rfl, rfl⟩ := t7.one t5
      delta tNil
      refine spJust_big (told_big hz hf t5) (Dp.mono s7 d1) d2 ⟨_, rfl, iteF ?_⟩
      refine ⟨_, rfl, rfl, _, rfl, iteF ?_⟩
      exact go _ _ (Same.trans s45 (Same.trans s6 s7))
    | some ny =>
      obtain ⟨n, y⟩ := ny
      rw [hf] at fi
      obtain ⟨t0, rfl, et0⟩ := fi
      obtain ⟨yw, n0, n1⟩ := livesF_why hf
      have hn9 : Sml n := by
        have e := split_nl z
        have l := split_len e
        have l2 : (nl z).length = (Txt.split z "\n").length := by
          show (spl [10] 0 [] (tl z)).length = _
          rw [← e, List.length_map]
        unfold Sml
        omega
      refine ⟨_, rfl, .str z, rfl, .inl ⟨z, rfl, hz, fun n' y' hn' t1 H5 s5 et1 => ⟨_, _, rfl, ?_⟩, fun hn => absurd (hn.symm.trans hf) (by intro e; cases e)⟩⟩
      rw [hf] at hn'
      cases hn'
      have s45 := Same.trans s4 s5
      refine ⟨_, rfl, rfl, _, rfl, iteF ?_⟩
      refine ⟨_, rfl, rfl, _, rfl, iteT ?_⟩
      have e0 := s5 _ _ (of_dif et0).2
      have e1 := (of_dif et1).2
      refine ⟨_, rfl, _, rfl, t0, _, 0, .int n, rfl, rfl, SqT.of e0, rfl, _, rfl, t0, _, 1, .str y, rfl, rfl, SqT.of e0, rfl, (by show 5 ≤ sizeLine; decide), fun t2 ht2 => ?_⟩
      have s6 := same_new (o := .tup [.str "BadText", .str "BadText", .str "lives", .int n, .str y]) ht2
      delta tNil
      refine spJust_bt hn9 (why_wd yw) (SqT.of (s6 _ _ e1)) (SqT.of upd_same) ⟨_, rfl, iteF ?_⟩
      exact go _ _ (Same.trans s45 s6)
  · rintro σ H h
    exact rt _ _ rfl
end
end Lw
namespace GO
open PySem PySem.Spec PyProof.Rows L2 Lw
/-! the end of a law whose promise wants that no repr is under way -/
section
variable {P : Program} {w : World} {K : PySem.W.Frag} {mg mz : Str → Option Value} {t : Shared} {H : Hp} {sc fa : Addr} {us : List Value} {is : List Int}
/-- what stands behind the top, the script in H alone -/
structure Top (K : PySem.W.Frag) (mg : Str → Option Value) (t : Shared) (sc : Addr) (us : List Value) (is : List Int) : Prop where
  kin : K.In t.heap
  own : t.heap.Ns mainGlobals mg
  bi : ∃ mz, t.heap.Ns builtinsNs mz ∧ ∀ x : Str, x ≠ "__name__" → mz x = bootBuiltins x
  lim : t.heap.NoLimit
  gens : t.gens = #[]
  at_ : t.heap.get? sc = some { cls := .type "list", data := .seq us.toArray }
  isI : IntsAre us is
  few : is.length ≤ sizeLine
/-- H tracks the script or nothing -/
structure Alone (P : Program) (w : World) (K : PySem.W.Frag) (H : Hp) (h : Heap) (sc : Addr) (is : List Int) : Prop where
  only : Only H
  seq : SqL K H sc (is.map V.int)
  ok : HOk P w H h
  one : ∀ b, H b ≠ none → b = sc
  free : H sc ≠ none → K.lookup sc = none
theorem Alone.dict (T : Top K mg t sc us is) (L : Alone P w K H t.heap sc is) {b : Addr} {o : Obj} {es : Array DictEntry} {n : Nat} (e : t.heap.get? b = some o) (d : o.data = .dict es n) : H b = none := by
  by_cases hb : H b = none
  · exact hb
  · have hs := L.one b hb
    rw [hs, T.at_] at e
    cases e
    cases (show Data.seq us.toArray _ = Data.dict es n from d)
theorem Alone.ns (T : Top K mg t sc us is) (L : Alone P w K H t.heap sc is) {b : Addr} {m : Str → Option Value} (h : t.heap.Ns b m) : (hidT t.heap H).Ns b m := by
  obtain ⟨o, es, n, e, d, r⟩ := h
  exact ⟨o, es, n, hidT_get e (L.dict T e d), d, r⟩
theorem Alone.kin (T : Top K mg t sc us is) (L : Alone P w K H t.heap sc is) : K.In (hidT t.heap H) := by
  intro b o e
  refine hidT_get (T.kin b o e) ?_
  by_cases hb : H b = none
  · exact hb
  · have hs := L.one b hb
    subst hs
    rw [L.free hb] at e
    cases e
theorem Alone.env (T : Top K mg t sc us is) (L : Alone P w K H t.heap sc is) : Env0 P w K mg (hidT t.heap H) callerA [] t H := by
  obtain ⟨mz, z1, z2⟩ := T.bi
  obtain ⟨ml, l1, l2⟩ := T.lim
  have hm : Mod K mg (hidT t.heap H) := ⟨L.kin T, L.ns T T.own, ⟨mz, L.ns T z1, z2⟩, ⟨ml, L.ns T l1, l2⟩⟩
  refine ⟨rfl, hm, fun _ _ e => of_hidT e, by rw [hidT_size]; exact Nat.le_refl _, trivial, fun b hb => ?_, L.ok, .of_eq T.gens⟩
  cases (show b ∈ ([] : List Addr) from hb)
/-- the law's call from H -/
theorem Alone.call {k : Nat} {fd : FuncData} {x : Str} {sp : Sp} (T : Top K mg t sc us is) (L : Alone P w K H t.heap sc is) (hr : Room k callerA) (F : ∀ base : Heap, K.In base → base.Ns mainGlobals mg → FnOkG P w K mg base CX0 k fa fd [x] sp)
    (hb : ∀ (s : Shared) (u : Value), BindsTo s fd ⟨[u], []⟩ [(x, u)]) (hs : sp [.ref sc] H (fun v _ => v = .bl true) fun _ _ _ => False) :
    codeAny (model P w) callerA (.call (.ref fa) ⟨[.ref sc], []⟩) (fun r s' => r = .ok (.ret (.bool true)) ∧ OldK t.heap s'.heap ∧ s'.os = t.os ∧ AllBare s'.gens) t := by
  have G := F _ (L.kin T) (L.ns T T.own)
  refine codeAny_mono (G.run callerA [] t H ⟨[.ref sc], []⟩ [.ref sc] [.ref sc] _ _ rfl hr (L.env T) (hb t (.ref sc)) (.cons rfl .nil) hs) fun r s' q => ?_
  match r, q with
  | .ok (.ret u), ⟨v, H', os, bare, un, ok', rv, qv⟩ =>
    have qv : v = .bl true := qv
    subst qv
    have hu : u = Value.bool true := rv
    subst hu
    refine ⟨rfl, OldK.of_keep fun b o e => ?_, os, bare⟩
    rcases L.only b with hn | ⟨ob, xs, hf⟩
    · exact un.keep b o e hn (fun z => by cases (show b ∈ ([] : List Addr) from z)) (by simp)
    · obtain ⟨i1, _⟩ := L.ok b _ hf
      obtain ⟨i2, _⟩ := ok' b _ (un.frzs b ob _ hf)
      rw [i1] at e
      cases e
      exact i2
theorem call_of {k : Nat} {fd : FuncData} {x : Str} {sp : Sp} (T : Top K mg t sc us is) (hr : Room k callerA) (F : ∀ base : Heap, K.In base → base.Ns mainGlobals mg → FnOkG P w K mg base CX0 k fa fd [x] sp)
    (hb : ∀ (s : Shared) (u : Value), BindsTo s fd ⟨[u], []⟩ [(x, u)]) (hs : ∀ H : Hp, SqL K H sc (is.map V.int) → sp [.ref sc] H (fun v _ => v = .bl true) fun _ _ _ => False) :
    codeAny (model P w) callerA (.call (.ref fa) ⟨[.ref sc], []⟩) (fun r s' => r = .ok (.ret (.bool true)) ∧ OldK t.heap s'.heap ∧ s'.os = t.os ∧ AllBare s'.gens) t := by
  have rv := vals_ints T.isI
  cases hk : K.lookup sc with
  | some o =>
    have e := T.kin sc o hk
    rw [T.at_] at e
    cases e
    have sq : SqL K (fun _ => none) sc (is.map V.int) := .inr ⟨_, us.toArray, _, hk, rfl, rfl, rfl, by rw [List.size_toArray, T.isI.length]; exact T.few, by simpa using rv⟩
    exact Alone.call T ⟨fun _ => .inl rfl, sq, fun b u z => (by cases (show (none : Option HO) = some u from z)), fun b z => absurd rfl z, fun z => absurd rfl z⟩ hr F hb (hs _ sq)
  | none =>
    let Hs : Hp := fun b => if b = sc then some (.frz { cls := .type "list", data := .seq us.toArray } (.lst (is.map V.int))) else none
    have h1 : Hs sc = some (.frz { cls := .type "list", data := .seq us.toArray } (.lst (is.map V.int))) := if_pos rfl
    have h2 : ∀ b, b ≠ sc → Hs b = none := fun b n => if_neg n
    have sq : SqL K Hs sc (is.map V.int) := .inl (.inr ⟨_, h1⟩)
    refine Alone.call T ⟨fun b => ?_, sq, fun b u z => ?_, fun b z => ?_, fun _ => hk⟩ hr F hb (hs _ sq)
    · by_cases n : b = sc
      · rw [n]
        exact .inr ⟨_, _, h1⟩
      · exact .inl (h2 b n)
    · by_cases n : b = sc
      · subst n
        rw [h1] at z
        cases z
        exact ⟨T.at_, by rw [List.length_map]; exact T.few, us, _, rv, T.at_⟩
      · rw [h2 b n] at z
        cases z
    · by_cases n : b = sc
      · exact n
      · exact absurd (h2 b n) z
end
theorem walkG {l : PySem.W.OpenLaw} {q : Program} {loose : List Str} {XP : (Str → Option Value) → Heap → Prop} {YP : World → Heap → Prop} {d : DefRec} {K : Params → PySem.W.Frag} {k : Nat} {sp : PySem.W.Frag → Sp} (hr : Room k callerA) (hn : l.most = some 63) (hdf : d.params.defaults = [])
    (hY : ∀ (w : World) (h : Heap), YP w h → (K w.params).In h)
    (F : ∀ (w : World) (mg : Str → Option Value) (fa : Addr) (h : Heap), (K w.params).In h → h.Ns mainGlobals mg → mg d.name = some (.ref fa) →
      ∃ fd : FuncData, (∀ (s : Shared) (u : Value), BindsTo s fd ⟨[u], []⟩ [("script", u)]) ∧ ∀ base : Heap, (K w.params).In base → base.Ns mainGlobals mg → FnOkG l.prog w (K w.params) mg base CX0 k fa fd ["script"] (sp (K w.params)))
    (hs : ∀ (K : PySem.W.Frag) (H : Hp) (a : Addr) (is : List Int), is.length ≤ 63 → SqL K H a (is.map V.int) → sp K [.ref a] H (fun v _ => v = .bl true) fun _ _ _ => False) :
    PySem.W.WalkO q loose XP YP l.row.toRowW d [] (fun f vs => PySem.call f vs) := by
  refine Att.attach_call hn hdf fun w _ t mg mz fa _ _ _ _ sc us is G Y _ _ _ hmg hobj hints hlen hgens => ?_
  have kin := hY w _ Y
  obtain ⟨fd, hb, hF⟩ := F w mg fa _ kin G.T.g hmg
  exact call_of ⟨kin, G.T.g, ⟨mz, G.T.b, G.T.builtins⟩, G.T.nolimit, hgens, hobj, hints, Nat.le_trans hlen (by decide)⟩ hr hF hb fun H hS => hs _ H sc is hlen hS
end GO
namespace Lw
open PySem PySem.Spec PyProof.Rows L2 XV TL XM DO
section
variable {P : Program} {w : World} {K : PySem.W.Frag} {mg : Str → Option Value} {base : Heap} {c : CA} {C : Addr}
theorem ok_lawG {f : Addr} {fd : FuncData} (F : Fun K "law" "law" sLaw f fd) (N : LEnv P w K mg base c C) : FnOkG P w K mg base CX0 9 f fd ["script"] (spLaw K) := by
  refine okG F scLaw (fun vs H Q E h => ?_) (fun cdv A outer s H vs Q E hg hr h => ?_)
  · obtain ⟨a, ns, rfl, _⟩ := h
    rfl
  · obtain ⟨a, ns, rfl, hS, hl, k⟩ := h
    have D : Does (XL P w K mg base f cdv A outer s H E) (defBody sLaw) (preA K) (fun _ _ => False) RtL :=
      .cut 4 (blkA N (by exact hr)) (.cut 5 (blkB N (by exact hg) (by exact hr)) (.cut 3 (blkC N (by exact hg) (by exact hr)) (.cut 2 (blkD1 N (by exact hr)) (.cut 4 (blkD2 N (by exact hg) (by exact hr)) (.cut 2 (blkE1 N (by exact hr)) (.cut 1 (blkE2 N (by exact hr)) (.cut 5 (blkF N (by exact hg) (by exact hr)) (.cut 2 (blkG N (by exact hg) (by exact hr)) (blkH N (by exact hg) (by exact hr))))))))))
    refine ⟨_, D.pss, ⟨a, ns, rfl, hS, hl⟩, fun _ _ h => h.elim, fun v H' h => ?_⟩
    have h : v = .bl true := h
    subst h
    exact k H'
end
end Lw
namespace Lw
open PySem PySem.Spec PyProof.Rows L2 XV TL XM DO
/-- what the written part must say of an own exception class -/
def clOk (K : PySem.W.Frag) (C f : Addr) (tl : List Value) (newId : String) (ns : List Str) : Bool :=
  PySem.W.excInitIn K C tl newId && (PySem.W.excOver K C tl && (PySem.W.hasDictIn K C && (PySem.W.findIn K (.ref C) "__setattr__" == some (some (.builtin "object.__setattr__")) && (PySem.W.findIn K (.ref C) "__getattribute__" == some (some (.builtin "BaseException.__getattribute__")) &&
  (PySem.W.findIn K (.ref C) "__getattr__" == some none && (PySem.W.subIn K (.ref C) (.type "BaseException") == some true && (PySem.W.typeIn K (.ref C) == some (.type "type") && (PySem.W.keepIn K (.ref C) && (PySem.W.findIn K (.ref C) "__class__" == some (some (.builtin "object.__class__")) &&
  (PySem.W.mroIn K C (.type "object") == some true && (PySem.W.typeIn K (.ref f) == some (.type "function") && ("code" :: ns : List Str).all fun x => PySem.W.findIn K (.ref C) x == some none)))))))))))
theorem xc_of {K : PySem.W.Frag} {mg : Str → Option Value} {nm qn : Str} {newId : String} {tl : List Value} {st : Stmt} {ns : List Str} {C f : Addr} {fd : FuncData} (h : clOk K C f tl newId ns = true) (iC : PySem.W.findIn K (.ref C) "__init__" = some (some (.ref f))) (F : Fun K "__init__" qn st f fd)
    (bd : Binds K fd ("self" :: ns) []) (g : mg nm = some (.ref C)) : XC K mg nm qn newId tl st ns C f fd := by
  simp only [clOk, Bool.and_eq_true, beq_iff_eq, List.all_eq_true] at h
  obtain ⟨h1, h2, h3, h4, h5, h6, h7, h8, h9, h10, h11, h12, h13⟩ := h
  exact ⟨⟨h1, h2, h3, h4, h5, h6, h7, h8, h9, h10, h11⟩, iC, h12, F, bd, g, h13⟩
/-- a written tuple of texts -/
def strIs : Value → Str → Bool
  | .str x _, w => x == w
  | _, _ => false
def strsIs : List Value → List Str → Bool
  | [], [] => true
  | v :: vs, w :: ws => strIs v w && strsIs vs ws
  | _, _ => false
def strsOk (K : PySem.W.Frag) (a : Addr) (ws : List Str) : Bool :=
  match K.lookup a with
  | some o => o.cls == .type "tuple" && (match o.data with
    | .seq its _ => decide (its.size ≤ 1000) && strsIs its.toList ws
    | _ => false)
  | none => false
theorem strIs_rel {v : Value} {w : Str} (h : strIs v w = true) : RelV (.str w) v := by
  unfold strIs at h
  split at h
  · rename_i x t
    have e : x = w := eq_of_beq h
    subst e
    exact ⟨_, rfl⟩
  · cases h
theorem strsIs_vals : ∀ {vs : List Value} {ws : List Str}, strsIs vs ws = true → Vals (ws.map V.str) vs
  | [], [], _ => .nil
  | v :: vs, w :: ws, h => by
    obtain ⟨a, b⟩ := Bool.and_eq_true_iff.mp (show (strIs v w && strsIs vs ws) = true from h)
    exact .cons (strIs_rel a) (strsIs_vals b)
  | [], _ :: _, h => by cases h
  | _ :: _, [], h => by cases h
theorem strs_at {K : PySem.W.Frag} {a : Addr} {ws : List Str} (h : strsOk K a ws = true) (H : Hp) : SqT K H a (ws.map V.str) := by
  unfold strsOk at h
  split at h
  · rename_i o e
    obtain ⟨h1, h2⟩ := Bool.and_eq_true_iff.mp h
    split at h2
    · rename_i its n d
      obtain ⟨h3, h4⟩ := Bool.and_eq_true_iff.mp h2
      exact .inr ⟨o, its, n, e, eq_of_beq h1, d, Nat.le_trans (of_decide_eq_true h3) (by decide), strsIs_vals h4⟩
    · cases h2
  · cases h
/-- what it must say of Lives -/
def lvOk (K : PySem.W.Frag) (C fI fT fE fL fR : Addr) : Bool :=
  PySem.W.plainGet K C Str.empty && (PySem.W.hasDictIn K C && (PySem.W.plainOver K C && (PySem.W.findIn K (.ref C) "__setattr__" == some (some (.builtin "object.__setattr__")) && ((["hollows", "summits", "loose", "lowest", "highest", "handles"] : List Str).all (fun x => PySem.W.findIn K (.ref C) x == some none) &&
  (PySem.W.makesIn K C && (PySem.W.isFn K (.ref fI) && (PySem.W.keepIn K (.ref C) && (PySem.W.specialIn K (.ref C) "__getattribute__" == some (some (.builtin "type.__getattribute__")) && (PySem.W.readsIn K C (.type "type") &&
  (PySem.W.findIn K (.ref C) "__class__" == some (some (.builtin "object.__class__")) && (PySem.W.specialIn K (.builtin "object.__class__") "__get__" == some (some (.builtin "getset_descriptor.__get__")) && (PySem.W.takesIn K (.builtin "object.__class__") == some true && (PySem.W.mroIn K C (.type "object") == some true && (PySem.W.kitOne K (.ref C) (.ref C) == some true &&
  (PySem.W.isFn K (.ref fT) && (PySem.W.isFn K (.ref fE) && (PySem.W.isFn K (.ref fL) && (PySem.W.isFn K (.ref fR) && (PySem.W.findIn K (.ref C) "__ne__" == some (some (.builtin "object.__ne__")) && (PySem.W.notFirst K C (.type "str") && PySem.W.kitOne K (.type "str") (.ref C) == some false))))))))))))))))))))
structure LvFacts (K : PySem.W.Frag) (C fI fT fE fL fR : Addr) : Prop where
  L : LCls K C
  mkC : PySem.W.findIn K (.ref C) "__init__" = some (some (.ref fI)) → Mk K C fI
  ga : PySem.W.specialIn K (.ref C) "__getattribute__" = some (some (.builtin "type.__getattribute__"))
  rd : PySem.W.readsIn K C (.type "type") = true
  I : C8.InsC K C
  T : PySem.W.isFn K (.ref fT) = true
  E : PySem.W.isFn K (.ref fE) = true
  N : PySem.W.isFn K (.ref fL) = true
  R : PySem.W.isFn K (.ref fR) = true
  eq : PySem.W.findIn K (.ref C) "__eq__" = some (some (.ref fE)) → LEq K C fE
  obj : PySem.W.mroIn K C (.type "object") = some true
theorem lv_of {K : PySem.W.Frag} {C fI fT fE fL fR : Addr} (h : lvOk K C fI fT fE fL fR = true) : LvFacts K C fI fT fE fL fR := by
  simp only [lvOk, Bool.and_eq_true, beq_iff_eq, List.all_eq_true] at h
  obtain ⟨h1, h2, h3, h4, h5, h6, h7, h8, h9, h10, h11, h12, h13, h14, h15, h16, h17, h18, h19, h20, h21, h22⟩ := h
  have cl : Cls K C := ⟨h1, h2, h3, h4⟩
  exact ⟨⟨cl, h5 _ (by simp), h5 _ (by simp), h5 _ (by simp), h5 _ (by simp), h5 _ (by simp), h5 _ (by simp)⟩, fun e => ⟨h6, e, h7, h8⟩, h9, h10, ⟨cl, h11, h12, h13, h14, h15⟩, h16, h17, h18, h19, fun e => ⟨e, h17, h20, h21, h22⟩, h14⟩
def exOk (K : PySem.W.Frag) (CB CV : Addr) : Bool := PySem.W.exmOne K (.ref CB) (.ref CB) == some true && PySem.W.exmOne K (.ref CV) (.ref CV) == some true
theorem all_mk {l : PySem.W.OpenLaw} {w : World} {K : PySem.W.Frag} {h : Heap} {mg : Str → Option Value} {fa : Addr} {fd0 fd1 fd2 fd3 fd4 fd5 fd6 fd7 fd8 fd9 fd10 fd11 fd12 fd13 fd14 fd15 fd16 fd17 fd18 fd19 fd20 fd21 fd22 fd23 fd24 fd25 fd26 fd27 fd28 fm0 fm1 fm2 fm3 fm4 fm5 fx0 fx1 fx2 CB CV CM C qR aW : Addr} {odd0 and0 odd1 and1 odd2 and2 odd3 and3 odd4 and4 odd5 and5 odd6 and6 odd7 and7 odd8 and8 odd9 and9 odd10 and10 odd11 and11 odd12 and12 odd13 and13 odd14 and14 odd15 and15 odd16 and16 odd17 and17 odd18 and18 odd19 and19 odd20 and20 odd21 and21 odd22 and22 odd23 and23 odd24 and24 odd25 and25 odd26 and26 odd27 and27 odd28 and28 odm0 anm0 odm1 anm1 odm2 anm2 odm3 anm3 odm4 anm4 odm5 anm5 odx0 anx0 odx1 anx1 odx2 anx2 : Option Addr} {sld0 sld1 sld2 sld3 sld4 sld5 sld6 sld7 sld8 sld9 sld10 sld11 sld12 sld13 sld14 sld15 sld16 sld17 sld18 sld19 sld20 sld21 sld22 sld23 sld24 sld25 sld26 sld27 sld28 slm0 slm1 slm2 slm3 slm4 slm5 slx0 slx1 slx2 : Array (Option Value)} {ocd0 kVd0 dcd0 pmd0 cdd0 ctd0 ocd1 kVd1 dcd1 pmd1 cdd1 ctd1 ocd2 kVd2 dcd2 pmd2 cdd2 ctd2 ocd3 kVd3 dcd3 pmd3 cdd3 ctd3 ocd4 kVd4 dcd4 pmd4 cdd4 ctd4 ocd5 kVd5 dcd5 pmd5 cdd5 ctd5 ocd6 kVd6 dcd6 pmd6 cdd6 ctd6 ocd7 kVd7 dcd7 pmd7 cdd7 ctd7 ocd8 kVd8 dcd8 pmd8 cdd8 ctd8 ocd9 kVd9 dcd9 pmd9 cdd9 ctd9 ocd10 kVd10 dcd10 pmd10 cdd10 ctd10 ocd11 kVd11 dcd11 pmd11 cdd11 ctd11 ocd12 kVd12 dcd12 pmd12 cdd12 ctd12 ocd13 kVd13 dcd13 pmd13 cdd13 ctd13 ocd14 kVd14 dcd14 pmd14 cdd14 ctd14 ocd15 kVd15 dcd15 pmd15 cdd15 ctd15 ocd16 kVd16 dcd16 pmd16 cdd16 ctd16 ocd17 kVd17 dcd17 pmd17 cdd17 ctd17 ocd18 kVd18 dcd18 pmd18 cdd18 ctd18 ocd19 kVd19 dcd19 pmd19 cdd19 ctd19 ocd20 kVd20 dcd20 pmd20 cdd20 ctd20 ocd21 kVd21 dcd21 pmd21 cdd21 ctd21 ocd22 kVd22 dcd22 pmd22 cdd22 ctd22 ocd23 kVd23 dcd23 pmd23 cdd23 ctd23 ocd24 kVd24 dcd24 pmd24 cdd24 ctd24 ocd25 kVd25 dcd25 pmd25 cdd25 ctd25 ocd26 kVd26 dcd26 pmd26 cdd26 ctd26 ocd27 kVd27 dcd27 pmd27 cdd27 ctd27 ocd28 kVd28 dcd28 pmd28 cdd28 ctd28 ocm0 kVm0 dcm0 pmm0 cdm0 ctm0 ocm1 kVm1 dcm1 pmm1 cdm1 ctm1 ocm2 kVm2 dcm2 pmm2 cdm2 ctm2 ocm3 kVm3 dcm3 pmm3 cdm3 ctm3 ocm4 kVm4 dcm4 pmm4 cdm4 ctm4 ocm5 kVm5 dcm5 pmm5 cdm5 ctm5 ocx0 kVx0 dcx0 pmx0 cdx0 ctx0 ocx1 kVx1 dcx1 pmx1 cdx1 ctx1 ocx2 kVx2 dcx2 pmx2 cdx2 ctx2 : Value} {rR : List Value} {tL : Tok} (X : K.In h) (G : h.Ns mainGlobals mg) (hfa : mg "law" = some (.ref fa))
    (ad0 : PySem.W.nsIn K mainGlobals "_law_box" = some (some (.ref fd0)))
    (ld0 : K.lookup fd0 = some ⟨ocd0, odd0, .func (PySem.W.fnOf "_law_box" "_law_box" (defArgs sBox) (defBody sBox) (defScope sBox) .none kVd0 dcd0 pmd0 and0 cdd0 ctd0), sld0⟩)
    (cd0 : PySem.W.codeIn K cdd0 "_law_box" = true)
    (kd0 : PySem.W.keepIn K (.ref fd0) = true)
    (ad1 : PySem.W.nsIn K mainGlobals "_law_take" = some (some (.ref fd1)))
    (ld1 : K.lookup fd1 = some ⟨ocd1, odd1, .func (PySem.W.fnOf "_law_take" "_law_take" (defArgs sTake) (defBody sTake) (defScope sTake) .none kVd1 dcd1 pmd1 and1 cdd1 ctd1), sld1⟩)
    (cd1 : PySem.W.codeIn K cdd1 "_law_take" = true)
    (kd1 : PySem.W.keepIn K (.ref fd1) = true)
    (ad2 : PySem.W.nsIn K mainGlobals "_law_of" = some (some (.ref fd2)))
    (ld2 : K.lookup fd2 = some ⟨ocd2, odd2, .func (PySem.W.fnOf "_law_of" "_law_of" (defArgs sOf) (defBody sOf) (defScope sOf) .none kVd2 dcd2 pmd2 and2 cdd2 ctd2), sld2⟩)
    (cd2 : PySem.W.codeIn K cdd2 "_law_of" = true)
    (kd2 : PySem.W.keepIn K (.ref fd2) = true)
    (ad3 : PySem.W.nsIn K mainGlobals "_law_mixed" = some (some (.ref fd3)))
    (ld3 : K.lookup fd3 = some ⟨ocd3, odd3, .func (PySem.W.fnOf "_law_mixed" "_law_mixed" (defArgs sMixed) (defBody sMixed) (defScope sMixed) .none kVd3 dcd3 pmd3 and3 cdd3 ctd3), sld3⟩)
    (cd3 : PySem.W.codeIn K cdd3 "_law_mixed" = true)
    (kd3 : PySem.W.keepIn K (.ref fd3) = true)
    (ad4 : PySem.W.nsIn K mainGlobals "_law_put" = some (some (.ref fd4)))
    (ld4 : K.lookup fd4 = some ⟨ocd4, odd4, .func (PySem.W.fnOf "_law_put" "_law_put" (defArgs sPut) (defBody sPut) (defScope sPut) .none kVd4 dcd4 pmd4 and4 cdd4 ctd4), sld4⟩)
    (cd4 : PySem.W.codeIn K cdd4 "_law_put" = true)
    (kd4 : PySem.W.keepIn K (.ref fd4) = true)
    (ad5 : PySem.W.nsIn K mainGlobals "_law_number" = some (some (.ref fd5)))
    (ld5 : K.lookup fd5 = some ⟨ocd5, odd5, .func (PySem.W.fnOf "_law_number" "_law_number" (defArgs sNumber) (defBody sNumber) (defScope sNumber) .none kVd5 dcd5 pmd5 and5 cdd5 ctd5), sld5⟩)
    (cd5 : PySem.W.codeIn K cdd5 "_law_number" = true)
    (kd5 : PySem.W.keepIn K (.ref fd5) = true)
    (ad6 : PySem.W.nsIn K mainGlobals "_law_pair" = some (some (.ref fd6)))
    (ld6 : K.lookup fd6 = some ⟨ocd6, odd6, .func (PySem.W.fnOf "_law_pair" "_law_pair" (defArgs sPair) (defBody sPair) (defScope sPair) .none kVd6 dcd6 pmd6 and6 cdd6 ctd6), sld6⟩)
    (cd6 : PySem.W.codeIn K cdd6 "_law_pair" = true)
    (kd6 : PySem.W.keepIn K (.ref fd6) = true)
    (ad7 : PySem.W.nsIn K mainGlobals "_law_row" = some (some (.ref fd7)))
    (ld7 : K.lookup fd7 = some ⟨ocd7, odd7, .func (PySem.W.fnOf "_law_row" "_law_row" (defArgs sRow) (defBody sRow) (defScope sRow) .none kVd7 dcd7 pmd7 and7 cdd7 ctd7), sld7⟩)
    (cd7 : PySem.W.codeIn K cdd7 "_law_row" = true)
    (kd7 : PySem.W.keepIn K (.ref fd7) = true)
    (ad8 : PySem.W.nsIn K mainGlobals "_law_words" = some (some (.ref fd8)))
    (ld8 : K.lookup fd8 = some ⟨ocd8, odd8, .func (PySem.W.fnOf "_law_words" "_law_words" (defArgs sWords) (defBody sWords) (defScope sWords) .none kVd8 dcd8 pmd8 and8 cdd8 ctd8), sld8⟩)
    (cd8 : PySem.W.codeIn K cdd8 "_law_words" = true)
    (kd8 : PySem.W.keepIn K (.ref fd8) = true)
    (ad9 : PySem.W.nsIn K mainGlobals "_law_written" = some (some (.ref fd9)))
    (ld9 : K.lookup fd9 = some ⟨ocd9, odd9, .func (PySem.W.fnOf "_law_written" "_law_written" (defArgs sWritten) (defBody sWritten) (defScope sWritten) .none kVd9 dcd9 pmd9 and9 cdd9 ctd9), sld9⟩)
    (cd9 : PySem.W.codeIn K cdd9 "_law_written" = true)
    (kd9 : PySem.W.keepIn K (.ref fd9) = true)
    (ad10 : PySem.W.nsIn K mainGlobals "_law_is_number" = some (some (.ref fd10)))
    (ld10 : K.lookup fd10 = some ⟨ocd10, odd10, .func (PySem.W.fnOf "_law_is_number" "_law_is_number" (defArgs sIsNum) (defBody sIsNum) (defScope sIsNum) .none kVd10 dcd10 pmd10 and10 cdd10 ctd10), sld10⟩)
    (cd10 : PySem.W.codeIn K cdd10 "_law_is_number" = true)
    (kd10 : PySem.W.keepIn K (.ref fd10) = true)
    (ad11 : PySem.W.nsIn K mainGlobals "_law_line" = some (some (.ref fd11)))
    (ld11 : K.lookup fd11 = some ⟨ocd11, odd11, .func (PySem.W.fnOf "_law_line" "_law_line" (defArgs sLLine) (defBody sLLine) (defScope sLLine) .none kVd11 dcd11 pmd11 and11 cdd11 ctd11), sld11⟩)
    (cd11 : PySem.W.codeIn K cdd11 "_law_line" = true)
    (kd11 : PySem.W.keepIn K (.ref fd11) = true)
    (ad12 : PySem.W.nsIn K mainGlobals "_law_fault" = some (some (.ref fd12)))
    (ld12 : K.lookup fd12 = some ⟨ocd12, odd12, .func (PySem.W.fnOf "_law_fault" "_law_fault" (defArgs sFault) (defBody sFault) (defScope sFault) .none kVd12 dcd12 pmd12 and12 cdd12 ctd12), sld12⟩)
    (cd12 : PySem.W.codeIn K cdd12 "_law_fault" = true)
    (kd12 : PySem.W.keepIn K (.ref fd12) = true)
    (ad13 : PySem.W.nsIn K mainGlobals "_law_meant" = some (some (.ref fd13)))
    (ld13 : K.lookup fd13 = some ⟨ocd13, odd13, .func (PySem.W.fnOf "_law_meant" "_law_meant" (defArgs sMeant) (defBody sMeant) (defScope sMeant) .none kVd13 dcd13 pmd13 and13 cdd13 ctd13), sld13⟩)
    (cd13 : PySem.W.codeIn K cdd13 "_law_meant" = true)
    (kd13 : PySem.W.keepIn K (.ref fd13) = true)
    (ad14 : PySem.W.nsIn K mainGlobals "_law_bent" = some (some (.ref fd14)))
    (ld14 : K.lookup fd14 = some ⟨ocd14, odd14, .func (PySem.W.fnOf "_law_bent" "_law_bent" (defArgs sBent) (defBody sBent) (defScope sBent) .none kVd14 dcd14 pmd14 and14 cdd14 ctd14), sld14⟩)
    (cd14 : PySem.W.codeIn K cdd14 "_law_bent" = true)
    (kd14 : PySem.W.keepIn K (.ref fd14) = true)
    (ad15 : PySem.W.nsIn K mainGlobals "_law_read" = some (some (.ref fd15)))
    (ld15 : K.lookup fd15 = some ⟨ocd15, odd15, .func (PySem.W.fnOf "_law_read" "_law_read" (defArgs sReadT) (defBody sReadT) (defScope sReadT) .none kVd15 dcd15 pmd15 and15 cdd15 ctd15), sld15⟩)
    (cd15 : PySem.W.codeIn K cdd15 "_law_read" = true)
    (kd15 : PySem.W.keepIn K (.ref fd15) = true)
    (ad16 : PySem.W.nsIn K mainGlobals "_law_made" = some (some (.ref fd16)))
    (ld16 : K.lookup fd16 = some ⟨ocd16, odd16, .func (PySem.W.fnOf "_law_made" "_law_made" (defArgs sMadeT) (defBody sMadeT) (defScope sMadeT) .none kVd16 dcd16 pmd16 and16 cdd16 ctd16), sld16⟩)
    (cd16 : PySem.W.codeIn K cdd16 "_law_made" = true)
    (kd16 : PySem.W.keepIn K (.ref fd16) = true)
    (ad17 : PySem.W.nsIn K mainGlobals "_law_just" = some (some (.ref fd17)))
    (ld17 : K.lookup fd17 = some ⟨ocd17, odd17, .func (PySem.W.fnOf "_law_just" "_law_just" (defArgs sJust) (defBody sJust) (defScope sJust) .none kVd17 dcd17 pmd17 and17 cdd17 ctd17), sld17⟩)
    (cd17 : PySem.W.codeIn K cdd17 "_law_just" = true)
    (kd17 : PySem.W.keepIn K (.ref fd17) = true)
    (ad18 : PySem.W.nsIn K mainGlobals "_law_told_lives" = some (some (.ref fd18)))
    (ld18 : K.lookup fd18 = some ⟨ocd18, odd18, .func (PySem.W.fnOf "_law_told_lives" "_law_told_lives" (defArgs sTold) (defBody sTold) (defScope sTold) .none kVd18 dcd18 pmd18 and18 cdd18 ctd18), sld18⟩)
    (cd18 : PySem.W.codeIn K cdd18 "_law_told_lives" = true)
    (kd18 : PySem.W.keepIn K (.ref fd18) = true)
    (ad19 : PySem.W.nsIn K mainGlobals "number_in" = some (some (.ref fd19)))
    (ld19 : K.lookup fd19 = some ⟨ocd19, odd19, .func (PySem.W.fnOf "number_in" "number_in" (defArgs sNumIn) (defBody sNumIn) (defScope sNumIn) .none kVd19 dcd19 pmd19 and19 cdd19 ctd19), sld19⟩)
    (cd19 : PySem.W.codeIn K cdd19 "number_in" = true)
    (kd19 : PySem.W.keepIn K (.ref fd19) = true)
    (ad20 : PySem.W.nsIn K mainGlobals "span_in" = some (some (.ref fd20)))
    (ld20 : K.lookup fd20 = some ⟨ocd20, odd20, .func (PySem.W.fnOf "span_in" "span_in" (defArgs sSpan) (defBody sSpan) (defScope sSpan) .none kVd20 dcd20 pmd20 and20 cdd20 ctd20), sld20⟩)
    (cd20 : PySem.W.codeIn K cdd20 "span_in" = true)
    (kd20 : PySem.W.keepIn K (.ref fd20) = true)
    (ad21 : PySem.W.nsIn K mainGlobals "text_pieces" = some (some (.ref fd21)))
    (ld21 : K.lookup fd21 = some ⟨ocd21, odd21, .func (PySem.W.fnOf "text_pieces" "text_pieces" (defArgs sPieces) (defBody sPieces) (defScope sPieces) .none kVd21 dcd21 pmd21 and21 cdd21 ctd21), sld21⟩)
    (cd21 : PySem.W.codeIn K cdd21 "text_pieces" = true)
    (kd21 : PySem.W.keepIn K (.ref fd21) = true)
    (ad22 : PySem.W.nsIn K mainGlobals "close_text" = some (some (.ref fd22)))
    (ld22 : K.lookup fd22 = some ⟨ocd22, odd22, .func (PySem.W.fnOf "close_text" "close_text" (defArgs sClose) (defBody sClose) (defScope sClose) .none kVd22 dcd22 pmd22 and22 cdd22 ctd22), sld22⟩)
    (cd22 : PySem.W.codeIn K cdd22 "close_text" = true)
    (kd22 : PySem.W.keepIn K (.ref fd22) = true)
    (ad23 : PySem.W.nsIn K mainGlobals "read_lives" = some (some (.ref fd23)))
    (ld23 : K.lookup fd23 = some ⟨ocd23, odd23, .func (PySem.W.fnOf "read_lives" "read_lives" (defArgs sLives) (defBody sLives) (defScope sLives) .none kVd23 dcd23 pmd23 and23 cdd23 ctd23), sld23⟩)
    (cd23 : PySem.W.codeIn K cdd23 "read_lives" = true)
    (kd23 : PySem.W.keepIn K (.ref fd23) = true)
    (ad24 : PySem.W.nsIn K mainGlobals "read_line" = some (some (.ref fd24)))
    (ld24 : K.lookup fd24 = some ⟨ocd24, odd24, .func (PySem.W.fnOf "read_line" "read_line" (defArgs sLine) (defBody sLine) (defScope sLine) .none kVd24 dcd24 pmd24 and24 cdd24 ctd24), sld24⟩)
    (cd24 : PySem.W.codeIn K cdd24 "read_line" = true)
    (kd24 : PySem.W.keepIn K (.ref fd24) = true)
    (ad25 : PySem.W.nsIn K mainGlobals "written_spans" = some (some (.ref fd25)))
    (ld25 : K.lookup fd25 = some ⟨ocd25, odd25, .func (PySem.W.fnOf "written_spans" "written_spans" (defArgs sWS) (defBody sWS) (defScope sWS) .none kVd25 dcd25 pmd25 and25 cdd25 ctd25), sld25⟩)
    (cd25 : PySem.W.codeIn K cdd25 "written_spans" = true)
    (kd25 : PySem.W.keepIn K (.ref fd25) = true)
    (ad26 : PySem.W.nsIn K mainGlobals "written_heights" = some (some (.ref fd26)))
    (ld26 : K.lookup fd26 = some ⟨ocd26, odd26, .func (PySem.W.fnOf "written_heights" "written_heights" (defArgs sWH) (defBody sWH) (defScope sWH) .none kVd26 dcd26 pmd26 and26 cdd26 ctd26), sld26⟩)
    (cd26 : PySem.W.codeIn K cdd26 "written_heights" = true)
    (kd26 : PySem.W.keepIn K (.ref fd26) = true)
    (ad27 : PySem.W.nsIn K mainGlobals "check_pairs" = some (some (.ref fd27)))
    (ld27 : K.lookup fd27 = some ⟨ocd27, odd27, .func (PySem.W.fnOf "check_pairs" "check_pairs" (defArgs sCheck) (defBody sCheck) (defScope sCheck) .none kVd27 dcd27 pmd27 and27 cdd27 ctd27), sld27⟩)
    (cd27 : PySem.W.codeIn K cdd27 "check_pairs" = true)
    (kd27 : PySem.W.keepIn K (.ref fd27) = true)
    (ad28 : PySem.W.nsIn K mainGlobals "law" = some (some (.ref fd28)))
    (ld28 : K.lookup fd28 = some ⟨ocd28, odd28, .func (PySem.W.fnOf "law" "law" (defArgs sLaw) (defBody sLaw) (defScope sLaw) .none kVd28 dcd28 pmd28 and28 cdd28 ctd28), sld28⟩)
    (cd28 : PySem.W.codeIn K cdd28 "law" = true)
    (kd28 : PySem.W.keepIn K (.ref fd28) = true)
    (gL : PySem.W.nsIn K mainGlobals "Lives" = some (some (.ref C)))
    (am0 : PySem.W.findIn K (.ref C) "__init__" = some (some (.ref fm0)))
    (lm0 : K.lookup fm0 = some ⟨ocm0, odm0, .func (PySem.W.fnOf "__init__" "Lives.__init__" (defArgs sInitL) (defBody sInitL) (defScope sInitL) .none kVm0 dcm0 pmm0 anm0 cdm0 ctm0), slm0⟩)
    (cm0 : PySem.W.codeIn K cdm0 "Lives.__init__" = true)
    (km0 : PySem.W.keepIn K (.ref fm0) = true)
    (am1 : PySem.W.findIn K (.ref C) "text" = some (some (.ref fm1)))
    (lm1 : K.lookup fm1 = some ⟨ocm1, odm1, .func (PySem.W.fnOf "text" "Lives.text" (defArgs sText) (defBody sText) (defScope sText) .none kVm1 dcm1 pmm1 anm1 cdm1 ctm1), slm1⟩)
    (cm1 : PySem.W.codeIn K cdm1 "Lives.text" = true)
    (km1 : PySem.W.keepIn K (.ref fm1) = true)
    (gm2 : PySem.W.findCls K (.ref C) (.type "type") "read" = some (.get (.builtin "staticmethod.__get__") (.ref qR) .none (.ref C)))
    (am2 : PySem.W.recIn K qR "staticmethod" = some (.ref fm2 :: rR))
    (lm2 : K.lookup fm2 = some ⟨ocm2, odm2, .func (PySem.W.fnOf "read" "Lives.read" (defArgs sReadL) (defBody sReadL) (defScope sReadL) .none kVm2 dcm2 pmm2 anm2 cdm2 ctm2), slm2⟩)
    (cm2 : PySem.W.codeIn K cdm2 "Lives.read" = true)
    (km2 : PySem.W.keepIn K (.ref fm2) = true)
    (am3 : PySem.W.findIn K (.ref C) "__eq__" = some (some (.ref fm3)))
    (lm3 : K.lookup fm3 = some ⟨ocm3, odm3, .func (PySem.W.fnOf "__eq__" "Lives.__eq__" (defArgs sEqL) (defBody sEqL) (defScope sEqL) .none kVm3 dcm3 pmm3 anm3 cdm3 ctm3), slm3⟩)
    (cm3 : PySem.W.codeIn K cdm3 "Lives.__eq__" = true)
    (km3 : PySem.W.keepIn K (.ref fm3) = true)
    (am4 : PySem.W.findIn K (.ref C) "__len__" = some (some (.ref fm4)))
    (lm4 : K.lookup fm4 = some ⟨ocm4, odm4, .func (PySem.W.fnOf "__len__" "Lives.__len__" (defArgs sLenL) (defBody sLenL) (defScope sLenL) .none kVm4 dcm4 pmm4 anm4 cdm4 ctm4), slm4⟩)
    (cm4 : PySem.W.codeIn K cdm4 "Lives.__len__" = true)
    (km4 : PySem.W.keepIn K (.ref fm4) = true)
    (am5 : PySem.W.findIn K (.ref C) "__repr__" = some (some (.ref fm5)))
    (lm5 : K.lookup fm5 = some ⟨ocm5, odm5, .func (PySem.W.fnOf "__repr__" "Lives.__repr__" (defArgs sReprL) (defBody sReprL) (defScope sReprL) .none kVm5 dcm5 pmm5 anm5 cdm5 ctm5), slm5⟩)
    (cm5 : PySem.W.codeIn K cdm5 "Lives.__repr__" = true)
    (km5 : PySem.W.keepIn K (.ref fm5) = true)
    (gx0 : PySem.W.nsIn K mainGlobals "BadText" = some (some (.ref CB)))
    (ax0 : PySem.W.findIn K (.ref CB) "__init__" = some (some (.ref fx0)))
    (lx0 : K.lookup fx0 = some ⟨ocx0, odx0, .func (PySem.W.fnOf "__init__" "BadText.__init__" (defArgs sBadText) (defBody sBadText) (defScope sBadText) .none kVx0 dcx0 pmx0 anx0 cdx0 ctx0), slx0⟩)
    (cx0 : PySem.W.codeIn K cdx0 "BadText.__init__" = true)
    (kx0 : PySem.W.keepIn K (.ref fx0) = true)
    (gx1 : PySem.W.nsIn K mainGlobals "BadValue" = some (some (.ref CV)))
    (ax1 : PySem.W.findIn K (.ref CV) "__init__" = some (some (.ref fx1)))
    (lx1 : K.lookup fx1 = some ⟨ocx1, odx1, .func (PySem.W.fnOf "__init__" "BadValue.__init__" (defArgs sBadValue) (defBody sBadValue) (defScope sBadValue) .none kVx1 dcx1 pmx1 anx1 cdx1 ctx1), slx1⟩)
    (cx1 : PySem.W.codeIn K cdx1 "BadValue.__init__" = true)
    (kx1 : PySem.W.keepIn K (.ref fx1) = true)
    (gx2 : PySem.W.nsIn K mainGlobals "TooMany" = some (some (.ref CM)))
    (ax2 : PySem.W.findIn K (.ref CM) "__init__" = some (some (.ref fx2)))
    (lx2 : K.lookup fx2 = some ⟨ocx2, odx2, .func (PySem.W.fnOf "__init__" "TooMany.__init__" (defArgs sTooMany) (defBody sTooMany) (defScope sTooMany) .none kVx2 dcx2 pmx2 anx2 cdx2 ctx2), slx2⟩)
    (cx2 : PySem.W.codeIn K cdx2 "TooMany.__init__" = true)
    (kx2 : PySem.W.keepIn K (.ref fx2) = true)
    (zint : PySem.W.nsIn K mainGlobals "int" = some none)
    (zlen : PySem.W.nsIn K mainGlobals "len" = some none)
    (zlist : PySem.W.nsIn K mainGlobals "list" = some none)
    (ztuple : PySem.W.nsIn K mainGlobals "tuple" = some none)
    (zisinstance : PySem.W.nsIn K mainGlobals "isinstance" = some none)
    (zall : PySem.W.nsIn K mainGlobals "all" = some none)
    (zany : PySem.W.nsIn K mainGlobals "any" = some none)
    (zrange : PySem.W.nsIn K mainGlobals "range" = some none)
    (zstr : PySem.W.nsIn K mainGlobals "str" = some none)
    (zrepr : PySem.W.nsIn K mainGlobals "repr" = some none)
    (zsorted : PySem.W.nsIn K mainGlobals "sorted" = some none)
    (zenumerate : PySem.W.nsIn K mainGlobals "enumerate" = some none)
    (zzip : PySem.W.nsIn K mainGlobals "zip" = some none)
    (zmin : PySem.W.nsIn K mainGlobals "min" = some none)
    (zmax : PySem.W.nsIn K mainGlobals "max" = some none)
    (wL : PySem.W.nsIn K mainGlobals "LONGEST" = some (some (.int 60000 tL)))
    (wW : PySem.W.nsIn K mainGlobals "WORDS" = some (some (.ref aW)))
    (bB : clOk K CB fx0 tlV "ValueError.__new__" ["what", "line", "why"] = true)
    (bV : clOk K CV fx1 tlV "ValueError.__new__" ["what"] = true)
    (bM : clOk K CM fx2 tlV "ValueError.__new__" ["what", "count"] = true)
    (bW : strsOk K aW ["hollows", "summits", "loose", "lowest", "highest"] = true)
    (bL : lvOk K C fm0 fm1 fm3 fm4 fm5 = true)
    (bE : exOk K CB CV = true)
    : ∃ fd : FuncData, (∀ (s : Shared) (v : Value), BindsTo s fd ⟨[v], []⟩ [("script", v)]) ∧ ∀ base : Heap, K.In base → base.Ns mainGlobals mg → FnOkG l.prog w K mg base CX0 9 fa fd ["script"] (spLaw K) := by
  have e := hfa.symm.trans (PySem.W.mg_of X G ad28)
  cases e
  have Fd0 := fun_mk (x := "_law_box") (qual := "_law_box") (st := sBox) ld0 cd0 kd0
  have Bd0 := Fd0.binds (ps := ["script"]) fun _ _ _ _ _ _ us hl => match us, hl with | [_], _ => rfl
  have Fd1 := fun_mk (x := "_law_take") (qual := "_law_take") (st := sTake) ld1 cd1 kd1
  have Bd1 := Fd1.binds (ps := ["box", "limit"]) fun _ _ _ _ _ _ us hl => match us, hl with | [_, _], _ => rfl
  have Fd2 := fun_mk (x := "_law_of") (qual := "_law_of") (st := sOf) ld2 cd2 kd2
  have Bd2 := Fd2.binds (ps := ["box", "things"]) fun _ _ _ _ _ _ us hl => match us, hl with | [_, _], _ => rfl
  have Fd3 := fun_mk (x := "_law_mixed") (qual := "_law_mixed") (st := sMixed) ld3 cd3 kd3
  have Bd3 := Fd3.binds (ps := ["box", "things"]) fun _ _ _ _ _ _ us hl => match us, hl with | [_, _], _ => rfl
  have Fd4 := fun_mk (x := "_law_put") (qual := "_law_put") (st := sPut) ld4 cd4 kd4
  have Bd4 := Fd4.binds (ps := ["box", "row", "x"]) fun _ _ _ _ _ _ us hl => match us, hl with | [_, _, _], _ => rfl
  have Fd5 := fun_mk (x := "_law_number") (qual := "_law_number") (st := sNumber) ld5 cd5 kd5
  have Bd5 := Fd5.binds (ps := ["box"]) fun _ _ _ _ _ _ us hl => match us, hl with | [_], _ => rfl
  have Fd6 := fun_mk (x := "_law_pair") (qual := "_law_pair") (st := sPair) ld6 cd6 kd6
  have Bd6 := Fd6.binds (ps := ["box"]) fun _ _ _ _ _ _ us hl => match us, hl with | [_], _ => rfl
  have Fd7 := fun_mk (x := "_law_row") (qual := "_law_row") (st := sRow) ld7 cd7 kd7
  have Bd7 := Fd7.binds (ps := ["box", "many"]) fun _ _ _ _ _ _ us hl => match us, hl with | [_, _], _ => rfl
  have Fd8 := fun_mk (x := "_law_words") (qual := "_law_words") (st := sWords) ld8 cd8 kd8
  have Bd8 := Fd8.binds (ps := ["first", "rest"]) fun _ _ _ _ _ _ us hl => match us, hl with | [_, _], _ => rfl
  have Fd9 := fun_mk (x := "_law_written") (qual := "_law_written") (st := sWritten) ld9 cd9 kd9
  have Bd9 := Fd9.binds (ps := ["five"]) fun _ _ _ _ _ _ us hl => match us, hl with | [_], _ => rfl
  have Fd10 := fun_mk (x := "_law_is_number") (qual := "_law_is_number") (st := sIsNum) ld10 cd10 kd10
  have Bd10 := Fd10.binds (ps := ["word"]) fun _ _ _ _ _ _ us hl => match us, hl with | [_], _ => rfl
  have Fd11 := fun_mk (x := "_law_line") (qual := "_law_line") (st := sLLine) ld11 cd11 kd11
  have Bd11 := Fd11.binds (ps := ["line", "k"]) fun _ _ _ _ _ _ us hl => match us, hl with | [_, _], _ => rfl
  have Fd12 := fun_mk (x := "_law_fault") (qual := "_law_fault") (st := sFault) ld12 cd12 kd12
  have Bd12 := Fd12.binds (ps := ["words"]) fun _ _ _ _ _ _ us hl => match us, hl with | [_], _ => rfl
  have Fd13 := fun_mk (x := "_law_meant") (qual := "_law_meant") (st := sMeant) ld13 cd13 kd13
  have Bd13 := Fd13.binds (ps := ["words"]) fun _ _ _ _ _ _ us hl => match us, hl with | [_], _ => rfl
  have Fd14 := fun_mk (x := "_law_bent") (qual := "_law_bent") (st := sBent) ld14 cd14 kd14
  have Bd14 := Fd14.binds (ps := ["box", "words"]) fun _ _ _ _ _ _ us hl => match us, hl with | [_, _], _ => rfl
  have Fd15 := fun_mk (x := "_law_read") (qual := "_law_read") (st := sReadT) ld15 cd15 kd15
  have Bd15 := Fd15.binds (ps := ["words"]) fun _ _ _ _ _ _ us hl => match us, hl with | [_], _ => rfl
  have Fd16 := fun_mk (x := "_law_made") (qual := "_law_made") (st := sMadeT) ld16 cd16 kd16
  have Bd16 := Fd16.binds (ps := ["five"]) fun _ _ _ _ _ _ us hl => match us, hl with | [_], _ => rfl
  have Fd17 := fun_mk (x := "_law_just") (qual := "_law_just") (st := sJust) ld17 cd17 kd17
  have Bd17 := Fd17.binds (ps := ["told", "due"]) fun _ _ _ _ _ _ us hl => match us, hl with | [_, _], _ => rfl
  have Fd18 := fun_mk (x := "_law_told_lives") (qual := "_law_told_lives") (st := sTold) ld18 cd18 kd18
  have Bd18 := Fd18.binds (ps := ["told"]) fun _ _ _ _ _ _ us hl => match us, hl with | [_], _ => rfl
  have Fd19 := fun_mk (x := "number_in") (qual := "number_in") (st := sNumIn) ld19 cd19 kd19
  have Bd19 := Fd19.binds (ps := ["word"]) fun _ _ _ _ _ _ us hl => match us, hl with | [_], _ => rfl
  have Fd20 := fun_mk (x := "span_in") (qual := "span_in") (st := sSpan) ld20 cd20 kd20
  have Bd20 := Fd20.binds (ps := ["word"]) fun _ _ _ _ _ _ us hl => match us, hl with | [_], _ => rfl
  have Fd21 := fun_mk (x := "text_pieces") (qual := "text_pieces") (st := sPieces) ld21 cd21 kd21
  have Bd21 := Fd21.binds (ps := ["what", "text"]) fun _ _ _ _ _ _ us hl => match us, hl with | [_, _], _ => rfl
  have Fd22 := fun_mk (x := "close_text") (qual := "close_text") (st := sClose) ld22 cd22 kd22
  have Bd22 := Fd22.binds (ps := ["what", "pieces", "due"]) fun _ _ _ _ _ _ us hl => match us, hl with | [_, _, _], _ => rfl
  have Fd23 := fun_mk (x := "read_lives") (qual := "read_lives") (st := sLives) ld23 cd23 kd23
  have Bd23 := Fd23.binds (ps := ["text"]) fun _ _ _ _ _ _ us hl => match us, hl with | [_], _ => rfl
  have Fd24 := fun_mk (x := "read_line") (qual := "read_line") (st := sLine) ld24 cd24 kd24
  have Bd24 := Fd24.binds (ps := ["place", "line"]) fun _ _ _ _ _ _ us hl => match us, hl with | [_, _], _ => rfl
  have Fd25 := fun_mk (x := "written_spans") (qual := "written_spans") (st := sWS) ld25 cd25 kd25
  have Bd25 := Fd25.binds (ps := ["word", "pairs"]) fun _ _ _ _ _ _ us hl => match us, hl with | [_, _], _ => rfl
  have Fd26 := fun_mk (x := "written_heights") (qual := "written_heights") (st := sWH) ld26 cd26 kd26
  have Bd26 := Fd26.binds (ps := ["word", "heights"]) fun _ _ _ _ _ _ us hl => match us, hl with | [_, _], _ => rfl
  have Fd27 := fun_mk (x := "check_pairs") (qual := "check_pairs") (st := sCheck) ld27 cd27 kd27
  have Bd27 := Fd27.binds (ps := ["what", "pairs"]) fun _ _ _ _ _ _ us hl => match us, hl with | [_, _], _ => rfl
  have Fd28 := fun_mk (x := "law") (qual := "law") (st := sLaw) ld28 cd28 kd28
  have Fm0 := fun_mk (x := "__init__") (qual := "Lives.__init__") (st := sInitL) lm0 cm0 km0
  have Bm0 := Fm0.binds (ps := ["self", "hollows", "summits", "loose", "lowest", "highest"]) fun _ _ _ _ _ _ us hl => match us, hl with | [_, _, _, _, _, _], _ => rfl
  have Fm1 := fun_mk (x := "text") (qual := "Lives.text") (st := sText) lm1 cm1 km1
  have Bm1 := Fm1.binds (ps := ["self"]) fun _ _ _ _ _ _ us hl => match us, hl with | [_], _ => rfl
  have Fm2 := fun_mk (x := "read") (qual := "Lives.read") (st := sReadL) lm2 cm2 km2
  have Bm2 := Fm2.binds (ps := ["text"]) fun _ _ _ _ _ _ us hl => match us, hl with | [_], _ => rfl
  have Fm3 := fun_mk (x := "__eq__") (qual := "Lives.__eq__") (st := sEqL) lm3 cm3 km3
  have Bm3 := Fm3.binds (ps := ["self", "other"]) fun _ _ _ _ _ _ us hl => match us, hl with | [_, _], _ => rfl
  have Fm4 := fun_mk (x := "__len__") (qual := "Lives.__len__") (st := sLenL) lm4 cm4 km4
  have Bm4 := Fm4.binds (ps := ["self"]) fun _ _ _ _ _ _ us hl => match us, hl with | [_], _ => rfl
  have Fm5 := fun_mk (x := "__repr__") (qual := "Lives.__repr__") (st := sReprL) lm5 cm5 km5
  have Bm5 := Fm5.binds (ps := ["self"]) fun _ _ _ _ _ _ us hl => match us, hl with | [_], _ => rfl
  have Fx0 := fun_mk (x := "__init__") (qual := "BadText.__init__") (st := sBadText) lx0 cx0 kx0
  have Bx0 := Fx0.binds (ps := ["self", "what", "line", "why"]) fun _ _ _ _ _ _ us hl => match us, hl with | [_, _, _, _], _ => rfl
  have Fx1 := fun_mk (x := "__init__") (qual := "BadValue.__init__") (st := sBadValue) lx1 cx1 kx1
  have Bx1 := Fx1.binds (ps := ["self", "what"]) fun _ _ _ _ _ _ us hl => match us, hl with | [_, _], _ => rfl
  have Fx2 := fun_mk (x := "__init__") (qual := "TooMany.__init__") (st := sTooMany) lx2 cx2 kx2
  have Bx2 := Fx2.binds (ps := ["self", "what", "count"]) fun _ _ _ _ _ _ us hl => match us, hl with | [_, _, _], _ => rfl
  have T : Bt mg := ⟨PySem.W.mg_none_of X G zint, PySem.W.mg_none_of X G zlen, PySem.W.mg_none_of X G zlist, PySem.W.mg_none_of X G ztuple, PySem.W.mg_none_of X G zisinstance, PySem.W.mg_none_of X G zall, PySem.W.mg_none_of X G zany, PySem.W.mg_none_of X G zrange, PySem.W.mg_none_of X G zstr, PySem.W.mg_none_of X G zrepr, PySem.W.mg_none_of X G zsorted, PySem.W.mg_none_of X G zenumerate, PySem.W.mg_none_of X G zzip, PySem.W.mg_none_of X G zmin, PySem.W.mg_none_of X G zmax⟩
  have Cc : Cs K mg := ⟨⟨_, PySem.W.mg_of X G wL, ⟨_, rfl⟩⟩, ⟨aW, PySem.W.mg_of X G wW, fun H => strs_at bW H⟩⟩
  have D : Xs K mg ⟨CB, CV, CM, fx0, fx1, fx2, (PySem.W.fnOf "__init__" "BadText.__init__" (defArgs sBadText) (defBody sBadText) (defScope sBadText) .none kVx0 dcx0 pmx0 anx0 cdx0 ctx0), (PySem.W.fnOf "__init__" "BadValue.__init__" (defArgs sBadValue) (defBody sBadValue) (defScope sBadValue) .none kVx1 dcx1 pmx1 anx1 cdx1 ctx1), (PySem.W.fnOf "__init__" "TooMany.__init__" (defArgs sTooMany) (defBody sTooMany) (defScope sTooMany) .none kVx2 dcx2 pmx2 anx2 cdx2 ctx2)⟩ := ⟨xc_of bB ax0 Fx0 Bx0 (PySem.W.mg_of X G gx0), xc_of bV ax1 Fx1 Bx1 (PySem.W.mg_of X G gx1), xc_of bM ax2 Fx2 Bx2 (PySem.W.mg_of X G gx2)⟩
  have V := lv_of bL
  have L := V.L
  have I := V.I
  have gC := PySem.W.mg_of X G gL
  have M := V.mkC am0
  have S : Es K ⟨CB, CV, CM, fx0, fx1, fx2, (PySem.W.fnOf "__init__" "BadText.__init__" (defArgs sBadText) (defBody sBadText) (defScope sBadText) .none kVx0 dcx0 pmx0 anx0 cdx0 ctx0), (PySem.W.fnOf "__init__" "BadValue.__init__" (defArgs sBadValue) (defBody sBadValue) (defScope sBadValue) .none kVx1 dcx1 pmx1 anx1 cdx1 ctx1), (PySem.W.fnOf "__init__" "TooMany.__init__" (defArgs sTooMany) (defBody sTooMany) (defScope sTooMany) .none kVx2 dcx2 pmx2 anx2 cdx2 ctx2)⟩ := by
    obtain ⟨e1, e2⟩ := Bool.and_eq_true_iff.mp bE
    exact ⟨eq_of_beq e1, eq_of_beq e2⟩
  have D0 : Df K mg "_law_box" sBox ["script"] fd0 _ := ⟨Fd0, Bd0, PySem.W.mg_of X G ad0⟩
  have D1 : Df K mg "_law_take" sTake ["box", "limit"] fd1 _ := ⟨Fd1, Bd1, PySem.W.mg_of X G ad1⟩
  have D2 : Df K mg "_law_of" sOf ["box", "things"] fd2 _ := ⟨Fd2, Bd2, PySem.W.mg_of X G ad2⟩
  have D3 : Df K mg "_law_mixed" sMixed ["box", "things"] fd3 _ := ⟨Fd3, Bd3, PySem.W.mg_of X G ad3⟩
  have D4 : Df K mg "_law_put" sPut ["box", "row", "x"] fd4 _ := ⟨Fd4, Bd4, PySem.W.mg_of X G ad4⟩
  have D5 : Df K mg "_law_number" sNumber ["box"] fd5 _ := ⟨Fd5, Bd5, PySem.W.mg_of X G ad5⟩
  have D6 : Df K mg "_law_pair" sPair ["box"] fd6 _ := ⟨Fd6, Bd6, PySem.W.mg_of X G ad6⟩
  have D7 : Df K mg "_law_row" sRow ["box", "many"] fd7 _ := ⟨Fd7, Bd7, PySem.W.mg_of X G ad7⟩
  have D8 : Df K mg "_law_words" sWords ["first", "rest"] fd8 _ := ⟨Fd8, Bd8, PySem.W.mg_of X G ad8⟩
  have D9 : Df K mg "_law_written" sWritten ["five"] fd9 _ := ⟨Fd9, Bd9, PySem.W.mg_of X G ad9⟩
  have D10 : Df K mg "_law_is_number" sIsNum ["word"] fd10 _ := ⟨Fd10, Bd10, PySem.W.mg_of X G ad10⟩
  have D11 : Df K mg "_law_line" sLLine ["line", "k"] fd11 _ := ⟨Fd11, Bd11, PySem.W.mg_of X G ad11⟩
  have D12 : Df K mg "_law_fault" sFault ["words"] fd12 _ := ⟨Fd12, Bd12, PySem.W.mg_of X G ad12⟩
  have D13 : Df K mg "_law_meant" sMeant ["words"] fd13 _ := ⟨Fd13, Bd13, PySem.W.mg_of X G ad13⟩
  have D14 : Df K mg "_law_bent" sBent ["box", "words"] fd14 _ := ⟨Fd14, Bd14, PySem.W.mg_of X G ad14⟩
  have D15 : Df K mg "_law_read" sReadT ["words"] fd15 _ := ⟨Fd15, Bd15, PySem.W.mg_of X G ad15⟩
  have D16 : Df K mg "_law_made" sMadeT ["five"] fd16 _ := ⟨Fd16, Bd16, PySem.W.mg_of X G ad16⟩
  have D17 : Df K mg "_law_just" sJust ["told", "due"] fd17 _ := ⟨Fd17, Bd17, PySem.W.mg_of X G ad17⟩
  have D18 : Df K mg "_law_told_lives" sTold ["told"] fd18 _ := ⟨Fd18, Bd18, PySem.W.mg_of X G ad18⟩
  have D19 : Df K mg "number_in" sNumIn ["word"] fd19 _ := ⟨Fd19, Bd19, PySem.W.mg_of X G ad19⟩
  have D20 : Df K mg "span_in" sSpan ["word"] fd20 _ := ⟨Fd20, Bd20, PySem.W.mg_of X G ad20⟩
  have D21 : Df K mg "text_pieces" sPieces ["what", "text"] fd21 _ := ⟨Fd21, Bd21, PySem.W.mg_of X G ad21⟩
  have D22 : Df K mg "close_text" sClose ["what", "pieces", "due"] fd22 _ := ⟨Fd22, Bd22, PySem.W.mg_of X G ad22⟩
  have D23 : Df K mg "read_lives" sLives ["text"] fd23 _ := ⟨Fd23, Bd23, PySem.W.mg_of X G ad23⟩
  have D24 : Df K mg "read_line" sLine ["place", "line"] fd24 _ := ⟨Fd24, Bd24, PySem.W.mg_of X G ad24⟩
  have D25 : Df K mg "written_spans" sWS ["word", "pairs"] fd25 _ := ⟨Fd25, Bd25, PySem.W.mg_of X G ad25⟩
  have D26 : Df K mg "written_heights" sWH ["word", "heights"] fd26 _ := ⟨Fd26, Bd26, PySem.W.mg_of X G ad26⟩
  have D27 : Df K mg "check_pairs" sCheck ["what", "pairs"] fd27 _ := ⟨Fd27, Bd27, PySem.W.mg_of X G ad27⟩
  have St : Stat K C "read" fm2 := ⟨V.ga, V.rd, ⟨qR, rR, gm2, am2⟩, km2⟩
  refine ⟨(PySem.W.fnOf "law" "law" (defArgs sLaw) (defBody sLaw) (defScope sLaw) .none kVd28 dcd28 pmd28 and28 cdd28 ctd28), fun s v => .of_eq rfl, fun base _ _ => ok_lawG (c := ⟨CB, CV, CM, fx0, fx1, fx2, (PySem.W.fnOf "__init__" "BadText.__init__" (defArgs sBadText) (defBody sBadText) (defScope sBadText) .none kVx0 dcx0 pmx0 anx0 cdx0 ctx0), (PySem.W.fnOf "__init__" "BadValue.__init__" (defArgs sBadValue) (defBody sBadValue) (defScope sBadValue) .none kVx1 dcx1 pmx1 anx1 cdx1 ctx1), (PySem.W.fnOf "__init__" "TooMany.__init__" (defArgs sTooMany) (defBody sTooMany) (defScope sTooMany) .none kVx2 dcx2 pmx2 anx2 cdx2 ctx2)⟩) (C := C) Fd28 ?_⟩
  have Gi : FnOk l.prog w K mg base (L2.CX l.prog w) 4 fm0 _ ["self", "hollows", "summits", "loose", "lowest", "highest"] (spInitL K _ C) := ok_initL Fm0 T D L D27
  have Gl : FnOk l.prog w K mg base (L2.CX l.prog w) 4 fd23 _ ["text"] (spLives K _) := ok_lives D23.fn T Cc D D21 D22 D24 D20 D19
  have Gr : FnOk l.prog w K mg base (L2.CX l.prog w) 6 fm2 _ ["text"] (spReadL K _ C) := ok_readL Fm2 gC M Bm0 D23 Gl Gi
  exact {
    T := T
    L := L
    gC := gC
    box := ⟨_, _, D0, ok_box D0.fn T⟩
    take := ⟨_, _, D1, ok_take D1.fn T⟩
    of := ⟨_, _, D2, Lw.ok_of D2.fn T D1⟩
    mixed := ⟨_, _, D3, ok_mixed D3.fn T D1⟩
    put := ⟨_, _, D4, ok_put D4.fn T D1⟩
    number := ⟨_, _, D5, ok_number D5.fn T D1⟩
    row := ⟨_, _, D7, ok_row D7.fn T D1 D5 D6⟩
    told := ⟨_, _, D18, ok_told D18.fn T L I gC⟩
    written := ⟨_, _, D9, ok_written D9.fn T D8⟩
    fault := ⟨_, _, D12, ok_fault D12.fn T D11 D10⟩
    meant := ⟨_, _, D13, ok_meant D13.fn T⟩
    bent := ⟨_, _, D14, ok_bent D14.fn T D1 D2⟩
    readT := ⟨_, _, D15, ok_readT D15.fn D S gC St Bm2 Gr⟩
    madeT := ⟨_, _, D16, ok_madeT D16.fn D S gC M Bm0 Gi⟩
    just := ⟨_, _, D17, ok_just D17.fn T⟩
    text := ⟨_, _, ⟨am1, V.T, km1⟩, Bm1, ok_text Fm1 T L D25 D26⟩
    len := ⟨_, _, ⟨am4, V.N, km4⟩, Bm4, ok_lenL Fm4 T L⟩
    repr := ⟨_, _, ⟨am5, V.R, km5⟩, Bm5, ok_reprL Fm5 T L⟩
    eq := ⟨_, _, V.eq am3, Bm3, ok_eqL Fm3 T L I (V.eq am3).kS gC⟩
    obj := V.obj
    init := ⟨_, _, M, Fm0, Gi⟩
    read := ⟨_, _, St, Fm2, Gr⟩ }
theorem walk {l : PySem.W.OpenLaw} {q : Program} {loose : List Str} {XP : (Str → Option Value) → Heap → Prop} {YP : World → Heap → Prop} {d : DefRec} {K : Params → PySem.W.Frag} (hn : l.most = some 63) (hdf : d.params.defaults = [])
    (hY : ∀ (w : World) (h : Heap), YP w h → (K w.params).In h)
    (F : ∀ (w : World) (mg : Str → Option Value) (fa : Addr) (h : Heap), (K w.params).In h → h.Ns mainGlobals mg → mg d.name = some (.ref fa) →
      ∃ fd : FuncData, (∀ (s : Shared) (u : Value), BindsTo s fd ⟨[u], []⟩ [("script", u)]) ∧ ∀ base : Heap, (K w.params).In base → base.Ns mainGlobals mg → FnOkG l.prog w (K w.params) mg base CX0 9 fa fd ["script"] (spLaw (K w.params))) :
    PySem.W.WalkO q loose XP YP l.row.toRowW d [] (fun f vs => PySem.call f vs) :=
  GO.walkG (k := 9) (sp := spLaw) ⟨rfl, by decide, by decide⟩ hn hdf hY F fun _ _ a ns hl hS => ⟨a, ns, rfl, hS, hl, fun _ => rfl⟩
end Lw
open PySem PySem.W PyProof.Rows
set_option maxRecDepth 100000 in
set_option maxHeartbeats 0 in
theorem PySem.Challenge.cw_bothleast_k67_lives_there_and_back_holds : PySem.Challenge.rw_bothleast_k67_lives_there_and_back.Holds := by
  w_on; o_law; k_head; (case hw => w_witness2)
  k_fill
  refine Lw.walk (l := PySem.Challenge.rw_bothleast_k67_lives_there_and_back) rfl rfl (fun w h Y => PySem.W.kIn_of Y) ?F
  case F =>
    intro w mg fa h KX G hmg
    refine' Lw.all_mk KX G hmg ?ad0 ?ld0 ?cd0 ?kd0 ?ad1 ?ld1 ?cd1 ?kd1 ?ad2 ?ld2 ?cd2 ?kd2 ?ad3 ?ld3 ?cd3 ?kd3 ?ad4 ?ld4 ?cd4 ?kd4 ?ad5 ?ld5 ?cd5 ?kd5 ?ad6 ?ld6 ?cd6 ?kd6 ?ad7 ?ld7 ?cd7 ?kd7 ?ad8 ?ld8 ?cd8 ?kd8 ?ad9 ?ld9 ?cd9 ?kd9 ?ad10 ?ld10 ?cd10 ?kd10 ?ad11 ?ld11 ?cd11 ?kd11 ?ad12 ?ld12 ?cd12 ?kd12 ?ad13 ?ld13 ?cd13 ?kd13 ?ad14 ?ld14 ?cd14 ?kd14 ?ad15 ?ld15 ?cd15 ?kd15 ?ad16 ?ld16 ?cd16 ?kd16 ?ad17 ?ld17 ?cd17 ?kd17 ?ad18 ?ld18 ?cd18 ?kd18 ?ad19 ?ld19 ?cd19 ?kd19 ?ad20 ?ld20 ?cd20 ?kd20 ?ad21 ?ld21 ?cd21 ?kd21 ?ad22 ?ld22 ?cd22 ?kd22 ?ad23 ?ld23 ?cd23 ?kd23 ?ad24 ?ld24 ?cd24 ?kd24 ?ad25 ?ld25 ?cd25 ?kd25 ?ad26 ?ld26 ?cd26 ?kd26 ?ad27 ?ld27 ?cd27 ?kd27 ?ad28 ?ld28 ?cd28 ?kd28 ?gL ?am0 ?lm0 ?cm0 ?km0 ?am1 ?lm1 ?cm1 ?km1 ?gm2 ?am2 ?lm2 ?cm2 ?km2 ?am3 ?lm3 ?cm3 ?km3 ?am4 ?lm4 ?cm4 ?km4 ?am5 ?lm5 ?cm5 ?km5 ?gx0 ?ax0 ?lx0 ?cx0 ?kx0 ?gx1 ?ax1 ?lx1 ?cx1 ?kx1 ?gx2 ?ax2 ?lx2 ?cx2 ?kx2 ?zint ?zlen ?zlist ?ztuple ?zisinstance ?zall ?zany ?zrange ?zstr ?zrepr ?zsorted ?zenumerate ?zzip ?zmin ?zmax ?wL ?wW ?bB ?bV ?bM ?bW ?bL ?bE
    (case ad0 => k_is)
    (case ld0 => k_is)
    (case cd0 => k_is)
    (case kd0 => k_is)
    (case ad1 => k_is)
    (case ld1 => k_is)
    (case cd1 => k_is)
    (case kd1 => k_is)
    (case ad2 => k_is)
    (case ld2 => k_is)
    (case cd2 => k_is)
    (case kd2 => k_is)
    (case ad3 => k_is)
    (case ld3 => k_is)
    (case cd3 => k_is)
    (case kd3 => k_is)
    (case ad4 => k_is)
    (case ld4 => k_is)
    (case cd4 => k_is)
    (case kd4 => k_is)
    (case ad5 => k_is)
    (case ld5 => k_is)
    (case cd5 => k_is)
    (case kd5 => k_is)
    (case ad6 => k_is)
    (case ld6 => k_is)
    (case cd6 => k_is)
    (case kd6 => k_is)
    (case ad7 => k_is)
    (case ld7 => k_is)
    (case cd7 => k_is)
    (case kd7 => k_is)
    (case ad8 => k_is)
    (case ld8 => k_is)
    (case cd8 => k_is)
    (case kd8 => k_is)
    (case ad9 => k_is)
    (case ld9 => k_is)
    (case cd9 => k_is)
    (case kd9 => k_is)
    (case ad10 => k_is)
    (case ld10 => k_is)
    (case cd10 => k_is)
    (case kd10 => k_is)
    (case ad11 => k_is)
    (case ld11 => k_is)
    (case cd11 => k_is)
    (case kd11 => k_is)
    (case ad12 => k_is)
    (case ld12 => k_is)
    (case cd12 => k_is)
    (case kd12 => k_is)
    (case ad13 => k_is)
    (case ld13 => k_is)
    (case cd13 => k_is)
    (case kd13 => k_is)
    (case ad14 => k_is)
    (case ld14 => k_is)
    (case cd14 => k_is)
    (case kd14 => k_is)
    (case ad15 => k_is)
    (case ld15 => k_is)
    (case cd15 => k_is)
    (case kd15 => k_is)
    (case ad16 => k_is)
    (case ld16 => k_is)
    (case cd16 => k_is)
    (case kd16 => k_is)
    (case ad17 => k_is)
    (case ld17 => k_is)
    (case cd17 => k_is)
    (case kd17 => k_is)
    (case ad18 => k_is)
    (case ld18 => k_is)
    (case cd18 => k_is)
    (case kd18 => k_is)
    (case ad19 => k_is)
    (case ld19 => k_is)
    (case cd19 => k_is)
    (case kd19 => k_is)
    (case ad20 => k_is)
    (case ld20 => k_is)
    (case cd20 => k_is)
    (case kd20 => k_is)
    (case ad21 => k_is)
    (case ld21 => k_is)
    (case cd21 => k_is)
    (case kd21 => k_is)
    (case ad22 => k_is)
    (case ld22 => k_is)
    (case cd22 => k_is)
    (case kd22 => k_is)
    (case ad23 => k_is)
    (case ld23 => k_is)
    (case cd23 => k_is)
    (case kd23 => k_is)
    (case ad24 => k_is)
    (case ld24 => k_is)
    (case cd24 => k_is)
    (case kd24 => k_is)
    (case ad25 => k_is)
    (case ld25 => k_is)
    (case cd25 => k_is)
    (case kd25 => k_is)
    (case ad26 => k_is)
    (case ld26 => k_is)
    (case cd26 => k_is)
    (case kd26 => k_is)
    (case ad27 => k_is)
    (case ld27 => k_is)
    (case cd27 => k_is)
    (case kd27 => k_is)
    (case ad28 => k_is)
    (case ld28 => k_is)
    (case cd28 => k_is)
    (case kd28 => k_is)
    (case gL => k_is)
    (case am0 => k_is)
    (case lm0 => k_is)
    (case cm0 => k_is)
    (case km0 => k_is)
    (case am1 => k_is)
    (case lm1 => k_is)
    (case cm1 => k_is)
    (case km1 => k_is)
    (case gm2 => k_is)
    (case am2 => k_is)
    (case lm2 => k_is)
    (case cm2 => k_is)
    (case km2 => k_is)
    (case am3 => k_is)
    (case lm3 => k_is)
    (case cm3 => k_is)
    (case km3 => k_is)
    (case am4 => k_is)
    (case lm4 => k_is)
    (case cm4 => k_is)
    (case km4 => k_is)
    (case am5 => k_is)
    (case lm5 => k_is)
    (case cm5 => k_is)
    (case km5 => k_is)
    (case gx0 => k_is)
    (case ax0 => k_is)
    (case lx0 => k_is)
    (case cx0 => k_is)
    (case kx0 => k_is)
    (case gx1 => k_is)
    (case ax1 => k_is)
    (case lx1 => k_is)
    (case cx1 => k_is)
    (case kx1 => k_is)
    (case gx2 => k_is)
    (case ax2 => k_is)
    (case lx2 => k_is)
    (case cx2 => k_is)
    (case kx2 => k_is)
    (case zint => k_is)
    (case zlen => k_is)
    (case zlist => k_is)
    (case ztuple => k_is)
    (case zisinstance => k_is)
    (case zall => k_is)
    (case zany => k_is)
    (case zrange => k_is)
    (case zstr => k_is)
    (case zrepr => k_is)
    (case zsorted => k_is)
    (case zenumerate => k_is)
    (case zzip => k_is)
    (case zmin => k_is)
    (case zmax => k_is)
    (case wL => k_is)
    (case wW => k_is)
    (case bB => kernel_rfl)
    (case bV => kernel_rfl)
    (case bM => kernel_rfl)
    (case bW => kernel_rfl)
    (case bL => kernel_rfl)
    (case bE => kernel_rfl)
